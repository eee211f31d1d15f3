import PyProof.Rows.All
import Wide.All
import OpenK.AllK
import Wide.FinOn
import HandS.ForMost
import HandS.TupAny
import HandS.IsInst
import HandS.Gcd
import HandS.Wide
import HandS.Flow
import HandS.Style
import HandS.TupMul
import HandS.Lambda
import HandS.Zip
import KE.GoesEnum
import HandS.Deep
import PyProof.ReprBulk
import PyProof.Rows.NestShow
import HandS.SortInts
import HandS.Dict
import HandS.More
import HandS.Iter
import HandS.WordsDict
import HandS.Conv
import HandS.Small
import PyProof.ListMulRoad
import HandS.TupSets
import HandS.Star
import HandS.Keys
import HandS.SetFor
import PyProof.Rows.SumAny
import HandS.WideBits
import KE.KDictZip
import HandS.DictComp
import PyProof.TupleOfSeq
import HandS.Exc
import HandS.ExcOwn
import HandS.TryOnly
import HandS.EndTab
import KE.KNestM
import KE.SortData
import KE.DataMinMax
import PySem.Challenge.RW_heedlore_k11_runs_rings_and_swings
set_option Elab.async false
set_option linter.all false
set_option maxRecDepth 100000
set_option maxHeartbeats 4000000
/-! Gx, part 0: values without the heap, a store of what changes, what stands for what. -/
namespace Gx
open PySem PySem.Spec L2

/-- a value: tuples, and lists that nobody changes any more, are data; what changes is named by its address -/
inductive D where
  | non | bl (b : Bool) | int (i : Int) | str (x : Str) | tup (ds : List D) | lst (ds : List D) | scr (ds : List D) | ref (a : Addr) | ty (n : String) | rng (lo hi : Int)
  | fn (f c : Addr) (q : Str) (u : HO) (ds : List D) (vs : List V) | exd (a d C : Addr) (f : Str) (x : D)
/-- what changes -/
inductive SO where
  | lst (ds : List D) | dK (kvs : List (Key × D)) | dT (kvs : List (List Key × D)) | dF (od : Obj) (ks : List (Key × V)) (kvs : List (Key × D)) | tab (q : Str)
abbrev Sto := Addr → Option SO
def up (S : Sto) (a : Addr) (o : SO) : Sto := fun b => if b = a then some o else S b
theorem up_same {S : Sto} {a : Addr} {o : SO} : up S a o a = some o := by unfold up; rw [if_pos rfl]
theorem up_ne {S : Sto} {a b : Addr} {o : SO} (h : b ≠ a) : up S a o b = S b := by unfold up; rw [if_neg h]
theorem up_up {S : Sto} {a : Addr} {o u : SO} : up (up S a o) a u = up S a u := by
  funext b; unfold up; split <;> rfl
/-- one store and another one beside it -/
def cmb (S F : Sto) : Sto := fun a => match S a with
  | some o => some o
  | none => F a
theorem cmb_l {S F : Sto} {a : Addr} {o : SO} (h : S a = some o) : cmb S F a = some o := by unfold cmb; rw [h]
theorem cmb_r {S F : Sto} {a : Addr} (h : S a = none) : cmb S F a = F a := by unfold cmb; rw [h]
theorem cmb_none {S F : Sto} {a : Addr} (h : cmb S F a = none) : S a = none ∧ F a = none := by
  unfold cmb at h
  split at h
  · cases h
  · exact ⟨by assumption, h⟩
theorem cmb_of_none {S F : Sto} {a : Addr} (h : S a = none) (h' : F a = none) : cmb S F a = none := by rw [cmb_r h, h']

/-- a list that nobody changes: tracked, or one of the module's own -/
def ScrAt (K : PySem.W.Frag) (T : Sto) (H : Hp) (a : Addr) (xs : List V) : Prop := (T a = none ∧ Rd H a (.lst xs)) ∨ SqL K (fun _ => none) a xs
theorem ScrAt.sq {K : PySem.W.Frag} {T : Sto} {H : Hp} {a : Addr} {xs : List V} (h : ScrAt K T H a xs) : SqL K H a xs := by
  rcases h with ⟨_, h⟩ | h | h
  · exact .inl h
  · rcases h with h | ⟨o, h⟩ <;> cases h
  · exact .inr h
section
variable (K : PySem.W.Frag)
mutual
/-- a value stands for a value of the heap -/
def Rp (T : Sto) (H : Hp) : D → V → Prop
  | .non, v => v = .non
  | .bl b, v => v = .bl b
  | .int i, v => v = .int i
  | .str x, v => v = .str x
  | .ref a, v => v = .ref a
  | .ty n, v => v = .ty n
  | .rng lo hi, v => ∃ a, v = .ref a ∧ T a = none ∧ H a = some (.rng lo hi)
  | .fn f c q u ds vs, v => v = .ref f ∧ (T f = none ∧ H f = some u) ∧ (T c = none ∧ H c = some (LamX.CodeO c q)) ∧ RpL T H ds vs
  | .exd a d _ f x, v => v = .ref a ∧ T d = none ∧ ∃ y, H d = some (.xd [(f, y)]) ∧ Rp T H x y
  | .tup ds, v => ∃ a xs, v = .ref a ∧ SqT K H a xs ∧ RpL T H ds xs
  | .lst ds, v => ∃ a xs, v = .ref a ∧ T a = none ∧ H a = some (.lst xs) ∧ RpL T H ds xs
  | .scr ds, v => ∃ a xs, v = .ref a ∧ ScrAt K T H a xs ∧ RpL T H ds xs
def RpL (T : Sto) (H : Hp) : List D → List V → Prop
  | [], xs => xs = []
  | d :: ds, xs => ∃ x r, xs = x :: r ∧ Rp T H d x ∧ RpL T H ds r
end
/-- what stands at an address that changes -/
def StO (T : Sto) (H : Hp) (a : Addr) : SO → Prop
  | .lst ds => ∃ xs, H a = some (.lst xs) ∧ RpL K T H ds xs
  | .dK kvs => ∃ ks, H a = some (.dK ks) ∧ ks.map (·.1) = kvs.map (·.1) ∧ RpL K T H (kvs.map (·.2)) (ks.map (·.2))
  | .dT kvs => ∃ ks, H a = some (.dT ks) ∧ ks.map (·.1) = kvs.map (·.1) ∧ RpL K T H (kvs.map (·.2)) (ks.map (·.2))
  | .dF od ks kvs => H a = some (.frz od (.dK ks)) ∧ ks.map (·.1) = kvs.map (·.1) ∧ RpL K T H (kvs.map (·.2)) (ks.map (·.2))
  | .tab q => ∃ ps : Array Value, H a = some (.tbl ps) ∧ TriplesOk ps.toList ∧ ∀ (pos : Pos) (cv : Value), codeAmong pos ps.toList = some cv → ∃ c, cv = .ref c ∧ T c = none ∧ H c = some (LamX.CodeO c q)
def Ok (T : Sto) (H : Hp) : Prop := ∀ a o, T a = some o → StO K T H a o
/-- the stores stand apart, and hold -/
structure Wd (S F : Sto) (H : Hp) : Prop where
  dj : ∀ a, S a = none ∨ F a = none
  ok : Ok K (cmb S F) H
end
/-- what does not change stays -/
def Ev (T : Sto) (H : Hp) (T' : Sto) (H' : Hp) : Prop := ∀ a o, H a = some o → T a = none → H' a = some o ∧ T' a = none
theorem Ev.refl {T : Sto} {H : Hp} : Ev T H T H := fun _ _ h1 h2 => ⟨h1, h2⟩
theorem Ev.trans {T T1 T2 : Sto} {H H1 H2 : Hp} (a : Ev T H T1 H1) (b : Ev T1 H1 T2 H2) : Ev T H T2 H2 := fun c o h1 h2 =>
  have q := a c o h1 h2
  b c o q.1 q.2

section
variable {K : PySem.W.Frag} {T T' : Sto} {H H' : Hp} {S S' F F' : Sto}
theorem sto_some {a : Addr} {o : SO} (h : StO K T H a o) : ∃ u, H a = some u ∧ (∀ xs, u ≠ .tup xs) ∧ (∀ ob w, u ≠ .frz ob (.tup w)) := by
  cases o with
  | lst ds => obtain ⟨xs, e, _⟩ := h; exact ⟨_, e, by simp, by simp⟩
  | dK kvs => obtain ⟨xs, e, _⟩ := h; exact ⟨_, e, by simp, by simp⟩
  | dT kvs => obtain ⟨xs, e, _⟩ := h; exact ⟨_, e, by simp, by simp⟩
  | dF od ks kvs => obtain ⟨e, _⟩ := h; exact ⟨_, e, by simp, by simp⟩
  | tab q => obtain ⟨ps, e, _⟩ := h; exact ⟨_, e, by simp, by simp⟩
theorem Ok.fresh (h : Ok K T H) {p : Addr} (e : H p = none) : T p = none := by
  cases q : T p with
  | none => rfl
  | some o => obtain ⟨u, e', _⟩ := sto_some (h p o q); rw [e] at e'; cases e'
theorem Ok.tup (h : Ok K T H) {p : Addr} {xs : List V} (e : Rd H p (.tup xs)) : T p = none := by
  cases q : T p with
  | none => rfl
  | some o =>
    obtain ⟨u, e', n1, n2⟩ := sto_some (h p o q)
    rcases e with e | ⟨ob, e⟩
    · rw [e] at e'; cases e'; exact absurd rfl (n1 xs)
    · rw [e] at e'; cases e'; exact absurd rfl (n2 _ _)
theorem SqT.ev {a : Addr} {xs : List V} (o : Ok K T H) (ev : Ev T H T' H') (h : SqT K H a xs) : SqT K H' a xs := by
  rcases h with h | h
  · have n := o.tup h
    rcases h with h | ⟨ob, h⟩
    · exact .inl (.inl (ev _ _ h n).1)
    · exact .inl (.inr ⟨ob, (ev _ _ h n).1⟩)
  · exact .inr h
theorem Rd.ev {a : Addr} {u : HO} (n : T a = none) (ev : Ev T H T' H') (h : Rd H a u) : Rd H' a u ∧ T' a = none := by
  rcases h with h | ⟨ob, h⟩
  · exact ⟨.inl (ev _ _ h n).1, (ev _ _ h n).2⟩
  · exact ⟨.inr ⟨ob, (ev _ _ h n).1⟩, (ev _ _ h n).2⟩
mutual
theorem Rp.ev (o : Ok K T H) (ev : Ev T H T' H') : ∀ {d : D} {v : V}, Rp K T H d v → Rp K T' H' d v
  | .non, _, h => h
  | .bl _, _, h => h
  | .int _, _, h => h
  | .str _, _, h => h
  | .ref _, _, h => h
  | .ty _, _, h => h
  | .rng _ _, _, h => by
    obtain ⟨a, e, n, q⟩ := h
    have z := ev _ _ q n
    exact ⟨a, e, z.2, z.1⟩
  | .fn f c q u ds vs, v, h => by
    obtain ⟨e, ⟨n1, k1⟩, ⟨n, k⟩, r⟩ := h
    have z := ev _ _ k n
    have z1 := ev _ _ k1 n1
    exact ⟨e, ⟨z1.2, z1.1⟩, ⟨z.2, z.1⟩, RpL.ev o ev r⟩
  | .exd a d C f x, v, h => by
    obtain ⟨e, n, y, k, r⟩ := h
    have z := ev _ _ k n
    exact ⟨e, z.2, y, z.1, Rp.ev o ev r⟩
  | .tup ds, v, h => by
    obtain ⟨a, xs, e, q, r⟩ := h
    exact ⟨a, xs, e, SqT.ev o ev q, RpL.ev o ev r⟩
  | .lst ds, v, h => by
    obtain ⟨a, xs, e, n, q, r⟩ := h
    have z := ev _ _ q n
    exact ⟨a, xs, e, z.2, z.1, RpL.ev o ev r⟩
  | .scr ds, v, h => by
    obtain ⟨a, xs, e, q, r⟩ := h
    exact ⟨a, xs, e, q.imp (fun q => (Rd.ev q.1 ev q.2).symm) id, RpL.ev o ev r⟩
theorem RpL.ev (o : Ok K T H) (ev : Ev T H T' H') : ∀ {ds : List D} {vs : List V}, RpL K T H ds vs → RpL K T' H' ds vs
  | [], _, h => h
  | d :: ds, _, h => by
    obtain ⟨x, r, e, q, q2⟩ := h
    exact ⟨x, r, e, Rp.ev o ev q, RpL.ev o ev q2⟩
end
mutual
/-- fewer things change -/
theorem Rp.sub (f : ∀ a, T a = none → T' a = none) : ∀ {d : D} {v : V}, Rp K T H d v → Rp K T' H d v
  | .non, _, h => h
  | .bl _, _, h => h
  | .int _, _, h => h
  | .str _, _, h => h
  | .ref _, _, h => h
  | .ty _, _, h => h
  | .rng _ _, _, h => by
    obtain ⟨a, e, n, q⟩ := h
    exact ⟨a, e, f a n, q⟩
  | .fn g c q u ds vs, _, h => by
    obtain ⟨e, ⟨n1, k1⟩, ⟨n, k⟩, r⟩ := h
    exact ⟨e, ⟨f g n1, k1⟩, ⟨f c n, k⟩, RpL.sub f r⟩
  | .exd a d C g x, _, h => by
    obtain ⟨e, n, y, k, r⟩ := h
    exact ⟨e, f d n, y, k, Rp.sub f r⟩
  | .tup ds, v, h => by
    obtain ⟨a, xs, e, q, r⟩ := h
    exact ⟨a, xs, e, q, RpL.sub f r⟩
  | .lst ds, v, h => by
    obtain ⟨a, xs, e, n, q, r⟩ := h
    exact ⟨a, xs, e, f a n, q, RpL.sub f r⟩
  | .scr ds, v, h => by
    obtain ⟨a, xs, e, q, r⟩ := h
    exact ⟨a, xs, e, q.imp (fun q => ⟨f a q.1, q.2⟩) id, RpL.sub f r⟩
theorem RpL.sub (f : ∀ a, T a = none → T' a = none) : ∀ {ds : List D} {vs : List V}, RpL K T H ds vs → RpL K T' H ds vs
  | [], _, h => h
  | d :: ds, _, h => by
    obtain ⟨x, r, e, q, q2⟩ := h
    exact ⟨x, r, e, Rp.sub f q, RpL.sub f q2⟩
end
theorem sto_mp {a : Addr} {o : SO} (h : StO K T H a o) (g : ∀ u, H a = some u → H' a = some u) (r : ∀ ds vs, RpL K T H ds vs → RpL K T' H' ds vs) (ev : Ev T H T' H') : StO K T' H' a o := by
  cases o with
  | lst ds => obtain ⟨xs, e, q⟩ := h; exact ⟨xs, g _ e, r _ _ q⟩
  | dK kvs => obtain ⟨xs, e, k, q⟩ := h; exact ⟨xs, g _ e, k, r _ _ q⟩
  | dT kvs => obtain ⟨xs, e, k, q⟩ := h; exact ⟨xs, g _ e, k, r _ _ q⟩
  | dF od ks kvs => obtain ⟨e, k, q⟩ := h; exact ⟨g _ e, k, r _ _ q⟩
  | tab q => obtain ⟨ps, e, k, z⟩ := h; exact ⟨ps, g _ e, k, fun pos cv hc => by
      obtain ⟨c, e1, e2, e3⟩ := z pos cv hc
      have y := ev _ _ e3 e2
      exact ⟨c, e1, y.2, y.1⟩⟩

theorem RpL.length : ∀ {ds : List D} {vs : List V}, RpL K T H ds vs → vs.length = ds.length
  | [], _, h => by rw [show _ = [] from h]; rfl
  | d :: ds, _, h => by
    obtain ⟨x, r, e, _, q2⟩ := h
    rw [e, List.length_cons, List.length_cons, RpL.length q2]
theorem RpL.get : ∀ {ds : List D} {vs : List V} {i : Nat} {d : D}, RpL K T H ds vs → ds[i]? = some d → ∃ v, vs[i]? = some v ∧ Rp K T H d v
  | [], _, _, _, _, e => by simp at e
  | d :: ds, _, 0, x, h, e => by
    obtain ⟨y, r, rfl, q, _⟩ := h
    simp at e; subst e
    exact ⟨y, rfl, q⟩
  | d :: ds, _, i + 1, x, h, e => by
    obtain ⟨y, r, rfl, _, q⟩ := h
    obtain ⟨v, h1, h2⟩ := RpL.get (i := i) (d := x) q (by simpa using e)
    exact ⟨v, by simpa using h1, h2⟩
theorem RpL.app : ∀ {ds es : List D} {vs us : List V}, RpL K T H ds vs → RpL K T H es us → RpL K T H (ds ++ es) (vs ++ us)
  | [], _, _, _, h, h' => by rw [show _ = [] from h]; exact h'
  | d :: ds, _, _, _, h, h' => by
    obtain ⟨y, r, rfl, q, q2⟩ := h
    exact ⟨y, r ++ _, rfl, q, RpL.app q2 h'⟩
theorem RpL.set : ∀ {ds : List D} {vs : List V} {d : D} {v : V} (i : Nat), RpL K T H ds vs → Rp K T H d v → RpL K T H (ds.set i d) (vs.set i v)
  | [], _, _, _, _, h, _ => by rw [show _ = [] from h]; exact rfl
  | d :: ds, _, _, _, 0, h, h' => by
    obtain ⟨y, r, rfl, q, q2⟩ := h
    exact ⟨_, r, rfl, h', q2⟩
  | d :: ds, _, _, _, i + 1, h, h' => by
    obtain ⟨y, r, rfl, q, q2⟩ := h
    exact ⟨y, _, rfl, q, RpL.set i q2 h'⟩
theorem RpL.drop : ∀ {ds : List D} {vs : List V} (n : Nat), RpL K T H ds vs → RpL K T H (ds.drop n) (vs.drop n)
  | _, _, 0, h => by simpa using h
  | [], _, n + 1, h => by rw [show _ = [] from h]; exact rfl
  | d :: ds, _, n + 1, h => by
    obtain ⟨y, r, rfl, q, q2⟩ := h
    simpa using RpL.drop n q2
theorem RpL.take : ∀ {ds : List D} {vs : List V} (n : Nat), RpL K T H ds vs → RpL K T H (ds.take n) (vs.take n)
  | _, _, 0, h => by rw [List.take_zero, List.take_zero]; exact rfl
  | [], _, n + 1, h => by rw [show _ = [] from h]; exact rfl
  | d :: ds, _, n + 1, h => by
    obtain ⟨y, r, rfl, q, q2⟩ := h
    exact ⟨y, _, rfl, q, RpL.take n q2⟩
theorem RpL.reverse : ∀ {ds : List D} {vs : List V}, RpL K T H ds vs → RpL K T H ds.reverse vs.reverse
  | [], _, h => by rw [show _ = [] from h]; exact rfl
  | d :: ds, _, h => by
    obtain ⟨y, r, rfl, q, q2⟩ := h
    rw [List.reverse_cons, List.reverse_cons]
    exact RpL.app (RpL.reverse q2) ⟨y, [], rfl, q, rfl⟩
theorem RpL.ints : ∀ {ns : List Int} {vs : List V}, RpL K T H (ns.map D.int) vs → vs = ns.map V.int
  | [], _, h => h
  | n :: ns, _, h => by
    obtain ⟨y, r, rfl, q, q2⟩ := h
    rw [show y = V.int n from q, RpL.ints q2]
    rfl
theorem RpL.bls : ∀ {ns : List Bool} {vs : List V}, RpL K T H (ns.map D.bl) vs → vs = ns.map V.bl
  | [], _, h => h
  | n :: ns, _, h => by
    obtain ⟨y, r, rfl, q, q2⟩ := h
    rw [show y = V.bl n from q, RpL.bls q2]
    rfl
/-! ### how the stores go on -/
theorem ev_new {p : Addr} {o : HO} (hp : H p = none) : Ev T H T (upd H p o) := fun a u e n => ⟨by rw [upd_ne (ne_of_none e hp)]; exact e, n⟩
theorem Ok.new {p : Addr} {o : HO} (h : Ok K T H) (hp : H p = none) : Ok K T (upd H p o) := fun a u e =>
  sto_mp (h a u e) (fun w q => by rw [upd_ne (ne_of_none q hp)]; exact q) (fun _ _ r => RpL.ev h (ev_new hp) r) (ev_new hp)
theorem Wd.new {p : Addr} {o : HO} (h : Wd K S F H) (hp : H p = none) : Wd K S F (upd H p o) := ⟨h.dj, h.ok.new hp⟩
theorem cmb_up {a : Addr} {o : SO} : cmb (up S a o) F = up (cmb S F) a o := by
  funext b
  by_cases e : b = a
  · subst e; rw [up_same, cmb_l up_same]
  · rw [up_ne e]; unfold cmb; rw [up_ne e]
theorem cmb_upR {a : Addr} {o : SO} (h : S a = none) : cmb S (up F a o) = up (cmb S F) a o := by
  funext b
  by_cases e : b = a
  · subst e; rw [up_same, cmb_r h, up_same]
  · rw [up_ne e]; unfold cmb; rw [up_ne e]
theorem ev_newS {p : Addr} {o : HO} {u : SO} (hp : H p = none) : Ev T H (up T p u) (upd H p o) := fun a w e n => ⟨by rw [upd_ne (ne_of_none e hp)]; exact e, by rw [up_ne (ne_of_none e hp)]; exact n⟩
/-- a new thing that is to change -/
theorem Ok.newS {p : Addr} {o : HO} {u : SO} (h : Ok K T H) (hp : H p = none) (q : StO K (up T p u) (upd H p o) p u) : Ok K (up T p u) (upd H p o) := fun a w e => by
  by_cases z : a = p
  · subst z; rw [up_same] at e; cases e; exact q
  · rw [up_ne z] at e
    exact sto_mp (h a w e) (fun x y => by rw [upd_ne z]; exact y) (fun _ _ r => RpL.ev h (ev_newS hp) r) (ev_newS hp)
theorem Wd.newS {p : Addr} {o : HO} {u : SO} (h : Wd K S F H) (hp : H p = none) (q : StO K (up (cmb S F) p u) (upd H p o) p u) : Wd K (up S p u) F (upd H p o) := by
  have n := cmb_none (h.ok.fresh hp)
  refine ⟨fun a => ?_, by rw [cmb_up]; exact h.ok.newS hp q⟩
  by_cases z : a = p
  · subst z; exact .inr n.2
  · rw [up_ne z]; exact h.dj a
theorem Wd.newF {p : Addr} {o : HO} {u : SO} (h : Wd K S F H) (hp : H p = none) (q : StO K (up (cmb S F) p u) (upd H p o) p u) : Wd K S (up F p u) (upd H p o) := by
  have n := cmb_none (h.ok.fresh hp)
  refine ⟨fun a => ?_, by rw [cmb_upR n.1]; exact h.ok.newS hp q⟩
  by_cases z : a = p
  · subst z; exact .inl n.1
  · rw [up_ne z]; exact h.dj a
theorem ev_set {p : Addr} {o : HO} {u w : SO} (hp : T p = some w) : Ev T H (up T p u) (upd H p o) := fun a x e n => by
  have z : a ≠ p := by rintro rfl; rw [hp] at n; cases n
  exact ⟨by rw [upd_ne z]; exact e, by rw [up_ne z]; exact n⟩
/-- a thing that changes -/
theorem Ok.set {p : Addr} {o : HO} {u w : SO} (h : Ok K T H) (hp : T p = some w) (q : StO K (up T p u) (upd H p o) p u) : Ok K (up T p u) (upd H p o) := fun a x e => by
  by_cases z : a = p
  · subst z; rw [up_same] at e; cases e; exact q
  · rw [up_ne z] at e
    exact sto_mp (h a x e) (fun x y => by rw [upd_ne z]; exact y) (fun _ _ r => RpL.ev h (ev_set hp) r) (ev_set hp)
theorem Wd.set {p : Addr} {o : HO} {u w : SO} (h : Wd K S F H) (hp : S p = some w) (q : StO K (up (cmb S F) p u) (upd H p o) p u) : Wd K (up S p u) F (upd H p o) := by
  refine ⟨fun a => ?_, by rw [cmb_up]; exact h.ok.set (cmb_l hp) q⟩
  by_cases z : a = p
  · subst z
    rcases h.dj a with n | n
    · rw [hp] at n; cases n
    · exact .inr n
  · rw [up_ne z]; exact h.dj a
theorem Wd.setF {p : Addr} {o : HO} {u w : SO} (h : Wd K S F H) (hp : F p = some w) (q : StO K (up (cmb S F) p u) (upd H p o) p u) : Wd K S (up F p u) (upd H p o) := by
  have n : S p = none := by
    rcases h.dj p with n | n
    · exact n
    · rw [hp] at n; cases n
  refine ⟨fun a => ?_, by rw [cmb_upR n]; exact h.ok.set (by rw [cmb_r n]; exact hp) q⟩
  by_cases z : a = p
  · subst z; exact .inl n
  · rw [up_ne z]; exact h.dj a
/-- a thing is forgotten, or changes no more -/
theorem Wd.less {S' F' : Sto} (h : Wd K S F H) (f : ∀ a o, S' a = some o → S a = some o) (g : ∀ a o, F' a = some o → F a = some o) : Wd K S' F' H := by
  have nn : ∀ a, cmb S F a = none → cmb S' F' a = none := fun a e => by
    obtain ⟨e1, e2⟩ := cmb_none e
    refine cmb_of_none ?_ ?_
    · cases z : S' a with
      | none => rfl
      | some o => rw [f a o z] at e1; cases e1
    · cases z : F' a with
      | none => rfl
      | some o => rw [g a o z] at e2; cases e2
  refine ⟨fun a => ?_, fun a o e => ?_⟩
  · rcases h.dj a with n | n
    · cases z : S' a with
      | none => exact .inl rfl
      | some o => rw [f a o z] at n; cases n
    · cases z : F' a with
      | none => exact .inr rfl
      | some o => rw [g a o z] at n; cases n
  · have e' : cmb S F a = some o := by
      cases z : S' a with
      | some u =>
        rw [cmb_l z] at e; cases e
        exact cmb_l (f a _ z)
      | none =>
        rw [cmb_r z] at e
        rcases h.dj a with n | n
        · rw [cmb_r n]; exact g a _ e
        · rw [g a _ e] at n; cases n
    exact sto_mp (h.ok a o e') (fun _ q => q) (fun _ _ r => RpL.sub nn r) fun b u e n => ⟨e, nn b n⟩
theorem ev_less {S' F' : Sto} (f : ∀ a o, S' a = some o → S a = some o) (g : ∀ a o, F' a = some o → F a = some o) : Ev (cmb S F) H (cmb S' F') H := fun a u e n => by
  refine ⟨e, ?_⟩
  obtain ⟨e1, e2⟩ := cmb_none n
  refine cmb_of_none ?_ ?_
  · cases z : S' a with
    | none => rfl
    | some o => rw [f a o z] at e1; cases e1
  · cases z : F' a with
    | none => rfl
    | some o => rw [g a o z] at e2; cases e2
end
end Gx

/-! Gx, part 1: readings over data; names, constants, operators, tests. -/
namespace Gx
open PySem PySem.Spec L2

/-- the slots -/
abbrev Tau := List (Option D)
abbrev QD := D → Sto → Prop
abbrev ET := Tau → Sto → QD → Prop
abbrev TT' := Tau → Sto → (Bool → Sto → Prop) → Prop
abbrev AT := Tau → Sto → (List D → Sto → Prop) → Prop

section
variable (K : PySem.W.Frag)
structure RpS (T : Sto) (H : Hp) (τ : Tau) (σ : St) : Prop where
  len : τ.length = σ.length
  at' : ∀ (i : Nat) (d : D), τ[i]? = some (some d) → ∃ v, σ[i]? = some (some v) ∧ Rp K T H d v
/-- what came behind -/
structure AftF (S F : Sto) (H : Hp) (S' F' : Sto) (H' : Hp) : Prop where
  wd : Wd K S' F' H'
  ev : Ev (cmb S F) H (cmb S' F') H'
abbrev Aft (S F : Sto) (H : Hp) (S' : Sto) (H' : Hp) : Prop := AftF K S F H S' F H'
def LE (t : ET) : TE := fun σ H Q => ∃ (τ : Tau) (S F : Sto) (R : QD), Wd K S F H ∧ RpS K (cmb S F) H τ σ ∧ t τ S R ∧
  ∀ d S' v H', R d S' → Aft K S F H S' H' → Rp K (cmb S' F) H' d v → Q v H'
def LT (t : TT') : TT := fun σ H Q => ∃ (τ : Tau) (S F : Sto) (R : Bool → Sto → Prop), Wd K S F H ∧ RpS K (cmb S F) H τ σ ∧ t τ S R ∧
  ∀ b S' H', R b S' → Aft K S F H S' H' → Q b H'
def LA (t : AT) : TA := fun σ H Q => ∃ (τ : Tau) (S F : Sto) (R : List D → Sto → Prop), Wd K S F H ∧ RpS K (cmb S F) H τ σ ∧ t τ S R ∧
  ∀ ds S' vs H', R ds S' → Aft K S F H S' H' → RpL K (cmb S' F) H' ds vs → Q vs H'
/-- an operation of two values -/
abbrev O2 := D → D → Sto → QD → Prop
def L2O (r : O2) : R2 := fun x y H Q => ∃ (d e : D) (S F : Sto) (R : QD), Wd K S F H ∧ Rp K (cmb S F) H d x ∧ Rp K (cmb S F) H e y ∧ r d e S R ∧
  ∀ d S' v H', R d S' → Aft K S F H S' H' → Rp K (cmb S' F) H' d v → Q v H'
abbrev O1 := D → Sto → QD → Prop
def L1O (r : O1) : V → Hp → VK → Prop := fun x H Q => ∃ (d : D) (S F : Sto) (R : QD), Wd K S F H ∧ Rp K (cmb S F) H d x ∧ r d S R ∧
  ∀ d S' v H', R d S' → Aft K S F H S' H' → Rp K (cmb S' F) H' d v → Q v H'
abbrev OL := List D → Sto → QD → Prop
def LLO (r : OL) : List V → Hp → VK → Prop := fun xs H Q => ∃ (ds : List D) (S F : Sto) (R : QD), Wd K S F H ∧ RpL K (cmb S F) H ds xs ∧ r ds S R ∧
  ∀ d S' v H', R d S' → Aft K S F H S' H' → Rp K (cmb S' F) H' d v → Q v H'
end
def GE (X : Cx) (e : Expr) (t : ET) : Prop := PE X e (LE X.K t)
def GT (X : Cx) (e : Expr) (t : TT') : Prop := PT X e (LT X.K t)
def GW (X : Cx) (e : Expr) (t : TT') : Prop := PW X e (LT X.K t)
def GA (X : Cx) (es : List Expr) (t : AT) : Prop := PA X es (LA X.K t)
def G2 (X : Cx) (f : Value → Value → Sem Value) (r : O2) : Prop := OpR X f (L2O X.K r)
def G1 (X : Cx) (f : Value → Sem Value) (r : O1) : Prop := UnR X f (L1O X.K r)
def GC (X : Cx) (f : Value) (r : OL) : Prop := CallR X f (LLO X.K r)

section
variable {K : PySem.W.Frag} {S S' S1 F F' F1 : Sto} {H H' H1 : Hp} {τ : Tau} {σ : St}
theorem Aft.refl (w : Wd K S F H) : Aft K S F H S H := ⟨w, Ev.refl⟩
theorem AftF.trans (a : AftF K S F H S1 F1 H1) (b : AftF K S1 F1 H1 S' F' H') : AftF K S F H S' F' H' := ⟨b.wd, a.ev.trans b.ev⟩
theorem AftF.rp (a : AftF K S F H S' F' H') (w : Wd K S F H) {d : D} {v : V} (r : Rp K (cmb S F) H d v) : Rp K (cmb S' F') H' d v := Rp.ev w.ok a.ev r
theorem AftF.rpl (a : AftF K S F H S' F' H') (w : Wd K S F H) {d : List D} {v : List V} (r : RpL K (cmb S F) H d v) : RpL K (cmb S' F') H' d v := RpL.ev w.ok a.ev r
theorem AftF.rps (a : AftF K S F H S' F' H') (w : Wd K S F H) (r : RpS K (cmb S F) H τ σ) : RpS K (cmb S' F') H' τ σ :=
  ⟨r.len, fun i d e => let ⟨v, h1, h2⟩ := r.at' i d e; ⟨v, h1, a.rp w h2⟩⟩
theorem Aft.new {p : Addr} {o : HO} (w : Wd K S F H) (hp : H p = none) : Aft K S F H S (upd H p o) := ⟨w.new hp, ev_new hp⟩
theorem Aft.newS {p : Addr} {o : HO} {u : SO} (w : Wd K S F H) (hp : H p = none) (q : StO K (up (cmb S F) p u) (upd H p o) p u) : Aft K S F H (up S p u) (upd H p o) :=
  ⟨w.newS hp q, by rw [cmb_up]; exact ev_newS hp⟩
theorem Aft.set {p : Addr} {o : HO} {u x : SO} (w : Wd K S F H) (hp : S p = some x) (q : StO K (up (cmb S F) p u) (upd H p o) p u) : Aft K S F H (up S p u) (upd H p o) :=
  ⟨w.set hp q, by rw [cmb_up]; exact ev_set (cmb_l hp)⟩
theorem RpS.set (r : RpS K (cmb S F) H τ σ) {d : D} {v : V} (i : Nat) (h : Rp K (cmb S F) H d v) : RpS K (cmb S F) H (τ.set i (some d)) (σ.set i (some v)) := by
  refine ⟨by rw [List.length_set, List.length_set]; exact r.len, fun j e q => ?_⟩
  by_cases z : i = j
  · subst z
    rw [List.getElem?_set_self' ] at q
    cases z : τ[i]? with
    | none => rw [z] at q; cases q
    | some y =>
      rw [z] at q
      cases q
      have hi : i < σ.length := by rw [← r.len]; exact (List.getElem?_eq_some_iff.mp z).1
      exact ⟨v, by rw [List.getElem?_set_self hi], h⟩
  · rw [List.getElem?_set_ne z] at q ⊢
    exact r.at' j e q
/-- two readings in a row -/
theorem le_bin {ta tb : ET} {R : D → D → Sto → Prop} {Z : V → V → Hp → Prop} (h : ∃ (τ : Tau) (S F : Sto), Wd K S F H ∧ RpS K (cmb S F) H τ σ ∧ ta τ S (fun d S1 => tb τ S1 fun e S2 => R d e S2) ∧
      ∀ d e S' v u H', R d e S' → Aft K S F H S' H' → Rp K (cmb S' F) H' d v → Rp K (cmb S' F) H' e u → Z v u H') :
    LE K ta σ H fun x H1 => LE K tb σ H1 fun y H2 => Z x y H2 := by
  obtain ⟨τ, S, F, w, r, q, g⟩ := h
  refine ⟨τ, S, F, _, w, r, q, fun d S1 v H1 q1 a1 r1 => ?_⟩
  exact ⟨τ, S1, F, _, a1.wd, a1.rps w r, q1, fun e S2 u H2 q2 a2 r2 => g d e S2 v u H2 q2 (a1.trans a2) (a2.rp a1.wd r1) r2⟩
end

section
variable {X : Cx} {e a b : Expr} {t ta tb : ET} {pos : Pos}
theorem pe_weak {t t' : TE} (h : PE X e t) (w : ∀ σ H Q, t' σ H Q → t σ H Q) : PE X e t' := ⟨fun pins s σ H Q I q => h.run pins s σ H Q I (w σ H Q q)⟩
theorem pt_weak {t t' : TT} (h : PT X e t) (w : ∀ σ H Q, t' σ H Q → t σ H Q) : PT X e t' := ⟨fun pins s σ H Q I q => h.run pins s σ H Q I (w σ H Q q)⟩
theorem pw_weak {t t' : TT} (h : PW X e t) (w : ∀ σ H Q, t' σ H Q → t σ H Q) : PW X e t' := ⟨fun wh pins s σ H Q I q => h.run wh pins s σ H Q I (w σ H Q q)⟩
theorem pa_weak {es : List Expr} {t t' : TA} (h : PA X es t) (w : ∀ σ H Q, t' σ H Q → t σ H Q) : PA X es t' := ⟨fun p pins s σ H Q I q => h.run p pins s σ H Q I (w σ H Q q)⟩
theorem ps_weak {st : Stmt} {t t' : TS} (h : PS X st t) (w : ∀ D σ H, t' D σ H → t D σ H) : PS X st t' := ⟨fun pins s σ H D I q => h.run pins s σ H D I (w D σ H q)⟩
theorem pss_weak {st : List Stmt} {t t' : TS} (h : PSs X st t) (w : ∀ D σ H, t' D σ H → t D σ H) : PSs X st t' := ⟨fun pins s σ H D I q => h.run pins s σ H D I (w D σ H q)⟩
theorem op_weak {f : Value → Value → Sem Value} {r r' : R2} (h : OpR X f r) (w : ∀ x y H Q, r' x y H Q → r x y H Q) : OpR X f r' := fun pins s σ H x y v u Q I rx ry q => h pins s σ H x y v u Q I rx ry (w _ _ _ _ q)

/-! ### names, constants -/
def eVar (i : Nat) : ET := fun τ S Q => match τ[i]? with
  | some (some d) => Q d S
  | _ => False
def eC (d : D) : ET := fun _ S Q => Q d S
theorem g_var (i : Nat) {x : Str} {pos : Pos} (hN : X.N[i]? = some x := by rfl) (hv : Vis X.env.scope x := by first | exact Or.inl rfl | exact Or.inr (Or.inl rfl) | exact Or.inr (Or.inr rfl)) (hd : (x == ("__debug__" : Str)) = false := by decide)
    (hcd : (x == ("__classdict__" : Str)) = false := by decide) : GE X (.Name x pos) (eVar i) := pe_weak (pe_var hN hv hd hcd) fun σ H Q ⟨τ, S, F, R, w, r, q, g⟩ => by
  unfold eVar at q
  split at q
  · rename_i d hq
    obtain ⟨v, h1, h2⟩ := r.at' i d hq
    exact ⟨v, h1, g _ _ _ _ q (Aft.refl w) h2⟩
  · exact q.elim
theorem ge_const {d : D} {v : V} (h : PE X e (tC v)) (hd : ∀ T H, Rp X.K T H d v) : GE X e (eC d) := pe_weak h fun σ H Q ⟨τ, S, F, R, w, r, q, g⟩ => g _ _ _ _ q (Aft.refl w) (hd _ _)
theorem g_int {i j pos} : GE X (.Constant (.int i) j pos) (eC (.int i)) := ge_const pe_int fun _ _ => rfl
theorem g_bl {i j pos} : GE X (.Constant (.bool i) j pos) (eC (.bl i)) := ge_const pe_bl fun _ _ => rfl
theorem g_glob {x : Str} {d : D} {v : V} {u : Value} {pos : Pos} (hg : Gl X x) (hm : X.mg x = some u) (r : RelV v u) (hd : ∀ T H, Rp X.K T H d v) (h : (x == ("__debug__" : Str)) = false := by decide) : GE X (.Name x pos) (eC d) := ge_const (pe_glob hg hm r h) hd
theorem g_bltn {x : Str} {d : D} {v : V} {u : Value} {pos : Pos} (hg : Gl X x) (hm : X.mg x = none) (hv : bootBuiltins x = some u) (r : RelV v u) (hd : ∀ T H, Rp X.K T H d v) (hn : x ≠ "__name__" := by decide) (h : (x == ("__debug__" : Str)) = false := by decide) :
    GE X (.Name x pos) (eC d) := ge_const (pe_bltn hg hm hv r hn h) hd

/-! ### operators -/
def eBin (r : O2) (ta tb : ET) : ET := fun τ S Q => ta τ S fun d S1 => tb τ S1 fun e S2 => r d e S2 Q
theorem l2_of {r : O2} {σ : St} {H : Hp} {Q : VK} (h : LE X.K (eBin r ta tb) σ H Q) : tOp (L2O X.K r) (LE X.K ta) (LE X.K tb) σ H Q := by
  obtain ⟨τ, S, F, R, w, r, q, g⟩ := h
  refine le_bin ⟨τ, S, F, w, r, q, fun d e S' v u H' q' a' r1 r2 => ?_⟩
  exact ⟨d, e, S', F, R, a'.wd, r1, r2, q', fun d' S2 v' H2 q2 a2 r2 => g _ _ _ _ q2 (a'.trans a2) r2⟩
theorem g_bin {op : Operator} {r : O2} (ho : G2 X (binaryOp op) r) (ha : GE X a ta) (hb : GE X b tb) : GE X (.BinOp a op b pos) (eBin r ta tb) := pe_weak (pe_op ho ha hb) fun σ H Q h => l2_of h
theorem g_cmp {op : CmpOp} {r : O2} (ho : G2 X (compareOp op) r) (ha : GE X a ta) (hb : GE X b tb) (hm : behindInMarks op b = false := by first | exact nomark _ | rfl) : GE X (.Compare a [op] [b] pos) (eBin r ta tb) := pe_weak (pe_cmpR ho ha hb hm) fun σ H Q h => l2_of h
def eUn (r : O1) (ta : ET) : ET := fun τ S Q => ta τ S fun d S1 => r d S1 Q
theorem l1_of {r : O1} {σ : St} {H : Hp} {Q : VK} (h : LE X.K (eUn r ta) σ H Q) : tUn (L1O X.K r) (LE X.K ta) σ H Q := by
  obtain ⟨τ, S, F, R, w, r, q, g⟩ := h
  refine ⟨τ, S, F, _, w, r, q, fun d S1 v H1 q1 a1 r1 => ?_⟩
  exact ⟨d, S1, F, R, a1.wd, r1, q1, fun d' S2 v' H2 q2 a2 r2 => g _ _ _ _ q2 (a1.trans a2) r2⟩
theorem g_un {op : UnaryOp} {r : O1} (ho : G1 X (unaryOp op) r) (ha : GE X a ta) : GE X (.UnaryOp op a pos) (eUn r ta) := pe_weak (pe_un ho ha) fun σ H Q h => l1_of h

/-! ### tests -/
def tBl (t : ET) : TT' := fun τ S Q => t τ S fun d S1 => match d with
  | .bl b => Q b S1
  | _ => False
theorem lt_of {σ : St} {H : Hp} {Q : Bool → Hp → Prop} (h : LT X.K (tBl t) σ H Q) : tB (LE X.K t) σ H Q := by
  obtain ⟨τ, S, F, R, w, r, q, g⟩ := h
  refine ⟨τ, S, F, _, w, r, q, fun d S1 v H1 q1 a1 r1 => ?_⟩
  split at q1
  · exact ⟨_, r1, g _ _ _ q1 a1⟩
  · exact q1.elim
theorem gt_val (h : GE X e t) (he : ∀ whole, isTrue e X.env whole = (do let v ← whole; standAt e.pos; holding [v] (truthy v)) := by intro _; rfl) : GT X e (tBl t) := pt_weak (pt_val h he) fun σ H Q q => lt_of q
theorem gt_cmp {op : CmpOp} {r : O2} (ho : G2 X (compareOp op) r) (ha : GE X a ta) (hb : GE X b tb) (hm : behindInMarks op b = false := by first | exact nomark _ | rfl) : GT X (.Compare a [op] [b] pos) (tBl (eBin r ta tb)) := by
  refine pt_weak (pt_cmpR ho ha hb hm) fun σ H Q h => ?_
  have h' := lt_of h
  obtain ⟨τ, S, F, R, w, r, q, g⟩ := h'
  exact l2_of ⟨τ, S, F, R, w, r, q, g⟩
theorem gw_pt {t : TT'} (h : GW X e t) : GT X e t := PW.pt h
def tAnd' (t u : TT') : TT' := fun τ S Q => t τ S fun c S1 => if c = true then u τ S1 Q else Q false S1
def tOr' (t u : TT') : TT' := fun τ S Q => t τ S fun c S1 => if c = true then Q true S1 else u τ S1 Q
def tNot' (t : TT') : TT' := fun τ S Q => t τ S fun c S1 => Q (!c) S1
variable {tA tB' : TT'} {rest : List Expr}
theorem gw_and1 (ha : GT X a tA) : GW X (.BoolOp .And [a] pos) tA := pw_and1 ha
theorem gw_or1 (ha : GT X a tA) : GW X (.BoolOp .Or [a] pos) tA := pw_or1 ha
theorem gw_and (ha : GT X a tA) (hb : GW X (.BoolOp .And (b :: rest) pos) tB') : GW X (.BoolOp .And (a :: b :: rest) pos) (tAnd' tA tB') := pw_weak (pw_and ha hb) fun σ H Q ⟨τ, S, F, R, w, r, q, g⟩ => by
  refine ⟨τ, S, F, _, w, r, q, fun c S1 H1 q1 a1 => ?_⟩
  cases c with
  | true => exact ⟨τ, S1, F, R, a1.wd, a1.rps w r, q1, fun b S2 H2 q2 a2 => g _ _ _ q2 (a1.trans a2)⟩
  | false => exact g _ _ _ q1 a1
theorem gw_or (ha : GT X a tA) (hb : GW X (.BoolOp .Or (b :: rest) pos) tB') : GW X (.BoolOp .Or (a :: b :: rest) pos) (tOr' tA tB') := pw_weak (pw_or ha hb) fun σ H Q ⟨τ, S, F, R, w, r, q, g⟩ => by
  refine ⟨τ, S, F, _, w, r, q, fun c S1 H1 q1 a1 => ?_⟩
  cases c with
  | false => exact ⟨τ, S1, F, R, a1.wd, a1.rps w r, q1, fun b S2 H2 q2 a2 => g _ _ _ q2 (a1.trans a2)⟩
  | true => exact g _ _ _ q1 a1
theorem gt_not (ha : GT X a tA) : GT X (.UnaryOp .Not a pos) (tNot' tA) := pt_weak (pt_not ha) fun σ H Q ⟨τ, S, F, R, w, r, q, g⟩ =>
  ⟨τ, S, F, _, w, r, q, fun c S1 H1 q1 a1 => g _ _ _ q1 a1⟩
def eAnd (ta tb : ET) : ET := fun τ S Q => ta τ S fun d S1 => match d with
  | .bl b => if b = true then tb τ S1 Q else Q (.bl false) S1
  | _ => False
def eOr (ta tb : ET) : ET := fun τ S Q => ta τ S fun d S1 => match d with
  | .bl b => if b = true then Q (.bl true) S1 else tb τ S1 Q
  | _ => False
def eNot (ta : ET) : ET := fun τ S Q => ta τ S fun d S1 => match d with
  | .bl b => Q (.bl (!b)) S1
  | _ => False
theorem g_one {op} (h : GE X a t) : GE X (.BoolOp op [a] pos) t := pe_one h
theorem g_and (ha : GE X a ta) (hb : GE X (.BoolOp .And (b :: rest) pos) tb) : GE X (.BoolOp .And (a :: b :: rest) pos) (eAnd ta tb) := pe_weak (pe_and ha hb) fun σ H Q ⟨τ, S, F, R, w, r, q, g⟩ => by
  refine ⟨τ, S, F, _, w, r, q, fun d S1 v H1 q1 a1 r1 => ?_⟩
  split at q1
  · rename_i b
    refine ⟨b, r1, ?_⟩
    cases b with
    | true => exact ⟨τ, S1, F, R, a1.wd, a1.rps w r, q1, fun d S2 v H2 q2 a2 r2 => g _ _ _ _ q2 (a1.trans a2) r2⟩
    | false => exact g _ _ _ _ q1 a1 rfl
  · exact q1.elim
theorem g_not (ha : GE X a ta) : GE X (.UnaryOp .Not a pos) (eNot ta) := pe_weak (pe_not ha) fun σ H Q ⟨τ, S, F, R, w, r, q, g⟩ => by
  refine ⟨τ, S, F, _, w, r, q, fun d S1 v H1 q1 a1 r1 => ?_⟩
  split at q1
  · exact ⟨_, r1, g _ _ _ _ q1 a1 rfl⟩
  · exact q1.elim
def eIf (t : TT') (ta tb : ET) : ET := fun τ S Q => t τ S fun c S1 => if c = true then ta τ S1 Q else tb τ S1 Q
theorem g_ifExp {c : Expr} (hc : GT X c tA) (ha : GE X a ta) (hb : GE X b tb) : GE X (.IfExp c a b pos) (eIf tA ta tb) := pe_weak (pe_ifExp hc ha hb) fun σ H Q ⟨τ, S, F, R, w, r, q, g⟩ => by
  refine ⟨τ, S, F, _, w, r, q, fun c S1 H1 q1 a1 => ?_⟩
  cases c with
  | true => exact ⟨τ, S1, F, R, a1.wd, a1.rps w r, q1, fun d S2 v H2 q2 a2 r2 => g _ _ _ _ q2 (a1.trans a2) r2⟩
  | false => exact ⟨τ, S1, F, R, a1.wd, a1.rps w r, q1, fun d S2 v H2 q2 a2 r2 => g _ _ _ _ q2 (a1.trans a2) r2⟩

/-! ### argument lists, displays -/
def aNil : AT := fun _ S Q => Q [] S
def aCons (t : ET) (u : AT) : AT := fun τ S Q => t τ S fun d S1 => u τ S1 fun ds S2 => Q (d :: ds) S2
variable {es : List Expr} {u : AT}
theorem ga_nil : GA X [] aNil := pa_weak pa_nil fun σ H Q ⟨τ, S, F, R, w, r, q, g⟩ => g _ _ _ _ q (Aft.refl w) rfl
theorem ga_cons (ha : GE X e t) (hr : GA X es u) (hs : starEach (e :: es) X.env = (false, eval e X.env) :: starEach es X.env := by rfl) : GA X (e :: es) (aCons t u) := pa_weak (pa_cons ha hr hs) fun σ H Q ⟨τ, S, F, R, w, r, q, g⟩ => by
  refine ⟨τ, S, F, _, w, r, q, fun d S1 v H1 q1 a1 r1 => ?_⟩
  exact ⟨τ, S1, F, _, a1.wd, a1.rps w r, q1, fun ds S2 vs H2 q2 a2 r2 => g _ _ _ _ q2 (a1.trans a2) ⟨v, vs, rfl, a2.rp a1.wd r1, r2⟩⟩
def eTup (u : AT) : ET := fun τ S Q => u τ S fun ds S1 => ds.length ≤ sizeLine ∧ Q (.tup ds) S1
def eLst (u : AT) : ET := fun τ S Q => u τ S fun ds S1 => ds.length ≤ sizeLine ∧ Q (.lst ds) S1
/-- a list that is to change -/
def eLstM (u : AT) : ET := fun τ S Q => u τ S fun ds S1 => ds.length ≤ sizeLine ∧ ∀ p, S1 p = none → Q (.ref p) (up S1 p (.lst ds))
theorem rp_newT {K : PySem.W.Frag} {S F : Sto} {H : Hp} {p : Addr} {ds : List D} {xs : List V} (w : Wd K S F H) (hp : H p = none) (r : RpL K (cmb S F) H ds xs) : Rp K (cmb S F) (upd H p (.tup xs)) (.tup ds) (.ref p) :=
  ⟨p, xs, rfl, SqT.of upd_same, RpL.ev w.ok (ev_new hp) r⟩
theorem rp_newL {K : PySem.W.Frag} {S F : Sto} {H : Hp} {p : Addr} {ds : List D} {xs : List V} (w : Wd K S F H) (hp : H p = none) (r : RpL K (cmb S F) H ds xs) : Rp K (cmb S F) (upd H p (.lst xs)) (.lst ds) (.ref p) :=
  ⟨p, xs, rfl, w.ok.fresh hp, upd_same, RpL.ev w.ok (ev_new hp) r⟩
theorem sto_newL {K : PySem.W.Frag} {S F : Sto} {H : Hp} {p : Addr} {ds : List D} {xs : List V} (w : Wd K S F H) (hp : H p = none) (r : RpL K (cmb S F) H ds xs) : StO K (up (cmb S F) p (.lst ds)) (upd H p (.lst xs)) p (.lst ds) :=
  ⟨xs, upd_same, RpL.ev w.ok (ev_newS hp) r⟩
theorem sto_set {K : PySem.W.Frag} {S F : Sto} {H : Hp} {p : Addr} {x : SO} {ds : List D} {xs : List V} (w : Wd K S F H) (hp : S p = some x) (r : RpL K (cmb S F) H ds xs) : StO K (up (cmb S F) p (.lst ds)) (upd H p (.lst xs)) p (.lst ds) :=
  ⟨xs, upd_same, RpL.ev w.ok (ev_set (cmb_l hp)) r⟩
theorem g_tup {x1} (h : GA X es u) : GE X (.Tuple es x1 pos) (eTup u) := pe_weak (pe_tup h) fun σ H Q ⟨τ, S, F, R, w, r, q, g⟩ => by
  refine ⟨τ, S, F, _, w, r, q, fun ds S1 vs H1 q1 a1 r1 => ⟨by rw [r1.length]; exact q1.1, fun p hp => ?_⟩⟩
  exact g _ _ _ _ q1.2 (a1.trans (Aft.new a1.wd hp)) (rp_newT a1.wd hp r1)
theorem g_lst (h : GA X es u) : GE X (.List es pos) (eLst u) := pe_weak (pe_lst h) fun σ H Q ⟨τ, S, F, R, w, r, q, g⟩ => by
  refine ⟨τ, S, F, _, w, r, q, fun ds S1 vs H1 q1 a1 r1 => ⟨by rw [r1.length]; exact q1.1, fun p hp => ?_⟩⟩
  exact g _ _ _ _ q1.2 (a1.trans (Aft.new a1.wd hp)) (rp_newL a1.wd hp r1)
theorem g_lstM (h : GA X es u) : GE X (.List es pos) (eLstM u) := pe_weak (pe_lst h) fun σ H Q ⟨τ, S, F, R, w, r, q, g⟩ => by
  refine ⟨τ, S, F, _, w, r, q, fun ds S1 vs H1 q1 a1 r1 => ⟨by rw [r1.length]; exact q1.1, fun p hp => ?_⟩⟩
  have n := cmb_none (a1.wd.ok.fresh hp)
  exact g _ _ _ _ (q1.2 p n.1) (a1.trans (Aft.newS a1.wd hp (sto_newL a1.wd hp r1))) rfl

/-! ### calls of built-ins -/
def eCall (r : OL) (u : AT) : ET := fun τ S Q => u τ S fun ds S1 => r ds S1 Q
theorem ll_of {r : OL} {σ : St} {H : Hp} {Q : VK} (h : LE X.K (eCall r u) σ H Q) : tCB (LLO X.K r) (LA X.K u) σ H Q := by
  obtain ⟨τ, S, F, R, w, r, q, g⟩ := h
  exact ⟨τ, S, F, _, w, r, q, fun ds S1 vs H1 q1 a1 r1 => ⟨ds, S1, F, R, a1.wd, r1, q1, fun d S2 v H2 q2 a2 r2 => g _ _ _ _ q2 (a1.trans a2) r2⟩⟩
variable {x : Str} {p : Pos} {id T : String} {r : OL}
theorem g_callB (hc : GC X (.builtin id) r) (hg : Gl X x) (hm : X.mg x = none) (hv : bootBuiltins x = some (.builtin id)) (ha : GA X (e :: es) u) (hn : x ≠ "__name__" := by decide) (hdb : (x == ("__debug__" : Str)) = false := by decide)
    (he : starEach (e :: es) X.env = (false, eval e X.env) :: starEach es X.env := by rfl) (hpl : (backTo pos (starEach es X.env)).any (·.1) = false := by rfl) : GE X (.Call (.Name x p) (e :: es) [] pos) (eCall r u) :=
  pe_weak (pe_callB hc hg hm hv ha hn hdb he hpl) fun σ H Q h => ll_of h
theorem g_callTy (hc : GC X (.type T) r) (hg : Gl X x) (hm : X.mg x = none) (hv : bootBuiltins x = some (.type T)) (ha : GA X (e :: es) u) (hn : x ≠ "__name__" := by decide) (hdb : (x == ("__debug__" : Str)) = false := by decide)
    (he : starEach (e :: es) X.env = (false, eval e X.env) :: starEach es X.env := by rfl) (hpl : (backTo pos (starEach es X.env)).any (·.1) = false := by rfl) : GE X (.Call (.Name x p) (e :: es) [] pos) (eCall r u) :=
  pe_weak (pe_callTy hc hg hm hv ha hn hdb he hpl) fun σ H Q h => ll_of h
theorem g_callBfun (hc : GC X (.builtin id) r) (hg : Gl X x) (hm : X.mg x = some (.builtin id)) (ha : GA X (e :: es) u) (hdb : (x == ("__debug__" : Str)) = false := by decide)
    (he : starEach (e :: es) X.env = (false, eval e X.env) :: starEach es X.env := by rfl) (hpl : (backTo pos (starEach es X.env)).any (·.1) = false := by rfl) : GE X (.Call (.Name x p) (e :: es) [] pos) (eCall r u) :=
  pe_weak (pe_callBfun hc hg hm ha hdb he hpl) fun σ H Q h => ll_of h
end
end Gx

/-! Gx, part 2: statements, targets, loops, comprehensions. -/
namespace Gx
open PySem PySem.Spec L2

structure EndG where
  nx : Tau → Sto → Prop
  rt : QD
  bk : Tau → Sto → Prop := fun _ _ => False
  ct : Tau → Sto → Prop := fun _ _ => False
abbrev ST := EndG → Tau → Sto → Prop
section
variable (K : PySem.W.Frag)
structure LEnds (S F : Sto) (H : Hp) (G : EndG) (D : Ends) : Prop where
  nx : ∀ τ' S' σ' H', G.nx τ' S' → Aft K S F H S' H' → RpS K (cmb S' F) H' τ' σ' → D.nx σ' H'
  rt : ∀ d S' v H', G.rt d S' → Aft K S F H S' H' → Rp K (cmb S' F) H' d v → D.rt v H'
  bk : ∀ τ' S' σ' H', G.bk τ' S' → Aft K S F H S' H' → RpS K (cmb S' F) H' τ' σ' → D.bk σ' H'
  ct : ∀ τ' S' σ' H', G.ct τ' S' → Aft K S F H S' H' → RpS K (cmb S' F) H' τ' σ' → D.ct σ' H'
def LS (t : ST) : TS := fun D σ H => ∃ (τ : Tau) (S F : Sto) (G : EndG), Wd K S F H ∧ RpS K (cmb S F) H τ σ ∧ t G τ S ∧ LEnds K S F H G D
abbrev TG' := D → Tau → Sto → (Tau → Sto → Prop) → Prop
def LG (t : TG') : TG := fun v σ H Q => ∃ (d : D) (τ : Tau) (S F : Sto) (R : Tau → Sto → Prop), Wd K S F H ∧ RpS K (cmb S F) H τ σ ∧ Rp K (cmb S F) H d v ∧ t d τ S R ∧
  ∀ τ' S' σ' H', R τ' S' → Aft K S F H S' H' → RpS K (cmb S' F) H' τ' σ' → Q σ' H'
abbrev TGs' := List D → Tau → Sto → (Tau → Sto → Prop) → Prop
def LGs (t : TGs') : TGs := fun vs σ H Q => ∃ (ds : List D) (τ : Tau) (S F : Sto) (R : Tau → Sto → Prop), Wd K S F H ∧ RpS K (cmb S F) H τ σ ∧ RpL K (cmb S F) H ds vs ∧ t ds τ S R ∧
  ∀ τ' S' σ' H', R τ' S' → Aft K S F H S' H' → RpS K (cmb S' F) H' τ' σ' → Q σ' H'
/-- what a loop walks: its items, while the guard holds -/
structure Srv (J : It) (S F : Sto) (H : Hp) (g : Sto → Prop) (items : List D) : Prop where
  go : ∀ (i : Nat) x S' F' H', items[i]? = some x → AftF K S F H S' F' H' → g S' → J.go i H' ∧ ∀ v H2, J.yld i H' v H2 → Aft K S' F' H' S' H2 ∧ Rp K (cmb S' F') H2 x v
  stop : ∀ S' F' H', AftF K S F H S' F' H' → g S' → J.stop items.length H'
abbrev IT' := Tau → Sto → (List D → (Sto → Prop) → Sto → Prop) → Prop
def LI (t : IT') : TI := fun σ H R => ∃ (τ : Tau) (S F : Sto) (Z : List D → (Sto → Prop) → Sto → Prop), Wd K S F H ∧ RpS K (cmb S F) H τ σ ∧ t τ S Z ∧
  ∀ items g S' J H', Z items g S' → Aft K S F H S' H' → Srv K J S' F H' g items → R J H'
end
def GS (X : Cx) (st : Stmt) (t : ST) : Prop := PS X st (LS X.K t)
def GSs (X : Cx) (st : List Stmt) (t : ST) : Prop := PSs X st (LS X.K t)
def GG (X : Cx) (e : Expr) (t : TG') : Prop := PG X e (LG X.K t)
def GGs (X : Cx) (es : List Expr) (t : TGs') : Prop := PGs X es (LGs X.K t)
def GI (X : Cx) (tg iter : Expr) (t : IT') : Prop := PI X tg iter (LI X.K t)

section
variable {K : PySem.W.Frag} {S S' S1 F : Sto} {H H' H1 : Hp} {τ : Tau} {σ : St} {G : EndG} {D : Ends}
theorem LEnds.after (h : LEnds K S F H G D) (a : Aft K S F H S1 H1) : LEnds K S1 F H1 G D where
  nx := fun τ' S' σ' H' q a' r => h.nx τ' S' σ' H' q (a.trans a') r
  rt := fun d S' v H' q a' r => h.rt d S' v H' q (a.trans a') r
  bk := fun τ' S' σ' H' q a' r => h.bk τ' S' σ' H' q (a.trans a') r
  ct := fun τ' S' σ' H' q a' r => h.ct τ' S' σ' H' q (a.trans a') r
end
section
variable {X : Cx} {e : Expr} {te : ET} {t u : ST} {pos : Pos} {st : Stmt} {rest : List Stmt} {g : TG'} {gs : TGs'}
/-! ### statements -/
def sNext : ST := fun G τ S => G.nx τ S
def sSeq (t u : ST) : ST := fun G τ S => t { G with nx := u G } τ S
theorem gss_nil : GSs X [] sNext := pss_weak pss_nil fun D σ H ⟨τ, S, F, G, w, r, q, l⟩ => l.nx _ _ _ _ q (Aft.refl w) r
theorem gss_cons (h1 : GS X st t) (h2 : GSs X rest u) : GSs X (st :: rest) (sSeq t u) := pss_weak (pss_cons h1 h2) fun D σ H ⟨τ, S, F, G, w, r, q, l⟩ => by
  refine ⟨τ, S, F, _, w, r, q, ⟨fun τ' S' σ' H' q' a' r' => ?_, l.rt, l.bk, l.ct⟩⟩
  exact ⟨τ', S', F, G, a'.wd, r', q', l.after a'⟩
theorem gss_one (h1 : GS X st t) : GSs X [st] t := pss_one h1
def sBreak : ST := fun G τ S => G.bk τ S
def sCont : ST := fun G τ S => G.ct τ S
def sDrop (te : ET) : ST := fun G τ S => te τ S fun _ S1 => G.nx τ S1
theorem gs_expr (he : GE X e te) (hs : swapsWith e none pos.line X.env = pure false := by rfl) : GS X (.Expr e pos) (sDrop te) := ps_weak (ps_expr he hs) fun D σ H ⟨τ, S, F, G, w, r, q, l⟩ =>
  ⟨τ, S, F, _, w, r, q, fun d S' v H' q' a' r' => l.nx _ _ _ _ q' a' (a'.rps w r)⟩
def sRet (te : ET) : ST := fun G τ S => te τ S G.rt
theorem gs_ret (he : GE X e te) : GS X (.Return (some e) pos) (sRet te) := ps_weak (ps_ret he) fun D σ H ⟨τ, S, F, G, w, r, q, l⟩ =>
  ⟨τ, S, F, _, w, r, q, fun d S' v H' q' a' r' => l.rt _ _ _ _ q' a' r'⟩
def sRetN : ST := fun G _ S => G.rt .non S
def sIf (c : TT') (t u : ST) : ST := fun G τ S => c τ S fun b S1 => if b = true then t G τ S1 else u G τ S1
theorem gs_if {c : Expr} {a b : List Stmt} {tc : TT'} (hc : GT X c tc) (ha : GSs X a t) (hb : GSs X b u) : GS X (.If c a b pos) (sIf tc t u) := ps_weak (ps_if hc ha hb) fun D σ H ⟨τ, S, F, G, w, r, q, l⟩ => by
  refine ⟨τ, S, F, _, w, r, q, fun b S1 H1 q1 a1 => ?_⟩
  cases b with
  | true => exact ⟨τ, S1, F, G, a1.wd, a1.rps w r, q1, l.after a1⟩
  | false => exact ⟨τ, S1, F, G, a1.wd, a1.rps w r, q1, l.after a1⟩
def sNever : ST := fun _ _ _ => False
theorem gs_never : GS X st sNever := ps_weak ps_never fun D σ H ⟨τ, S, F, G, w, r, q, l⟩ => q.elim

/-! ### targets -/
def gNm (i : Nat) : TG' := fun d τ S Q => Q (τ.set i (some d)) S
theorem gg_name (i : Nat) {x : Str} (hN : X.N.Nodup) (hi : X.N[i]? = some x := by rfl) (hx : Loc X.env.scope x := by first | exact Or.inl rfl | exact Or.inr rfl) (hf : X.fn x = true ∨ X.env.scope.names.lookup x = some .local := by first | exact .inl rfl | exact .inr rfl | assumption) : GG X (.Name x pos) (gNm i) :=
  ⟨fun pins s σ H v u Q I r h => (pg_name hN hi hx hf).run pins s σ H v u Q I r (by
    obtain ⟨d, τ, S, F, R, w, rs, rd, q, l⟩ := h
    exact l _ _ _ _ q (Aft.refl w) (rs.set i rd))⟩
def gsNil : TGs' := fun ds τ S Q => match ds with
  | [] => Q τ S
  | _ => False
def gsCons (t : TG') (u : TGs') : TGs' := fun ds τ S Q => match ds with
  | d :: ds => t d τ S fun τ' S' => u ds τ' S' Q
  | _ => False
theorem ggs_nil : GGs X [] gsNil := ⟨fun pins s σ H vs us Q I r h => (pgs_nil).run pins s σ H vs us Q I r (by
    obtain ⟨ds, τ, S, F, R, w, rs, rd, q, l⟩ := h
    cases ds with
    | nil => exact ⟨rd, l _ _ _ _ q (Aft.refl w) rs⟩
    | cons _ _ => exact q.elim)⟩
theorem ggs_cons {es : List Expr} (h1 : GG X e g) (h2 : GGs X es gs) (hs : (assignEach (e :: es) X.env).map (·.2) = assign e X.env :: (assignEach es X.env).map (·.2) := by rfl) : GGs X (e :: es) (gsCons g gs) :=
  ⟨fun pins s σ H vs us Q I r h => (pgs_cons h1 h2 hs).run pins s σ H vs us Q I r (by
    obtain ⟨ds, τ, S, F, R, w, rs, rd, q, l⟩ := h
    cases ds with
    | nil => exact q.elim
    | cons d ds =>
      obtain ⟨v, vr, rfl, r1, r2⟩ := rd
      refine ⟨v, vr, rfl, d, τ, S, F, _, w, rs, r1, q, fun τ' S' σ' H' q' a' r' => ?_⟩
      exact ⟨ds, τ', S', F, R, a'.wd, r', a'.rpl w r2, q', fun τ2 S2 σ2 H2 q2 a2 r2 => l _ _ _ _ q2 (a'.trans a2) r2⟩)⟩
/-- a tuple is unpacked -/
def gTupl (n : Nat) (gs : TGs') : TG' := fun d τ S Q => match d with
  | .tup ds => ds.length = n ∧ gs ds τ S Q
  | _ => False
theorem gg_tup {es : List Expr} {k : Nat} {n : Nat} (hc : X.calm = true) (h : GGs X es gs) (hn : (assignEach es X.env).length = n := by rfl) (hst : (assignEach es X.env).findIdx? (·.1) = none := by rfl) : GG X (.Tuple es k pos) (gTupl n gs) :=
  ⟨fun pins s σ H v u Q I r h' => (pg_tup hc h hn hst).run pins s σ H v u Q I r (by
    obtain ⟨d, τ, S, F, R, w, rs, rd, q, l⟩ := h'
    unfold gTupl at q
    split at q
    · rename_i ds
      obtain ⟨a, xs, rfl, hs, rl⟩ := rd
      exact ⟨a, xs, rfl, hs, rl.length.trans q.1, ds, τ, S, F, R, w, rs, rl, q.2, l⟩
    · exact q.elim)⟩
/-- o[i] = v -/
abbrev OSet := D → D → D → Sto → (Sto → Prop) → Prop
def LSet (K : PySem.W.Frag) (t : OSet) : TSet := fun o i v H Q => ∃ (d e f : D) (S F : Sto) (R : Sto → Prop), Wd K S F H ∧ Rp K (cmb S F) H d o ∧ Rp K (cmb S F) H e i ∧ Rp K (cmb S F) H f v ∧ t d e f S R ∧
  ∀ S' H', R S' → Aft K S F H S' H' → Q H'
def GSet (X : Cx) (t : OSet) : Prop := PSet X (LSet X.K t)
def gSubs (to ti : ET) (t : OSet) : TG' := fun f τ S Q => to τ S fun d S1 => ti τ S1 fun e S2 => t d e f S2 fun S3 => Q τ S3
theorem gg_sub {o i : Expr} {to ti : ET} {t : OSet} (ho : GE X o to) (hi : GE X i ti) (hs : GSet X t)
    (ha : ∀ v, assign (.Subscript o i pos) X.env v = (do let ov ← holding [v] (eval o X.env); let iv ← holding [v, ov] (eval i X.env); standAt pos; holding [v, ov, iv] (setItem ov iv v); release [v, ov, iv] []) := by intro _; rfl) : GG X (.Subscript o i pos) (gSubs to ti t) :=
  ⟨fun pins s σ H v u Q I r h' => (pg_sub ho hi hs ha).run pins s σ H v u Q I r (by
    obtain ⟨f, τ, S, F, R, w, rs, rd, q, l⟩ := h'
    refine ⟨τ, S, F, _, w, rs, q, fun d S1 v1 H1 q1 a1 r1 => ?_⟩
    refine ⟨τ, S1, F, _, a1.wd, a1.rps w rs, q1, fun e S2 v2 H2 q2 a2 r2 => ?_⟩
    refine ⟨d, e, f, S2, F, _, a2.wd, a2.rp a1.wd r1, r2, a2.rp a1.wd (a1.rp w rd), q2, fun S3 H3 q3 a3 => ?_⟩
    exact l _ _ _ _ q3 ((a1.trans a2).trans a3) (((a1.trans a2).trans a3).rps w rs))⟩

/-! ### assignments -/
def sAsg (te : ET) (g : TG') : ST := fun G τ S => te τ S fun d S1 => g d τ S1 G.nx
theorem asg_of {D : Ends} {σ : St} {H : Hp} (h : LS X.K (sAsg te g) D σ H) : tAsg (LE X.K te) (LG X.K g) D σ H := by
  obtain ⟨τ, S, F, G, w, r, q, l⟩ := h
  refine ⟨τ, S, F, _, w, r, q, fun d S1 v H1 q1 a1 r1 => ?_⟩
  exact ⟨d, τ, S1, F, _, a1.wd, a1.rps w r, r1, q1, fun τ' S' σ' H' q' a' r' => l.nx _ _ _ _ q' (a1.trans a') r'⟩
theorem gs_asg {tg : Expr} (he : GE X e te) (hg : GG X tg g) (hs : swapsWithSole [tg] e pos.line X.env = pure false := by rfl) (hw : swappedStores [tg] e X.env = pure none := by rfl)
    (h1 : (assignEach [tg] X.env).map (·.2) = [assign tg X.env] := by rfl) : GS X (.Assign [tg] e pos) (sAsg te g) := ps_weak (ps_asg he hg hs hw h1) fun D σ H h => asg_of h
theorem gs_set (i : Nat) {x : Str} {pos' : Pos} (hN : X.N.Nodup) (he : GE X e te) (hi : X.N[i]? = some x := by rfl) (hx : Loc X.env.scope x := by first | exact Or.inl rfl | exact Or.inr rfl) (hs : swapsWith e (some (.Name x pos')) pos.line X.env = pure false := by rfl)
    (hf : X.fn x = true ∨ X.env.scope.names.lookup x = some .local := by first | exact .inl rfl | exact .inr rfl | assumption) : GS X (.Assign [.Name x pos'] e pos) (sAsg te (gNm i)) :=
  ps_weak (ps_set hN hi hx he hs hf) fun D σ H ⟨τ, S, F, G, w, r, q, l⟩ =>
    ⟨τ, S, F, _, w, r, q, fun d S1 v H1 q1 a1 r1 => l.nx _ _ _ _ q1 a1 ((a1.rps w r).set i r1)⟩
def sPar (i j : Nat) (u : AT) : ST := fun G τ S => u τ S fun ds S1 => match ds with
  | [d, e] => G.nx ((τ.set i (some d)).set j (some e)) S1
  | _ => False
theorem gs_par (i j : Nat) {x y : Str} {a b : Expr} {u : AT} {px py pt : Pos} {kt k2 pt2} (hc : X.calm = true) (hN : X.N.Nodup) (ha : GA X [a, b] u) (hi : X.N[i]? = some x := by rfl) (hj : X.N[j]? = some y := by rfl) (hij : i ≠ j := by decide)
    (hx : X.env.scope.names.lookup x = some .local := by rfl) (hy : X.env.scope.names.lookup y = some .local := by rfl)
    (hw : swappedStores [.Tuple [.Name x px, .Name y py] kt pt] (.Tuple [a, b] k2 pt2) X.env = pure (some [x, y]) := by rfl)
    (hs : swapsWithSole [.Tuple [.Name x px, .Name y py] kt pt] (.Tuple [a, b] k2 pt2) pos.line X.env = pure false := by rfl) : GS X (.Assign [.Tuple [.Name x px, .Name y py] kt pt] (.Tuple [a, b] k2 pt2) pos) (sPar i j u) :=
  ps_weak (ps_par hc hN hi hj hij hx hy ha hw hs) fun D σ H ⟨τ, S, F, G, w, r, q, l⟩ => by
    refine ⟨τ, S, F, _, w, r, q, fun ds S1 vs H1 q1 a1 r1 => ?_⟩
    split at q1
    · obtain ⟨v, vr, rfl, rv, z, vr2, rfl, rz, rfl⟩ := r1
      exact ⟨v, z, rfl, l.nx _ _ _ _ q1 a1 (((a1.rps w r).set i rv).set j rz)⟩
    · exact q1.elim
def sPar3 (i j k : Nat) (u : AT) : ST := fun G τ S => u τ S fun ds S1 => match ds with
  | [d, e, f] => G.nx (((τ.set i (some d)).set j (some e)).set k (some f)) S1
  | _ => False
/-! ### loops -/
def forG (g : TG') (tb : ST) (gd : Sto → Prop) : List D → ST
  | [] => fun G τ S => gd S ∧ G.nx τ S
  | x :: xs => fun G τ S => gd S ∧ g x τ S fun τ1 S1 => tb { G with nx := forG g tb gd xs G, ct := forG g tb gd xs G, bk := G.nx } τ1 S1
def sFor (ti : IT') (g : TG') (tb : ST) : ST := fun G τ S => ti τ S fun items gd S1 => forG g tb gd items G τ S1
theorem gs_for {tg iter : Expr} {body : List Stmt} {ti : IT'} {tb : ST} (hp : PassesOwn (model X.prog X.w) X.A X.env X.xe) (hc : X.calm = true) (hi : GI X tg iter ti) (hg : GG X tg g) (hb : GSs X body tb)
    (hs : ∀ x, foldedSetIterable iter X.env x = pure x := by intro _; rfl) : GS X (.For tg iter body [] pos) (sFor ti g tb) := ps_weak (ps_for hp hc hi hg hb hs) fun D σ H ⟨τ, S, F, G, w, r, q, l⟩ => by
  refine ⟨τ, S, F, _, w, r, q, fun items gd S1 J H1 q1 a1 sv => ?_⟩
  refine ⟨fun i m σ' H' => ∃ τ' S', m = items.length - i ∧ i ≤ items.length ∧ Aft X.K S1 F H1 S' H' ∧ RpS X.K (cmb S' F) H' τ' σ' ∧ forG g tb gd (items.drop i) G τ' S', ⟨_, τ, S1, rfl, Nat.zero_le _, Aft.refl a1.wd, a1.rps w r, by simpa using q1⟩, ?_⟩
  rintro i m σ' H' ⟨τ', S', rfl, hi, a', r', q'⟩
  by_cases hlt : i < items.length
  · rw [List.drop_eq_getElem_cons hlt] at q'
    obtain ⟨gd', q'⟩ := q'
    obtain ⟨g1, g2⟩ := sv.go i _ S' F H' (List.getElem?_eq_getElem hlt) a' gd'
    refine .inr ⟨g1, fun σ2 H2 => ∃ τ2 S2, Aft X.K S1 F H1 S2 H2 ∧ RpS X.K (cmb S2 F) H2 τ2 σ2 ∧ forG g tb gd (items.drop (i + 1)) G τ2 S2, fun σ2 H2 ⟨τ2, S2, a2, r2, q2⟩ => ⟨_, by omega, τ2, S2, rfl, hlt, a2, r2, q2⟩, fun v H2 y => ?_⟩
    obtain ⟨a2, rv⟩ := g2 v H2 y
    refine ⟨items[i], τ', S', F, _, a2.wd, a2.rps a'.wd r', rv, q', fun τ3 S3 σ3 H3 q3 a3 r3 => ?_⟩
    refine ⟨τ3, S3, F, _, a3.wd, r3, q3, ⟨fun τ4 S4 σ4 H4 q4 a4 r4 => ⟨τ4, S4, ((a'.trans a2).trans a3).trans a4, r4, q4⟩, fun d S4 v4 H4 q4 a4 r4 => ?_, fun τ4 S4 σ4 H4 q4 a4 r4 => ?_, fun τ4 S4 σ4 H4 q4 a4 r4 => ⟨τ4, S4, ((a'.trans a2).trans a3).trans a4, r4, q4⟩⟩⟩
    · exact l.rt _ _ _ _ q4 (a1.trans (((a'.trans a2).trans a3).trans a4)) r4
    · exact l.nx _ _ _ _ q4 (a1.trans (((a'.trans a2).trans a3).trans a4)) r4
  · have e : i = items.length := by omega
    subst e
    rw [List.drop_length] at q'
    obtain ⟨gd', q'⟩ := q'
    exact .inl ⟨sv.stop S' F H' a' gd', l.nx _ _ _ _ q' (a1.trans a') r'⟩

def whG (c : TT') (tb : ST) : Nat → ST
  | 0 => fun _ _ _ => False
  | n + 1 => fun G τ S => c τ S fun b S1 => if b = true then tb { G with nx := whG c tb n G, ct := whG c tb n G, bk := G.nx } τ S1 else G.nx τ S1
def sWh (c : TT') (tb : ST) : ST := fun G τ S => ∃ n, whG c tb n G τ S
theorem gs_while {c : Expr} {body : List Stmt} {tc : TT'} {tb : ST} (hp : PassesOwn (model X.prog X.w) X.A X.env X.xe) (hc : GT X c tc) (hb : GSs X body tb) : GS X (.While c body [] pos) (sWh tc tb) := ps_weak (ps_while hp hc hb) fun D σ H ⟨τ, S, F, G, w, r, ⟨n, q⟩, l⟩ => by
  refine ⟨fun m σ' H' => ∃ τ' S', Aft X.K S F H S' H' ∧ RpS X.K (cmb S' F) H' τ' σ' ∧ whG tc tb m G τ' S', ⟨n, τ, S, Aft.refl w, r, q⟩, ?_⟩
  rintro m σ' H' ⟨τ', S', a', r', q'⟩
  cases m with
  | zero => exact q'.elim
  | succ m =>
    refine ⟨τ', S', F, _, a'.wd, r', q', fun b S1 H1 q1 a1 => ?_⟩
    cases b with
    | false => exact l.nx _ _ _ _ q1 (a'.trans a1) (a1.rps a'.wd r')
    | true =>
      refine ⟨fun σ2 H2 => ∃ τ2 S2, Aft X.K S F H S2 H2 ∧ RpS X.K (cmb S2 F) H2 τ2 σ2 ∧ whG tc tb m G τ2 S2, fun σ2 H2 z => ⟨m, Nat.lt_succ_self _, z⟩, ?_⟩
      refine ⟨τ', S1, F, _, a1.wd, a1.rps a'.wd r', q1, ⟨fun τ4 S4 σ4 H4 q4 a4 r4 => ⟨τ4, S4, (a'.trans a1).trans a4, r4, q4⟩, fun d S4 v4 H4 q4 a4 r4 => ?_, fun τ4 S4 σ4 H4 q4 a4 r4 => ?_, fun τ4 S4 σ4 H4 q4 a4 r4 => ⟨τ4, S4, (a'.trans a1).trans a4, r4, q4⟩⟩⟩
      · exact l.rt _ _ _ _ q4 ((a'.trans a1).trans a4) r4
      · exact l.nx _ _ _ _ q4 ((a'.trans a1).trans a4) r4
end
end Gx

/-! Gx, part 3: what loops walk. -/
namespace Gx
open PySem PySem.Spec PyProof.Rows L2

/-! ### enumerate over a tuple -/
def IteT (K : PySem.W.Frag) (a : Addr) : It :=
  ⟨fun i H => ∃ (xs : List V) (x : V), SqT K H a xs ∧ xs[i]? = some x, fun i H v H' => ∃ T x, v = .ref T ∧ H T = none ∧ H' = upd H T (.tup [.int (i : Nat), x]) ∧ ∀ xs, SqT K H a xs → xs[i]? = some x, fun i H => ∃ xs : List V, SqT K H a xs ∧ xs.length = i⟩
theorem turn_enumT {P : Program} {w : World} {K : PySem.W.Frag} {elts : List Expr} {kk : Nat} {tpos : Pos} (a e it : Addr) :
    Turn P w K (.Tuple elts kk tpos) (IteT K a) [e, it] e (fun i h => (∃ old, IsEnum h e it ((i : Nat) : Int) old) ∧ h.IsTupleIter it a i ∧ e ≠ it ∧ a ≠ it ∧ e ≠ a) where
  mem := List.mem_cons_self
  obj := fun i h ⟨⟨old, he⟩, ⟨o, ho, hc, hd⟩, _⟩ b hb => by
    rcases List.mem_cons.mp hb with rfl | hb
    · exact ⟨_, he, fun v q => nomatch q⟩
    · rw [List.mem_singleton.mp hb]; exact ⟨o, ho, fun v q => by rw [hd] at q; cases q⟩
  keep := fun i h h' st k => let ⟨⟨old, he⟩, hi, hne⟩ := st; ⟨⟨old, k e List.mem_cons_self _ he⟩, hi.at fun o q => k it (by simp) o q, hne⟩
  item := by
    intro X hP hw hK hc i pins s σ H E I hf st hg
    subst hP hw hK
    obtain ⟨⟨old, he⟩, hit, hne, hai, hea⟩ := st
    obtain ⟨xs, x, hq, hx⟩ := hg
    obtain ⟨its, rv, p, hz⟩ := I.tuple hq
    obtain ⟨u, hu, ru⟩ := rv.get hx
    have hel : e < s.heap.objs.size := Heap.lt_size he
    have hil : it < s.heap.objs.size := by obtain ⟨_, q, _⟩ := hit; exact Heap.lt_size q
    have hlt : i < its.toArray.size := by rw [List.size_toArray]; exact (List.getElem?_eq_some_iff.mp hu).1
    have Dw := Draws.tuple (prog := X.prog) (w := X.w) (A := X.A.in1) (I.ok.hd hc) it a hai its.toArray
    refine wpAny_pyNext_enum_itemC Dw he ⟨hit, p⟩ hlt hne (by simp [hne, hea]) fun u' h' tk hu' ho hst' hT hsz hk => ?_
    have eu : u' = u := by rw [List.getElem?_toArray, hu] at hu'; exact (Option.some.inj hu').symm
    subst eu
    refine ⟨_, rfl, wpAny_letOwnedTupleGo_enum (s := { s with heap := h', toks := tk + 1 }) ho fun h'' he' sb => ?_⟩
    have hT2 : h''.get? s.heap.objs.size = some { cls := .type "tuple", data := .seq #[.int i tk, u'] } := (sb.2 _ (Nat.ne_of_gt hel)).trans hT
    have new : ObjOk X.prog X.w (upd H s.heap.objs.size (.tup [.int (i : Nat), x])) h'' s.heap.objs.size (.tup [.int (i : Nat), x]) :=
      ⟨by show 2 ≤ sizeLine; decide, [.int i tk, u'], .cons ⟨_, rfl⟩ (.cons ru .nil), ⟨_, hT2, rfl, _, rfl⟩⟩
    have I1 : Inv X pins σ (upd H s.heap.objs.size (.tup [.int (i : Nat), x])) { s with heap := h'', toks := tk + 1 } :=
      I.turnedNew (t' := tk + 1) (ch := [e, it]) (fun b ob hb q => (sb.2 b (fun z => hb (by simp [z]))).trans (hk b ob (fun z => hb (by simp [z])) (fun z => hb (by simp [z])) q)) hf (Nat.le_refl _) new
    refine ⟨.ref s.heap.objs.size, _, I1, rfl, ⟨_, x, rfl, I.hok.fresh (Nat.le_refl _), rfl, fun ys hy => by rw [I.tuple_inj hy hq]; exact hx⟩, ⟨⟨u', ?_⟩, hst'.1.at fun o q => (sb.2 it (Ne.symm hne)).trans q, hne, hai, hea⟩, fun b hb => ?_⟩
    · rw [show ((i + 1 : Nat) : Int) = (i : Int) + 1 from by omega]; exact he'
    · have hb' : b < s.heap.objs.size := by
        rcases List.mem_cons.mp hb with rfl | hb
        · exact hel
        · rw [List.mem_singleton.mp hb]; exact hil
      rw [upd_ne (Nat.ne_of_lt hb')]
      exact (hf b hb).1
  done := by
    intro X hP hw hK hc i pins s σ H E I hf st hg
    subst hP hw hK
    obtain ⟨⟨old, he⟩, hit, hne, hai, hea⟩ := st
    obtain ⟨xs, hq, hx⟩ := hg
    obtain ⟨its, rv, p, hz⟩ := I.tuple hq
    obtain ⟨f0, f1, f2, f3, f4, f5⟩ := hf it (by simp)
    have hl : i = its.toArray.size := by rw [List.size_toArray, ← rv.length, hx]
    subst hl
    exact wpAny_pyNext_enum_endD (Draws.tuple (prog := X.prog) (w := X.w) (A := X.A.in1) (I.ok.hd hc) it a hai its.toArray) he ⟨hit, p⟩ fun h' eb => ⟨rfl, I.turned (t' := s.toks) (fun b o hb q => eb b o hb q) f0 f1 f3 f4 f5⟩
  self := fun A i s Q E st h => let ⟨⟨_, he⟩, _⟩ := st; wpAny_pyIter_enum he h
theorem meets_enum1 {v : Value} {o : Obj} {G : Heap → Prop} (B : Begins v o G) :
    Meets (Builtin.«enumerate.__new__» ⟨[.type "enumerate", v], []⟩) (fun _ R s => G s.heap ∧
      R (.ok (.ret (.ref (s.heap.push o).objs.size))) { s with heap := (s.heap.push o).push { cls := .type "enumerate", data := .fields #[.none, .bool false, .ref s.heap.objs.size, rawInt 0, .none, .none] } }) :=
  .of_wp fun prog w A R s h => by
    obtain ⟨hp, g, d, tk, os⟩ := s
    obtain ⟨h1, h⟩ := h
    have hsub := sub_enumerate
    have q1 : ∀ {A' : Around} {E : Value → Shared → Prop} {Q : Value → Shared → Prop}, Q (.ref hp.objs.size) ⟨hp.push o, g, d, tk, os⟩ → wpAny (model prog w) A' (pyIter v) Q E ⟨hp, g, d, tk, os⟩ :=
      fun q => B.iter prog w _ _ ⟨hp, g, d, tk, os⟩ _ h1 q
    wp_walk using q1
    refine wpAny_stack_any fun st => wpAny_pure ?_
    split
    · rename_i c _ _ _ _ _
      cases (c == Value.type "enumerate") <;> (wp_walk using q1; exact ⟨_, rfl, h⟩)
    · (wp_walk using q1; exact ⟨_, rfl, h⟩)
theorem enum_begins1 {prog : Program} {w : World} {A : Around} {E : Value → Shared → Prop} {s : Shared} {v : Value} {o : Obj} {G : Heap → Prop} {Q : Value → Shared → Prop} (B : Begins v o G) (h1 : G s.heap)
    (h : ∀ h', IsEnum h' (s.heap.objs.size + 1) s.heap.objs.size 0 .none → h'.get? s.heap.objs.size = some o → h'.objs.size = s.heap.objs.size + 2 → (∀ b o, s.heap.get? b = some o → h'.get? b = some o) → Q (.ref (s.heap.objs.size + 1)) { s with heap := h' }) :
    wpAny (model prog w) A (call (.type "enumerate") [v]) Q E s := by
  refine callType_new F.called_enumerate (by decide) (F.typeCall_enumerate_1 _) (F.newCall_enumerate_1 _) (fun obj => F.args_object_init_2 obj _) F.entry_enumerate_new (meets_enum1 B) ⟨h1, ?_⟩
  have hz : (s.heap.push o).objs.size = s.heap.objs.size + 1 := Heap.size_push ..
  show _ ∧ _
  rw [hz]
  have he : IsEnum ((s.heap.push o).push { cls := .type "enumerate", data := .fields #[.none, .bool false, .ref s.heap.objs.size, rawInt 0, .none, .none] }) (s.heap.objs.size + 1) s.heap.objs.size 0 .none := by
    have e := Heap.get?_push_size (s.heap.push o) (o := { cls := .type "enumerate", data := .fields #[.none, .bool false, .ref s.heap.objs.size, rawInt 0, .none, .none] }) rfl
    rw [hz] at e; exact e
  exact ⟨⟨_, he, rfl⟩, h _ he (Heap.get?_push_of_some _ (Heap.get?_push_size _ B.free)) (by rw [Heap.size_push, hz]) fun b o x => Heap.get?_push_of_some _ (Heap.get?_push_of_some _ x)⟩
def iEnumT (K : PySem.W.Frag) (ta : TA) : TI := fun σ H R => ta σ H fun vs H1 => ∃ a xs, vs = [.ref a] ∧ ((SqL K H1 a xs ∧ R (Ite K a) H1) ∨ (SqT K H1 a xs ∧ R (IteT K a) H1))
theorem pi_enumT {X : Cx} {e : Expr} {ta : TA} {p pos tpos : Pos} {elts : List Expr} {kk : Nat} (hg : Gl X "enumerate") (hm : X.mg "enumerate" = none) (ha : PA X [e] ta) (hs : starEach [e] X.env = [(false, eval e X.env)] := by rfl) :
    PI X (.Tuple elts kk tpos) (.Call (.Name "enumerate" p) [e] [] pos) (iEnumT X.K ta) := by
  refine ⟨fun pins s σ H R I h => ?_⟩
  refine Call_ (ld_blt I hg hm boot_enumerate (PyProof.Rows.callWith_type1 (thn (ha.run pos pins s σ H _ I h) fun us s1 ⟨vs, H1, I1, r1, q1⟩ => ?_) hs rfl))
  obtain ⟨a, xs, rfl, q1⟩ := q1
  cases r1 with
  | cons r rr =>
    cases rr
    cases r
    have fresh2 : ∀ c ∈ [s1.heap.objs.size + 1, s1.heap.objs.size], FpOk X pins H1 c := fun c hcm => by
      have hle : s1.heap.objs.size ≤ c := by
        rcases List.mem_cons.mp hcm with rfl | hcm
        · exact Nat.le_succ _
        · rw [List.mem_singleton.mp hcm]; exact Nat.le_refl _
      exact I1.fpOk hle (I1.hok.fresh hle)
    rcases q1 with ⟨hq, q⟩ | ⟨hq, q⟩
    · obtain ⟨its, rv, p', hz⟩ := I1.list hq
      refine call_enumerate_list p'.isList fun h' he hit hsz hk => wpAny_pyIter_enum he ?_
      exact ⟨s1.heap.objs.size + 1, [s1.heap.objs.size + 1, s1.heap.objs.size], _, _, H1, rfl, I1.kept (t' := s1.toks) hk, turn_enum a (s1.heap.objs.size + 1) s1.heap.objs.size, ⟨⟨.none, he⟩, hit, Nat.succ_ne_self _⟩, fresh2, q⟩
    · obtain ⟨its, rv, p', hz⟩ := I1.tuple hq
      have hal : a < s1.heap.objs.size := by obtain ⟨o, ho, _⟩ := id p'; exact Heap.lt_size ho
      have hen : ∀ (h' : Heap), IsEnum h' (s1.heap.objs.size + 1) s1.heap.objs.size 0 .none → h'.get? s1.heap.objs.size = some { cls := .type "tuple_iterator", data := .fields #[.ref a, .int 0 0] } → (∀ b o, s1.heap.get? b = some o → h'.get? b = some o) →
          wpAny (model X.prog X.w) X.A (pyIter (.ref (s1.heap.objs.size + 1))) (PIE X pins σ (.Tuple elts kk tpos) R) X.xe { s1 with heap := h' } := fun h' he hit hk => by
        refine wpAny_pyIter_enum he ?_
        exact ⟨s1.heap.objs.size + 1, [s1.heap.objs.size + 1, s1.heap.objs.size], _, _, H1, rfl, I1.kept (t' := s1.toks) hk, turn_enumT a (s1.heap.objs.size + 1) s1.heap.objs.size,
          ⟨⟨.none, he⟩, ⟨_, hit, rfl, rfl⟩, Nat.succ_ne_self _, Nat.ne_of_lt hal, Nat.ne_of_gt (Nat.lt_succ_of_lt hal)⟩, fresh2, q⟩
      exact enum_begins1 (begins_tuple a its.toArray) (show s1.heap.IsTuple a its.toArray from p') fun h' he hit hsz hk => hen h' he hit hk
end Gx

/-! Gx, part 4: sources of loops and comprehensions over data; comprehensions. -/
namespace Gx
open PySem PySem.Spec PyProof.Rows L2

section
variable {K : PySem.W.Frag} {S S' S1 F : Sto} {H H' H1 : Hp} {T : Sto}
/-- the items of a list or a tuple, and what has to stay that they do -/
def seqG (S : Sto) (Z : List D → (Sto → Prop) → Sto → Prop) : D → Prop
  | .tup ds => Z ds (fun _ => True) S
  | .lst ds => Z ds (fun _ => True) S
  | .scr ds => Z ds (fun _ => True) S
  | .ref p => match S p with
    | some (.lst ds) => Z ds (fun S' => S' p = some (.lst ds)) S
    | _ => False
  | _ => False
/-- a list that is read: pure, the script, or one that changes -/
def ListAt (K : PySem.W.Frag) (S F : Sto) (H : Hp) (a : Addr) (ds : List D) (g : Sto → Prop) : Prop :=
  ∀ S' F' H', AftF K S F H S' F' H' → g S' → ∃ xs, SqL K H' a xs ∧ RpL K (cmb S' F') H' ds xs
def TupAt (K : PySem.W.Frag) (S F : Sto) (H : Hp) (a : Addr) (ds : List D) (g : Sto → Prop) : Prop :=
  ∀ S' F' H', AftF K S F H S' F' H' → g S' → ∃ xs, SqT K H' a xs ∧ RpL K (cmb S' F') H' ds xs
theorem seq_cases {d : D} {v : V} {Z : List D → (Sto → Prop) → Sto → Prop} (w : Wd K S F H) (r : Rp K (cmb S F) H d v) (h : seqG S Z d) :
    ∃ a ds g, v = .ref a ∧ Z ds g S ∧ g S ∧ (ListAt K S F H a ds g ∨ TupAt K S F H a ds g) := by
  unfold seqG at h
  split at h
  · rename_i ds
    obtain ⟨a, xs, rfl, hs, rl⟩ := r
    exact ⟨a, ds, _, rfl, h, trivial, .inr fun S' F' H' af _ => ⟨xs, SqT.ev w.ok af.ev hs, af.rpl w rl⟩⟩
  · rename_i ds
    obtain ⟨a, xs, rfl, n, hs, rl⟩ := r
    exact ⟨a, ds, _, rfl, h, trivial, .inl fun S' F' H' af _ => ⟨xs, .of (af.ev _ _ hs n).1, af.rpl w rl⟩⟩
  · rename_i ds
    obtain ⟨a, xs, rfl, hs, rl⟩ := r
    exact ⟨a, ds, _, rfl, h, trivial, .inl fun S' F' H' af _ => ⟨xs, hs.elim (fun hs => .inl (Rd.ev hs.1 af.ev hs.2).1) (fun hs => ScrAt.sq (T := S') (.inr hs)), af.rpl w rl⟩⟩
  · rename_i p
    split at h
    · rename_i ds e
      refine ⟨p, ds, _, r, h, e, .inl fun S' F' H' af e' => ?_⟩
      obtain ⟨xs, q, rl⟩ := af.wd.ok p _ (cmb_l e')
      exact ⟨xs, .of q, rl⟩
    · exact h.elim
  · exact h.elim
end
section
variable {K : PySem.W.Frag} {S S' S1 F : Sto} {H H' H1 : Hp}
theorem srv_l {a : Addr} {ds : List D} {g : Sto → Prop} (h : ListAt K S F H a ds g) : Srv K (Itl K a) S F H g ds where
  go := fun i x S' F' H' e af gs => by
    obtain ⟨xs, q, rl⟩ := h S' F' H' af gs
    obtain ⟨v, e1, rv⟩ := rl.get e
    refine ⟨⟨xs, v, q, e1⟩, fun u H2 ⟨e2, y⟩ => ?_⟩
    subst e2
    have z := y xs q
    rw [e1] at z; cases z
    exact ⟨Aft.refl af.wd, rv⟩
  stop := fun S' F' H' af gs => by
    obtain ⟨xs, q, rl⟩ := h S' F' H' af gs
    exact ⟨xs, q, Nat.le_of_eq rl.length⟩
theorem srv_t {a : Addr} {ds : List D} {g : Sto → Prop} (h : TupAt K S F H a ds g) : Srv K (Itt K a) S F H g ds where
  go := fun i x S' F' H' e af gs => by
    obtain ⟨xs, q, rl⟩ := h S' F' H' af gs
    obtain ⟨v, e1, rv⟩ := rl.get e
    refine ⟨⟨xs, v, q, e1⟩, fun u H2 ⟨e2, y⟩ => ?_⟩
    subst e2
    have z := y xs q
    rw [e1] at z; cases z
    exact ⟨Aft.refl af.wd, rv⟩
  stop := fun S' F' H' af gs => by
    obtain ⟨xs, q, rl⟩ := h S' F' H' af gs
    exact ⟨xs, q, Nat.le_of_eq rl.length⟩
theorem aft_pair {T : Addr} {x y : V} {d e : D} (w : Wd K S F H) (hT : H T = none) (r1 : Rp K (cmb S F) H d x) (r2 : Rp K (cmb S F) H e y) :
    Aft K S F H S (upd H T (.tup [x, y])) ∧ Rp K (cmb S F) (upd H T (.tup [x, y])) (.tup [d, e]) (.ref T) :=
  ⟨Aft.new w hT, rp_newT w hT ⟨x, [y], rfl, r1, y, [], rfl, r2, rfl⟩⟩
def enumD (k : Int) : List D → List D
  | [] => []
  | d :: ds => .tup [.int k, d] :: enumD (k + 1) ds
theorem enumD_get : ∀ {ds : List D} {k : Int} {i : Nat} {x : D}, (enumD k ds)[i]? = some x → ∃ d, ds[i]? = some d ∧ x = .tup [.int (k + i), d]
  | [], _, _, _, h => by simp [enumD] at h
  | d :: ds, k, 0, x, h => by
    simp [enumD] at h
    exact ⟨d, rfl, by subst h; simp⟩
  | d :: ds, k, i + 1, x, h => by
    have h' : (enumD (k + 1) ds)[i]? = some x := by simpa [enumD] using h
    obtain ⟨e, h1, h2⟩ := enumD_get h'
    refine ⟨e, by simpa using h1, ?_⟩
    rw [h2]
    have z : k + 1 + (i : Int) = k + ((i + 1 : Nat) : Int) := by omega
    rw [z]
theorem enumD_length : ∀ {ds : List D} {k : Int}, (enumD k ds).length = ds.length
  | [], _ => rfl
  | d :: ds, k => by show (enumD (k + 1) ds).length + 1 = _; rw [enumD_length]; rfl
theorem srv_el {a : Addr} {ds : List D} {g : Sto → Prop} (h : ListAt K S F H a ds g) : Srv K (Ite K a) S F H g (enumD 0 ds) where
  go := fun i x S' F' H' e af gs => by
    obtain ⟨xs, q, rl⟩ := h S' F' H' af gs
    obtain ⟨d, e0, rfl⟩ := enumD_get e
    obtain ⟨v, e1, rv⟩ := rl.get e0
    refine ⟨⟨xs, v, q, e1⟩, fun u H2 ⟨T, y, e2, hT, e3, z⟩ => ?_⟩
    subst e2 e3
    have z := z xs q
    rw [e1] at z; cases z
    exact aft_pair af.wd hT (by show V.int _ = V.int _; congr 1; omega) rv
  stop := fun S' F' H' af gs => by
    obtain ⟨xs, q, rl⟩ := h S' F' H' af gs
    exact ⟨xs, q, by rw [enumD_length]; exact Nat.le_of_eq rl.length⟩
theorem srv_et {a : Addr} {ds : List D} {g : Sto → Prop} (h : TupAt K S F H a ds g) : Srv K (IteT K a) S F H g (enumD 0 ds) where
  go := fun i x S' F' H' e af gs => by
    obtain ⟨xs, q, rl⟩ := h S' F' H' af gs
    obtain ⟨d, e0, rfl⟩ := enumD_get e
    obtain ⟨v, e1, rv⟩ := rl.get e0
    refine ⟨⟨xs, v, q, e1⟩, fun u H2 ⟨T, y, e2, hT, e3, z⟩ => ?_⟩
    subst e2 e3
    have z := z xs q
    rw [e1] at z; cases z
    exact aft_pair af.wd hT (by show V.int _ = V.int _; congr 1; omega) rv
  stop := fun S' F' H' af gs => by
    obtain ⟨xs, q, rl⟩ := h S' F' H' af gs
    exact ⟨xs, q, by rw [enumD_length]; exact rl.length⟩
def zipD : List D → List D → List D
  | d :: ds, e :: es => .tup [d, e] :: zipD ds es
  | _, _ => []
theorem zipD_get : ∀ {ds es : List D} {i : Nat} {x : D}, (zipD ds es)[i]? = some x → ∃ d e, ds[i]? = some d ∧ es[i]? = some e ∧ x = .tup [d, e]
  | [], _, _, _, h => by simp [zipD] at h
  | _ :: _, [], _, _, h => by simp [zipD] at h
  | d :: ds, e :: es, 0, x, h => by
    simp [zipD] at h
    exact ⟨d, e, rfl, rfl, h.symm⟩
  | d :: ds, e :: es, i + 1, x, h => by
    have h' : (zipD ds es)[i]? = some x := by simpa [zipD] using h
    obtain ⟨d', e', h1, h2, h3⟩ := zipD_get h'
    exact ⟨d', e', by simpa using h1, by simpa using h2, h3⟩
theorem zipD_length : ∀ {ds es : List D}, ds.length ≤ (zipD ds es).length ∨ es.length ≤ (zipD ds es).length
  | [], es => .inl (Nat.le_refl _)
  | _ :: _, [] => .inr (Nat.le_refl _)
  | d :: ds, e :: es => (zipD_length (ds := ds) (es := es)).imp Nat.succ_le_succ Nat.succ_le_succ
theorem srv_zl {a b : Addr} {ds es : List D} {g g' : Sto → Prop} (h : ListAt K S F H a ds g) (h' : ListAt K S F H b es g') : Srv K (Itz K a b) S F H (fun S' => g S' ∧ g' S') (zipD ds es) where
  go := fun i x S' F' H' e af gs => by
    obtain ⟨xs, q, rl⟩ := h S' F' H' af gs.1
    obtain ⟨ys, q', rl'⟩ := h' S' F' H' af gs.2
    obtain ⟨d, e, e0, e0', rfl⟩ := zipD_get e
    obtain ⟨v, e1, rv⟩ := rl.get e0
    obtain ⟨v', e1', rv'⟩ := rl'.get e0'
    refine ⟨⟨xs, ys, v, v', q, q', e1, e1'⟩, fun u H2 ⟨T, y, y', e2, hT, e3, z, z'⟩ => ?_⟩
    subst e2 e3
    have z := z xs q
    rw [e1] at z; cases z
    have z' := z' ys q'
    rw [e1'] at z'; cases z'
    exact aft_pair af.wd hT rv rv'
  stop := fun S' F' H' af gs => by
    obtain ⟨xs, q, rl⟩ := h S' F' H' af gs.1
    obtain ⟨ys, q', rl'⟩ := h' S' F' H' af gs.2
    exact ⟨xs, ys, q, q', by rw [rl.length, rl'.length]; exact zipD_length⟩
theorem srv_zt {a b : Addr} {ds es : List D} {g g' : Sto → Prop} (h : TupAt K S F H a ds g) (h' : TupAt K S F H b es g') : Srv K (RZ.ItzT K a b) S F H (fun S' => g S' ∧ g' S') (zipD ds es) where
  go := fun i x S' F' H' e af gs => by
    obtain ⟨xs, q, rl⟩ := h S' F' H' af gs.1
    obtain ⟨ys, q', rl'⟩ := h' S' F' H' af gs.2
    obtain ⟨d, e, e0, e0', rfl⟩ := zipD_get e
    obtain ⟨v, e1, rv⟩ := rl.get e0
    obtain ⟨v', e1', rv'⟩ := rl'.get e0'
    refine ⟨⟨xs, ys, v, v', q, q', e1, e1'⟩, fun u H2 ⟨T, y, y', e2, hT, e3, z, z'⟩ => ?_⟩
    subst e2 e3
    have z := z xs q
    rw [e1] at z; cases z
    have z' := z' ys q'
    rw [e1'] at z'; cases z'
    exact aft_pair af.wd hT rv rv'
  stop := fun S' F' H' af gs => by
    obtain ⟨xs, q, rl⟩ := h S' F' H' af gs.1
    obtain ⟨ys, q', rl'⟩ := h' S' F' H' af gs.2
    exact ⟨xs, ys, q, q', by rw [rl.length, rl'.length]; exact zipD_length⟩
/-- lo, lo + 1, .. -/
def rngD (lo : Int) : Nat → List D
  | 0 => []
  | n + 1 => .int lo :: rngD (lo + 1) n
theorem rngD_get : ∀ {n : Nat} {lo : Int} {i : Nat} {x : D}, (rngD lo n)[i]? = some x → i < n ∧ x = .int (lo + i)
  | 0, _, _, _, h => by simp [rngD] at h
  | n + 1, lo, 0, x, h => by
    simp [rngD] at h
    exact ⟨Nat.succ_pos _, by subst h; simp⟩
  | n + 1, lo, i + 1, x, h => by
    have h' : (rngD (lo + 1) n)[i]? = some x := by simpa [rngD] using h
    obtain ⟨h1, h2⟩ := rngD_get h'
    refine ⟨Nat.succ_lt_succ h1, ?_⟩
    rw [h2]
    have z : lo + 1 + (i : Int) = lo + ((i + 1 : Nat) : Int) := by omega
    rw [z]
theorem rngD_length : ∀ {n : Nat} {lo : Int}, (rngD lo n).length = n
  | 0, _ => rfl
  | n + 1, lo => by show (rngD (lo + 1) n).length + 1 = _; rw [rngD_length]
theorem srv_r {lo : Int} {n : Nat} : Srv K (Itr lo n) S F H (fun _ => True) (rngD lo n) where
  go := fun i x S' F' H' e af _ => by
    obtain ⟨h1, rfl⟩ := rngD_get e
    exact ⟨h1, fun u H2 ⟨e2, y⟩ => by subst e2 y; exact ⟨Aft.refl af.wd, rfl⟩⟩
  stop := fun S' F' H' af _ => by rw [rngD_length]; exact Nat.le_refl _
end

section
variable {X : Cx} {e : Expr} {te : ET} {u : AT} {tg : Expr}
def iSeq (te : ET) : IT' := fun τ S Z => te τ S fun d S1 => seqG S1 Z d
theorem gi_seq (he : GE X e te) : GI X tg e (iSeq te) := by
  refine ⟨fun pins s σ H R I h => ?_⟩
  obtain ⟨τ, S, F, Z, w, r, q, l⟩ := h
  let Q : VK := fun v H1 => (∃ a xs, v = .ref a ∧ SqL X.K H1 a xs ∧ R (Itl X.K a) H1) ∨ (∃ a xs, v = .ref a ∧ SqT X.K H1 a xs ∧ R (Itt X.K a) H1)
  have hq : LE X.K te σ H Q := ⟨τ, S, F, _, w, r, q, fun d S1 v H1 q1 a1 r1 => by
    obtain ⟨a, ds, g, rfl, z, gs, c | c⟩ := seq_cases a1.wd r1 q1
    · obtain ⟨xs, hx, _⟩ := c S1 F H1 (Aft.refl a1.wd) gs
      exact .inl ⟨a, xs, rfl, hx, l _ _ _ _ _ z a1 (srv_l c)⟩
    · obtain ⟨xs, hx, _⟩ := c S1 F H1 (Aft.refl a1.wd) gs
      exact .inr ⟨a, xs, rfl, hx, l _ _ _ _ _ z a1 (srv_t c)⟩⟩
  refine thn (he.run pins s σ H Q I hq) fun v s1 ⟨x, H1, I1, r1, q1⟩ => ?_
  have fo : ∀ b ∈ [s1.heap.objs.size], FpOk X pins H1 b := fun b hb => by
    rw [List.mem_singleton.mp hb]; exact I1.fpOk (Nat.le_refl _) (I1.hok.fresh (Nat.le_refl _))
  rcases q1 with ⟨a, xs, rfl, hx, q⟩ | ⟨a, xs, rfl, hx, q⟩
  · cases r1
    obtain ⟨its, rv, p, hz⟩ := I1.list hx
    refine wpAny_pyIter_list p.isList ?_
    exact ⟨s1.heap.objs.size, [s1.heap.objs.size], _, _, H1, rfl, I1.kept (t' := s1.toks) fun b o e => Heap.get?_push_of_some _ e, turn_list a _, ⟨_, Heap.get?_push_size _ rfl, rfl, rfl⟩, fo, q⟩
  · cases r1
    obtain ⟨its, rv, p, hz⟩ := I1.tuple hx
    refine wpAny_pyIter_tuple (show s1.heap.IsTuple a its.toArray from p) ?_
    exact ⟨s1.heap.objs.size, [s1.heap.objs.size], _, _, H1, rfl, I1.kept (t' := s1.toks) fun b o e => Heap.get?_push_of_some _ e, turn_tuple a _, ⟨_, Heap.get?_push_size _ rfl, rfl, rfl⟩, fo, q⟩
theorem pi_weak {iter : Expr} {t t' : TI} (h : PI X tg iter t) (w : ∀ σ H R, t' σ H R → t σ H R) : PI X tg iter t' := ⟨fun pins s σ H R I q => h.run pins s σ H R I (w σ H R q)⟩
def iRange1 (u : AT) : IT' := fun τ S Z => u τ S fun ds S1 => match ds with
  | [.int j] => (-(2 ^ 62) ≤ j ∧ j < 2 ^ 62) ∧ Z (rngD 0 j.toNat) (fun _ => True) S1
  | _ => False
def iRange2 (u : AT) : IT' := fun τ S Z => u τ S fun ds S1 => match ds with
  | [.int i, .int j] => (-(2 ^ 62) ≤ i ∧ i < 2 ^ 62 ∧ -(2 ^ 62) ≤ j ∧ j < 2 ^ 62) ∧ Z (rngD i (j - i).toNat) (fun _ => True) S1
  | _ => False
theorem gi_range1 {a : Expr} {p pos : Pos} (hg : Gl X "range") (hm : X.mg "range" = none) (ha : GA X [a] u) (hs : starEach [a] X.env = [(false, eval a X.env)] := by rfl) : GI X tg (.Call (.Name "range" p) [a] [] pos) (iRange1 u) :=
  pi_weak (pi_range1 hg hm ha hs) fun σ H R ⟨τ, S, F, Z, w, r, q, l⟩ => ⟨τ, S, F, _, w, r, q, fun ds S1 vs H1 q1 a1 r1 => by
    split at q1
    · obtain ⟨y, _, rfl, e, rfl⟩ := r1
      cases e
      exact ⟨_, rfl, q1.1.1, q1.1.2, l _ _ _ _ _ q1.2 a1 srv_r⟩
    · exact q1.elim⟩
def iEnumG (u : AT) : IT' := fun τ S Z => u τ S fun ds S1 => match ds with
  | [d] => seqG S1 (fun ds g S => Z (enumD 0 ds) g S) d
  | _ => False
theorem gi_enum {e : Expr} {p pos tpos : Pos} {elts : List Expr} {kk : Nat} (hg : Gl X "enumerate") (hm : X.mg "enumerate" = none) (ha : GA X [e] u) (hs : starEach [e] X.env = [(false, eval e X.env)] := by rfl) :
    GI X (.Tuple elts kk tpos) (.Call (.Name "enumerate" p) [e] [] pos) (iEnumG u) :=
  pi_weak (pi_enumT hg hm ha hs) fun σ H R ⟨τ, S, F, Z, w, r, q, l⟩ => ⟨τ, S, F, _, w, r, q, fun ds S1 vs H1 q1 a1 r1 => by
    split at q1
    · obtain ⟨y, _, rfl, e, rfl⟩ := r1
      obtain ⟨a, ds, g, rfl, z, gs, c | c⟩ := seq_cases a1.wd e q1
      · obtain ⟨xs, hx, _⟩ := c S1 F H1 (Aft.refl a1.wd) gs
        exact ⟨a, xs, rfl, .inl ⟨hx, l _ _ _ _ _ z a1 (srv_el c)⟩⟩
      · obtain ⟨xs, hx, _⟩ := c S1 F H1 (Aft.refl a1.wd) gs
        exact ⟨a, xs, rfl, .inr ⟨hx, l _ _ _ _ _ z a1 (srv_et c)⟩⟩
    · exact q1.elim⟩
def isTupD : D → Bool
  | .tup _ => true
  | _ => false
/-- both lists, or both tuples -/
def iZipG (u : AT) : IT' := fun τ S Z => u τ S fun ds S1 => match ds with
  | [d, e] => isTupD d = isTupD e ∧ seqG S1 (fun ds g S => seqG S (fun es g' S => Z (zipD ds es) (fun S' => g S' ∧ g' S') S) e) d
  | _ => False
theorem seq_kind {K : PySem.W.Frag} {S F : Sto} {H : Hp} {d : D} {v : V} {Z : List D → (Sto → Prop) → Sto → Prop} (w : Wd K S F H) (r : Rp K (cmb S F) H d v) (h : seqG S Z d) :
    ∃ a ds g, v = .ref a ∧ Z ds g S ∧ g S ∧ ((isTupD d = false ∧ ListAt K S F H a ds g) ∨ (isTupD d = true ∧ TupAt K S F H a ds g)) := by
  unfold seqG at h
  split at h
  · rename_i ds
    obtain ⟨a, xs, rfl, hs, rl⟩ := r
    exact ⟨a, ds, _, rfl, h, trivial, .inr ⟨rfl, fun S' F' H' af _ => ⟨xs, SqT.ev w.ok af.ev hs, af.rpl w rl⟩⟩⟩
  · rename_i ds
    obtain ⟨a, xs, rfl, n, hs, rl⟩ := r
    exact ⟨a, ds, _, rfl, h, trivial, .inl ⟨rfl, fun S' F' H' af _ => ⟨xs, .of (af.ev _ _ hs n).1, af.rpl w rl⟩⟩⟩
  · rename_i ds
    obtain ⟨a, xs, rfl, hs, rl⟩ := r
    exact ⟨a, ds, _, rfl, h, trivial, .inl ⟨rfl, fun S' F' H' af _ => ⟨xs, hs.elim (fun hs => .inl (Rd.ev hs.1 af.ev hs.2).1) (fun hs => ScrAt.sq (T := S') (.inr hs)), af.rpl w rl⟩⟩⟩
  · rename_i p
    split at h
    · rename_i ds e
      refine ⟨p, ds, _, r, h, e, .inl ⟨rfl, fun S' F' H' af e' => ?_⟩⟩
      obtain ⟨xs, q, rl⟩ := af.wd.ok p _ (cmb_l e')
      exact ⟨xs, .of q, rl⟩
    · exact h.elim
  · exact h.elim
theorem gi_zip {a b : Expr} {p pos tpos : Pos} {elts : List Expr} {kk : Nat} (hg : Gl X "zip") (hm : X.mg "zip" = none) (ha : GA X [a, b] u)
    (hs : starEach [a, b] X.env = (false, eval a X.env) :: starEach [b] X.env := by rfl) (hpl : (backTo pos (starEach [b] X.env)).any (·.1) = false := by rfl) :
    GI X (.Tuple elts kk tpos) (.Call (.Name "zip" p) [a, b] [] pos) (iZipG u) :=
  pi_weak (RZ.pi_zipA hg hm ha hs hpl) fun σ H R ⟨τ, S, F, Z, w, r, q, l⟩ => ⟨τ, S, F, _, w, r, q, fun ds S1 vs H1 q1 a1 r1 => by
    split at q1
    · obtain ⟨y, _, rfl, e, y', _, rfl, e', rfl⟩ := r1
      obtain ⟨k, q1⟩ := q1
      obtain ⟨a, ds, g, rfl, z, gs, c⟩ := seq_kind a1.wd e q1
      obtain ⟨b, es, g', rfl, z', gs', c'⟩ := seq_kind a1.wd e' z
      refine ⟨a, b, ?_⟩
      rcases c with ⟨k1, c⟩ | ⟨k1, c⟩
      · rcases c' with ⟨k2, c'⟩ | ⟨k2, c'⟩
        · obtain ⟨xs, hx, _⟩ := c S1 F H1 (Aft.refl a1.wd) gs
          obtain ⟨ys, hy, _⟩ := c' S1 F H1 (Aft.refl a1.wd) gs'
          exact ⟨xs, ys, rfl, .inl ⟨hx, hy, l _ _ _ _ _ z' a1 (srv_zl c c')⟩⟩
        · rw [k1, k2] at k; cases k
      · rcases c' with ⟨k2, c'⟩ | ⟨k2, c'⟩
        · rw [k1, k2] at k; cases k
        · obtain ⟨xs, hx, _⟩ := c S1 F H1 (Aft.refl a1.wd) gs
          obtain ⟨ys, hy, _⟩ := c' S1 F H1 (Aft.refl a1.wd) gs'
          exact ⟨xs, ys, rfl, .inr ⟨hx, hy, l _ _ _ _ _ z' a1 (srv_zt c c')⟩⟩
    · exact q1.elim⟩
end

/-! ### comprehensions -/
def wipeD (τ : Tau) : List Nat → Tau
  | [] => τ
  | v :: vs => (wipeD τ vs).set v none
section
variable {K : PySem.W.Frag} {T : Sto} {H : Hp} {τ : Tau} {σ : L2.St}
theorem RpS.unset (r : RpS K T H τ σ) (i : Nat) : RpS K T H (τ.set i none) (σ.set i none) := by
  refine ⟨by rw [List.length_set, List.length_set]; exact r.len, fun j e q => ?_⟩
  by_cases z : i = j
  · subst z
    rw [List.getElem?_set_self'] at q
    cases z : τ[i]? with
    | none => rw [z] at q; cases q
    | some y => rw [z] at q; cases q
  · rw [List.getElem?_set_ne z] at q ⊢
    exact r.at' j e q
theorem RpS.wipe (r : RpS K T H τ σ) : ∀ vs, RpS K T H (wipeD τ vs) (L2.wipe σ vs)
  | [] => r
  | v :: vs => (RpS.wipe r vs).unset v
end
/-- a comprehension's target: it touches the comprehension's own names alone -/
def LGc (K : PySem.W.Frag) (vs : List Nat) (t : TG') : TG := fun v σ H Q => ∃ (d : D) (τ : Tau) (S F : Sto) (R : Tau → Sto → Prop), Wd K S F H ∧ RpS K (cmb S F) H τ σ ∧ Rp K (cmb S F) H d v ∧ t d τ S R ∧
  ∀ τ' S' σ' H', R τ' S' → Aft K S F H S' H' → RpS K (cmb S' F) H' τ' σ' → L2.wipe σ' vs = L2.wipe σ vs → Q σ' H'
def GGc (X : Cx) (vs : List Nat) (e : Expr) (t : TG') : Prop := PG X e (LGc X.K vs t)
def LGcs (K : PySem.W.Frag) (vs : List Nat) (t : TGs') : TGs := fun us σ H Q => ∃ (ds : List D) (τ : Tau) (S F : Sto) (R : Tau → Sto → Prop), Wd K S F H ∧ RpS K (cmb S F) H τ σ ∧ RpL K (cmb S F) H ds us ∧ t ds τ S R ∧
  ∀ τ' S' σ' H', R τ' S' → Aft K S F H S' H' → RpS K (cmb S' F) H' τ' σ' → L2.wipe σ' vs = L2.wipe σ vs → Q σ' H'
def GGcs (X : Cx) (vs : List Nat) (es : List Expr) (t : TGs') : Prop := PGs X es (LGcs X.K vs t)
theorem wipe_set {σ : L2.St} {x : V} : ∀ {vs : List Nat} {i : Nat}, i ∈ vs → L2.wipe (σ.set i (some x)) vs = L2.wipe σ vs
  | v :: vs, i, h => by
    show (L2.wipe (σ.set i (some x)) vs).set v none = (L2.wipe σ vs).set v none
    by_cases e : i ∈ vs
    · rw [wipe_set e]
    · have hv : i = v := by
        rcases List.mem_cons.mp h with h | h
        · exact h
        · exact absurd h e
      subst hv
      have aux : ∀ (ws : List Nat) (ρ : L2.St), (L2.wipe (ρ.set i (some x)) ws).set i none = (L2.wipe ρ ws).set i none := by
        intro ws
        induction ws with
        | nil => intro ρ; show (ρ.set i (some x)).set i none = ρ.set i none; rw [List.set_set]
        | cons w ws ih =>
          intro ρ
          show ((L2.wipe (ρ.set i (some x)) ws).set w none).set i none = ((L2.wipe ρ ws).set w none).set i none
          by_cases hw : w = i
          · subst hw; rw [List.set_set, List.set_set]; exact ih ρ
          · rw [List.set_comm _ _ hw, ih ρ, ← List.set_comm _ _ hw]
      exact aux vs σ
theorem wipe_wipe (σ : L2.St) : ∀ vs : List Nat, L2.wipe (L2.wipe σ vs) vs = L2.wipe σ vs := by
  have aux : ∀ (ws : List Nat) (ρ : L2.St) (i : Nat), L2.wipe (ρ.set i none) ws = (L2.wipe ρ ws).set i none := by
    intro ws
    induction ws with
    | nil => intro ρ i; rfl
    | cons w ws ih =>
      intro ρ i
      show (L2.wipe (ρ.set i none) ws).set w none = ((L2.wipe ρ ws).set w none).set i none
      rw [ih]
      by_cases h : w = i
      · subst h; rfl
      · rw [List.set_comm _ _ h]
  intro vs
  induction vs with
  | nil => rfl
  | cons v vs ih =>
    show (L2.wipe ((L2.wipe σ vs).set v none) vs).set v none = (L2.wipe σ vs).set v none
    rw [aux, ih, List.set_set]
section
variable {X : Cx} {vs : List Nat} {g : TG'} {gs : TGs'} {pos : Pos} {e : Expr}
theorem ggc_name (i : Nat) {x : Str} (hN : X.N.Nodup) (hv : i ∈ vs := by decide) (hi : X.N[i]? = some x := by rfl) (hx : Loc X.env.scope x := by first | exact Or.inl rfl | exact Or.inr rfl) (hf : X.fn x = true ∨ X.env.scope.names.lookup x = some .local := by first | exact .inl rfl | exact .inr rfl | assumption) : GGc X vs (.Name x pos) (gNm i) :=
  ⟨fun pins s σ H v u Q I r h => (pg_name hN hi hx hf).run pins s σ H v u Q I r (by
    obtain ⟨d, τ, S, F, R, w, rs, rd, q, l⟩ := h
    exact l _ _ _ _ q (Aft.refl w) (rs.set i rd) (wipe_set hv))⟩
theorem ggcs_nil : GGcs X vs [] gsNil := ⟨fun pins s σ H us us' Q I r h => (pgs_nil).run pins s σ H us us' Q I r (by
    obtain ⟨ds, τ, S, F, R, w, rs, rd, q, l⟩ := h
    cases ds with
    | nil => exact ⟨rd, l _ _ _ _ q (Aft.refl w) rs rfl⟩
    | cons _ _ => exact q.elim)⟩
theorem ggcs_cons {es : List Expr} (h1 : GGc X vs e g) (h2 : GGcs X vs es gs) (hs : (assignEach (e :: es) X.env).map (·.2) = assign e X.env :: (assignEach es X.env).map (·.2) := by rfl) : GGcs X vs (e :: es) (gsCons g gs) :=
  ⟨fun pins s σ H us us' Q I r h => (pgs_cons h1 h2 hs).run pins s σ H us us' Q I r (by
    obtain ⟨ds, τ, S, F, R, w, rs, rd, q, l⟩ := h
    cases ds with
    | nil => exact q.elim
    | cons d ds =>
      obtain ⟨v, vr, rfl, r1, r2⟩ := rd
      refine ⟨v, vr, rfl, d, τ, S, F, _, w, rs, r1, q, fun τ' S' σ' H' q' a' r' w' => ?_⟩
      exact ⟨ds, τ', S', F, R, a'.wd, r', a'.rpl w r2, q', fun τ2 S2 σ2 H2 q2 a2 r2 w2 => l _ _ _ _ q2 (a'.trans a2) r2 (w2.trans w')⟩)⟩
theorem ggc_tup {es : List Expr} {k : Nat} {n : Nat} (hc : X.calm = true) (h : GGcs X vs es gs) (hn : (assignEach es X.env).length = n := by rfl) (hst : (assignEach es X.env).findIdx? (·.1) = none := by rfl) : GGc X vs (.Tuple es k pos) (gTupl n gs) :=
  ⟨fun pins s σ H v u Q I r h' => (pg_tup hc h hn hst).run pins s σ H v u Q I r (by
    obtain ⟨d, τ, S, F, R, w, rs, rd, q, l⟩ := h'
    unfold gTupl at q
    split at q
    · rename_i ds
      obtain ⟨a, xs, rfl, hs, rl⟩ := rd
      exact ⟨a, xs, rfl, hs, rl.length.trans q.1, ds, τ, S, F, R, w, rs, rl, q.2, l⟩
    · exact q.elim)⟩
end
def GTs (X : Cx) (ifs : List Expr) (t : TT') : Prop := PTs X ifs (LT X.K t)
def tYes' : TT' := fun _ S Q => Q true S
section
variable {X : Cx} {e : Expr} {t : TT'}
theorem gts_nil : GTs X [] tYes' := ⟨fun pins s σ H Q I ⟨τ, S, F, R, w, r, q, l⟩ => (pts_nil).run pins s σ H Q I (l _ _ _ q (Aft.refl w))⟩
theorem gts_one (h : GT X e t) : GTs X [e] t := pts_one h
end
/-- the turns of a comprehension: the items, what is made so far -/
def cmpG (g : TG') (tt : TT') (te : ET) (gd : Sto → Prop) (vs : List Nat) (τ : Tau) (Z : List D → Sto → Prop) : List D → List D → Sto → Prop
  | [], acc => fun S => gd S ∧ Z acc S
  | x :: xs, acc => fun S => gd S ∧ g x (wipeD τ vs) S fun τ2 S2 => tt τ2 S2 fun b S3 => if b = true then te τ2 S3 fun y S4 => acc.length < sizeLine ∧ cmpG g tt te gd vs τ Z xs (acc ++ [y]) S4 else cmpG g tt te gd vs τ Z xs acc S3
/-- a list that is read -/
def eLc (ti : IT') (g : TG') (tt : TT') (te : ET) (vs : List Nat) : ET := fun τ S Q => ti τ S fun items gd S1 => cmpG g tt te gd vs τ (fun acc S2 => Q (.lst acc) S2) items [] S1
/-- a list that is to change -/
def eLcM (ti : IT') (g : TG') (tt : TT') (te : ET) (vs : List Nat) : ET := fun τ S Q => ti τ S fun items gd S1 => cmpG g tt te gd vs τ (fun acc S2 => ∀ p, S2 p = none → Q (.ref p) (up S2 p (.lst acc))) items [] S1
section
variable {K : PySem.W.Frag} {ti : IT'} {g : TG'} {tt : TT'} {te : ET} {vs : List Nat}
theorem lc_of {τ : Tau} {σ : L2.St} {S F : Sto} {H : Hp} {J : It} {items : List D} {gd : Sto → Prop} {Z : List D → Sto → Prop} {Q : VK} (w : Wd K S F H) (r : RpS K (cmb S F) H τ σ) (sv : Srv K J S F H gd items) (h : cmpG g tt te gd vs τ Z items [] S)
    (hZ : ∀ acc S' H' D, Z acc S' → H D = none → Wd K S' (up F D (.lst acc)) H' → Aft K S F H S' H' → Q (.ref D) H') :
    ∀ D, H D = none → ∃ W : Nat → Nat → Hp → Prop, (∃ m, W 0 m (upd H D (.lst []))) ∧ ∀ i m H', W i m H' →
      (J.stop i H' ∧ Q (.ref D) H') ∨ (J.go i H' ∧ ∃ Nx : Hp → Prop, (∀ H'', Nx H'' → ∃ m', m' < m ∧ W (i + 1) m' H'') ∧ ∀ x H'', J.yld i H' x H'' → LGc K vs g x (L2.wipe σ vs) H'' fun σ2 H2 => L2.wipe σ2 vs = L2.wipe σ vs ∧ LT K tt σ2 H2 fun b H3 =>
        if b = true then LE K te σ2 H3 fun y H4 => ∃ acc, H4 D = some (.lst acc) ∧ acc.length < sizeLine ∧ Nx (upd H4 D (.lst (acc ++ [y]))) else Nx H3) := by
  intro D hD
  have n := cmb_none (w.ok.fresh hD)
  -- what holds ahead of a turn: the made list lies beside
  have sub : ∀ {S' : Sto} {o : SO} {H' : Hp}, Wd K S' (up F D o) H' → Wd K S' F H' ∧ ∀ a, cmb S' (up F D o) a = none → cmb S' F a = none := fun {S' o H'} w' => by
    have g : ∀ a u, F a = some u → (up F D o) a = some u := fun a u e => by rw [up_ne (by rintro rfl; rw [n.2] at e; cases e)]; exact e
    refine ⟨w'.less (fun _ _ e => e) g, fun a e => ?_⟩
    obtain ⟨e1, e2⟩ := cmb_none e
    refine cmb_of_none e1 ?_
    cases z : F a with
    | none => rfl
    | some u => rw [g a u z] at e2; cases e2
  let Pv : Nat → Hp → Prop := fun i H' => ∃ acc S', AftF K S F H S' (up F D (.lst acc)) H' ∧ cmpG g tt te gd vs τ Z (items.drop i) acc S'
  have drop : ∀ {S' : Sto} {o : SO} {H' : Hp}, AftF K S F H S' (up F D o) H' → Aft K S F H S' H' := fun {S' o H'} a => ⟨(sub a.wd).1, fun b u e1 e2 => ⟨(a.ev b u e1 e2).1, (sub a.wd).2 _ (a.ev b u e1 e2).2⟩⟩
  have p0 : Pv 0 (upd H D (.lst [])) := by
    refine ⟨[], S, ⟨w.newF hD ⟨[], upd_same, rfl⟩, ?_⟩, by simpa using h⟩
    rw [cmb_upR n.1]
    exact ev_newS hD
  refine ⟨fun i m H' => m = items.length - i ∧ i ≤ items.length ∧ Pv i H', ⟨_, rfl, Nat.zero_le _, p0⟩, ?_⟩
  rintro i m H' ⟨rfl, hi, acc, S', a', q'⟩
  by_cases hlt : i < items.length
  · rw [List.drop_eq_getElem_cons hlt] at q'
    obtain ⟨gd', q'⟩ := q'
    obtain ⟨g1, g2⟩ := sv.go i _ S' _ H' (List.getElem?_eq_getElem hlt) a' gd'
    refine .inr ⟨g1, Pv (i + 1), fun H2 p2 => ⟨_, by omega, rfl, hlt, p2⟩, fun v H2 y => ?_⟩
    obtain ⟨a2, rv⟩ := g2 v H2 y
    refine ⟨items[i], wipeD τ vs, S', up F D (.lst acc), _, a2.wd, (((a'.trans a2).rps w r).wipe vs), rv, q', fun τ3 S3 σ3 H3 q3 a3 r3 w3 => ⟨w3.trans (wipe_wipe σ vs), ?_⟩⟩
    refine ⟨τ3, S3, _, _, a3.wd, r3, q3, fun b S4 H4 q4 a4 => ?_⟩
    cases b with
    | false => exact ⟨acc, S4, ((a'.trans a2).trans a3).trans a4, q4⟩
    | true =>
      refine ⟨τ3, S4, _, _, a4.wd, a4.rps a3.wd r3, q4, fun d S5 v5 H5 q5 a5 r5 => ?_⟩
      have n5 : S5 D = none := by
        rcases a5.wd.dj D with z | z
        · exact z
        · rw [up_same] at z; cases z
      obtain ⟨xs, e5, rl5⟩ := a5.wd.ok D (.lst acc) (by rw [cmb_r n5, up_same])
      refine ⟨xs, e5, by rw [rl5.length]; exact q5.1, acc ++ [d], S5, ?_, q5.2⟩
      have st : StO K (up (cmb S5 (up F D (.lst acc))) D (.lst (acc ++ [d]))) (upd H5 D (.lst (xs ++ [v5]))) D (.lst (acc ++ [d])) :=
        ⟨_, upd_same, RpL.ev a5.wd.ok (ev_set (by rw [cmb_r n5, up_same])) (RpL.app rl5 ⟨v5, [], rfl, r5, rfl⟩)⟩
      have wn := a5.wd.setF (p := D) up_same st
      rw [up_up] at wn
      refine ⟨wn, ?_⟩
      have ev5 := ((((a'.trans a2).trans a3).trans a4).trans a5).ev
      intro b u e1 e2
      have z := ev5 b u e1 e2
      have hb : b ≠ D := by rintro rfl; rw [hD] at e1; cases e1
      refine ⟨by rw [upd_ne hb]; exact z.1, ?_⟩
      obtain ⟨z1, z2⟩ := cmb_none z.2
      refine cmb_of_none z1 ?_
      rw [up_ne hb] at z2 ⊢
      exact z2
  · have e : i = items.length := by omega
    subst e
    rw [List.drop_length] at q'
    obtain ⟨gd', q'⟩ := q'
    exact .inl ⟨sv.stop S' _ H' a' gd', hZ acc S' H' D q' hD a'.wd (drop a')⟩
end
end Gx

/-! Gx, part 5: comprehensions as expressions; defs and their calls. -/
namespace Gx
open PySem PySem.Spec PyProof.Rows L2

section
variable {X : Cx} {ti : IT'} {g : TG'} {tt : TT'} {te : ET} {elt tg iter : Expr} {ifs : List Expr} {scope : Scope} {own : List (Str × Nat)} {pos spos py : Pos}
theorem lc_pure {σ : L2.St} {H : Hp} {Q : VK} (h : LE X.K (eLc ti g tt te (own.map (·.2))) σ H Q) : tLc (LI X.K ti) (LGc X.K (own.map (·.2)) g) (LT X.K tt) (LE X.K te) (own.map (·.2)) σ H Q := by
  obtain ⟨τ, S, F, R, w, r, q, l⟩ := h
  refine ⟨τ, S, F, _, w, r, q, fun items gd S1 J H1 q1 a1 sv => ?_⟩
  refine lc_of a1.wd (a1.rps w r) sv q1 fun acc S' H' D z hD wd a' => ?_
  have n := cmb_none (a1.wd.ok.fresh hD)
  have n5 : S' D = none := by
    rcases wd.dj D with z | z
    · exact z
    · rw [up_same] at z; cases z
  obtain ⟨xs, e5, rl5⟩ := wd.ok D (.lst acc) (by rw [cmb_r n5, up_same])
  refine l _ _ _ _ z (a1.trans a') ⟨D, xs, rfl, cmb_of_none n5 n.2, e5, RpL.sub (fun a e => ?_) rl5⟩
  obtain ⟨e1, e2⟩ := cmb_none e
  refine cmb_of_none e1 ?_
  by_cases hb : a = D
  · subst hb; exact n.2
  · rw [up_ne hb] at e2; exact e2
theorem lc_mut {σ : L2.St} {H : Hp} {Q : VK} (h : LE X.K (eLcM ti g tt te (own.map (·.2))) σ H Q) : tLc (LI X.K ti) (LGc X.K (own.map (·.2)) g) (LT X.K tt) (LE X.K te) (own.map (·.2)) σ H Q := by
  obtain ⟨τ, S, F, R, w, r, q, l⟩ := h
  refine ⟨τ, S, F, _, w, r, q, fun items gd S1 J H1 q1 a1 sv => ?_⟩
  refine lc_of a1.wd (a1.rps w r) sv q1 fun acc S' H' D z hD wd a' => ?_
  have n := cmb_none (a1.wd.ok.fresh hD)
  have n5 : S' D = none := by
    rcases wd.dj D with z | z
    · exact z
    · rw [up_same] at z; cases z
  have ec : cmb (up S' D (.lst acc)) F = cmb S' (up F D (.lst acc)) := by rw [cmb_up, cmb_upR n5]
  have wn : Wd X.K (up S' D (.lst acc)) F H' := by
    refine ⟨fun a => ?_, by rw [ec]; exact wd.ok⟩
    by_cases hb : a = D
    · subst hb; exact .inr n.2
    · rw [up_ne hb]
      rcases wd.dj a with z | z
      · exact .inl z
      · rw [up_ne hb] at z; exact .inr z
  refine l _ _ _ _ (z D n5) (a1.trans ⟨wn, fun b u e1 e2 => ?_⟩) rfl
  have hb : b ≠ D := by rintro rfl; rw [hD] at e1; cases e1
  refine ⟨(a'.ev b u e1 e2).1, ?_⟩
  rw [cmb_up, up_ne hb]
  exact (a'.ev b u e1 e2).2
theorem g_lc (hc : X.calm = true) (hN : X.N.Nodup) (hi : GI X tg iter ti) (ok : BlkOk X.N X.env.scope scope own)
    (hg : ∀ (s : Shared) (H : Hp) (C : Addr) (cl : List (Str × Addr)) (fp : List Addr), GGc (X.blk s H scope (compEnvC scope cl C X.env) fp) (own.map (·.2)) tg g) (ht : ∀ (s : Shared) (H : Hp) (C : Addr) (cl : List (Str × Addr)) (fp : List Addr), GTs (X.blk s H scope (compEnvC scope cl C X.env) fp) ifs tt)
    (he : ∀ (s : Shared) (H : Hp) (C : Addr) (cl : List (Str × Addr)) (fp : List Addr), GE (X.blk s H scope (compEnvC scope cl C X.env) fp) elt te) (hs : ∀ x, foldedSetIterable iter X.env x = pure x := by intro _; rfl) :
    GE X (.ListComp elt [⟨tg, iter, ifs, 0⟩] scope pos) (eLc ti g tt te (own.map (·.2))) := pe_weak (pe_lc (g := LGc X.K (own.map fun q : Str × Nat => q.2) g) (tt := LT X.K tt) (te := LE X.K te) hc hN hi ok hg ht he hs) fun σ H Q h => lc_pure h
theorem g_lcM (hc : X.calm = true) (hN : X.N.Nodup) (hi : GI X tg iter ti) (ok : BlkOk X.N X.env.scope scope own)
    (hg : ∀ (s : Shared) (H : Hp) (C : Addr) (cl : List (Str × Addr)) (fp : List Addr), GGc (X.blk s H scope (compEnvC scope cl C X.env) fp) (own.map (·.2)) tg g) (ht : ∀ (s : Shared) (H : Hp) (C : Addr) (cl : List (Str × Addr)) (fp : List Addr), GTs (X.blk s H scope (compEnvC scope cl C X.env) fp) ifs tt)
    (he : ∀ (s : Shared) (H : Hp) (C : Addr) (cl : List (Str × Addr)) (fp : List Addr), GE (X.blk s H scope (compEnvC scope cl C X.env) fp) elt te) (hs : ∀ x, foldedSetIterable iter X.env x = pure x := by intro _; rfl) :
    GE X (.ListComp elt [⟨tg, iter, ifs, 0⟩] scope pos) (eLcM ti g tt te (own.map (·.2))) := pe_weak (pe_lc (g := LGc X.K (own.map fun q : Str × Nat => q.2) g) (tt := LT X.K tt) (te := LE X.K te) hc hN hi ok hg ht he hs) fun σ H Q h => lc_mut h
theorem setLc_of {t : ET} {tl : TE} {i : Nat} (hl : ∀ {σ H Q}, LE X.K t σ H Q → tl σ H Q) {D : Ends} {σ : L2.St} {H : Hp} (h : LS X.K (sAsg t (gNm i)) D σ H) : tAsg tl (gName i) D σ H := by
  obtain ⟨τ, S, F, G, w, r, q, l⟩ := h
  exact hl ⟨τ, S, F, _, w, r, q, fun d S1 v H1 q1 a1 r1 => l.nx _ _ _ _ q1 a1 ((a1.rps w r).set i r1)⟩
theorem gs_setLc (i : Nat) {y : Str} (hc : X.calm = true) (hN : X.N.Nodup) (hsw : swapsWith (.ListComp elt [⟨tg, iter, ifs, 0⟩] scope pos) (some (.Name y py)) spos.line X.env = pure true) (hi : GI X tg iter ti) (ok : BlkOk X.N X.env.scope scope own)
    (hg : ∀ (s : Shared) (H : Hp) (C : Addr) (cl : List (Str × Addr)) (fp : List Addr), GGc (X.blk s H scope (compEnvC scope cl C X.env) fp) (own.map (·.2)) tg g) (ht : ∀ (s : Shared) (H : Hp) (C : Addr) (cl : List (Str × Addr)) (fp : List Addr), GTs (X.blk s H scope (compEnvC scope cl C X.env) fp) ifs tt)
    (he : ∀ (s : Shared) (H : Hp) (C : Addr) (cl : List (Str × Addr)) (fp : List Addr), GE (X.blk s H scope (compEnvC scope cl C X.env) fp) elt te) (hy : X.N[i]? = some y := by rfl) (hyl : X.env.scope.names.lookup y = some .local := by rfl) (hs : ∀ x, foldedSetIterable iter X.env x = pure x := by intro _; rfl) :
    GS X (.Assign [.Name y py] (.ListComp elt [⟨tg, iter, ifs, 0⟩] scope pos) spos) (sAsg (eLc ti g tt te (own.map (·.2))) (gNm i)) := ps_weak (ps_setLc (g := LGc X.K (own.map fun q : Str × Nat => q.2) g) (tt := LT X.K tt) (te := LE X.K te) hc hN hy hyl hsw hi ok hg ht he hs) fun D σ H h => setLc_of (fun h => lc_pure h) h
end

/-! ### defs -/
/-- what a def of the text promises over data: no error leaves it -/
structure GFn (P : Program) (w : World) (K : PySem.W.Frag) (mg : Str → Option Value) (base : Heap) (k : Nat) (f : Addr) (fd : FuncData) (ps : List Str) (γ : OL) : Prop where
  len : ∀ ds S R, γ ds S R → ds.length = ps.length
  run : ∀ (A : Around) (outer : List Env) (s : Shared) (H : Hp) (args : Args) (us : List Value) (vs : List V) (Q : VK), Room k A → A.guards = some [] → Env0 P w K mg base A outer s H → BindsTo s fd args (ps.zip us) → Vals vs us → LLO K γ vs H Q →
    codeAny (model P w) A (.call (.ref f) args) (CR CX0 outer P w H s Q E0) s
theorem GFn.mono {P : Program} {w : World} {K : PySem.W.Frag} {mg : Str → Option Value} {base : Heap} {j k : Nat} {f : Addr} {fd : FuncData} {ps : List Str} {γ : OL} (G : GFn P w K mg base j f fd ps γ) (h : j ≤ k) : GFn P w K mg base k f fd ps γ :=
  ⟨G.len, fun A outer s H args us vs Q hr => G.run A outer s H args us vs Q (hr.mono h)⟩
theorem llo_imp {K : PySem.W.Frag} {γ γ' : OL} (h : ∀ ds S R, γ' ds S R → γ ds S R) {vs : List V} {H : Hp} {Q : VK} (q : LLO K γ' vs H Q) : LLO K γ vs H Q :=
  let ⟨ds, S, F, R, w, r, q, l⟩ := q
  ⟨ds, S, F, R, w, r, h _ _ _ q, l⟩
theorem GFn.imp {P : Program} {w : World} {K : PySem.W.Frag} {mg : Str → Option Value} {base : Heap} {k : Nat} {f : Addr} {fd : FuncData} {ps : List Str} {γ γ' : OL} (G : GFn P w K mg base k f fd ps γ) (h : ∀ ds S R, γ' ds S R → γ ds S R) : GFn P w K mg base k f fd ps γ' :=
  ⟨fun ds S R q => G.len ds S R (h _ _ _ q), fun A outer s H args us vs Q hr hg e0 hb hv q => G.run A outer s H args us vs Q hr hg e0 hb hv (llo_imp h q)⟩

theorem guards_deeper {A : Around} {env : Env} (h : A.guards = some []) : (A.deeper env).guards = some [] := by
  first | exact h | (simp [Around.deeper, h])
/-- the data's slots at the entry -/
def startD (n : Nat) (ds : List D) : Tau := ds.map some ++ List.replicate (n - ds.length) none
theorem rps_start {K : PySem.W.Frag} {T : Sto} {H : Hp} {N : List Str} {ds : List D} {vs : List V} (r : RpL K T H ds vs) : RpS K T H (startD N.length ds) (L2.start N vs) := by
  have hl := r.length
  refine ⟨by unfold startD L2.start; simp [hl], fun i d e => ?_⟩
  unfold startD at e
  by_cases hi : i < ds.length
  · rw [List.getElem?_append_left (by simpa using hi), List.getElem?_map] at e
    cases z : ds[i]? with
    | none => rw [z] at e; cases e
    | some x =>
      rw [z] at e; cases e
      obtain ⟨v, hv, rv⟩ := r.get z
      refine ⟨v, ?_, rv⟩
      unfold L2.start
      rw [List.getElem?_append_left (by rw [List.length_map, hl]; exact hi), List.getElem?_map, hv]
      rfl
  · rw [List.getElem?_append_right (by simpa using hi), List.getElem?_replicate] at e
    split at e <;> cases e

mutual
/-- what is handed out: lists that change no more -/
inductive Fz (S S' : Sto) : D → D → Prop
  | same (d : D) : Fz S S' d d
  | ref {p : Addr} {es ds : List D} : S p = some (.lst es) → S' p = none → FzL S S' es ds → Fz S S' (.ref p) (.lst ds)
  | tup {es ds : List D} : FzL S S' es ds → Fz S S' (.tup es) (.tup ds)
  | lst {es ds : List D} : FzL S S' es ds → Fz S S' (.lst es) (.lst ds)
inductive FzL (S S' : Sto) : List D → List D → Prop
  | nil : FzL S S' [] []
  | cons {e d : D} {es ds : List D} : Fz S S' e d → FzL S S' es ds → FzL S S' (e :: es) (d :: ds)
end
theorem FzL.same {S S' : Sto} : ∀ ds : List D, FzL S S' ds ds
  | [] => .nil
  | d :: ds => .cons (.same d) (FzL.same ds)
mutual
theorem Fz.rp {K : PySem.W.Frag} {S S' F : Sto} {H : Hp} (w : Wd K S F H) (hs : ∀ a o, S' a = some o → S a = some o) : ∀ {e d : D} {v : V}, Fz S S' e d → Rp K (cmb S F) H e v → Rp K (cmb S' F) H d v
  | _, _, _, .same d, r => Rp.sub (fun a e => by
      obtain ⟨e1, e2⟩ := cmb_none e
      refine cmb_of_none ?_ e2
      cases z : S' a with
      | none => rfl
      | some o => rw [hs a o z] at e1; cases e1) r
  | _, _, _, .ref (p := p) h1 h2 h3, r => by
    cases r
    obtain ⟨xs, e, rl⟩ := w.ok p _ (cmb_l h1)
    have n : F p = none := by
      rcases w.dj p with z | z
      · rw [h1] at z; cases z
      · exact z
    exact ⟨p, xs, rfl, cmb_of_none h2 n, e, FzL.rp w hs h3 rl⟩
  | _, _, _, .tup h, r => by
    obtain ⟨a, xs, e, q, rl⟩ := r
    exact ⟨a, xs, e, q, FzL.rp w hs h rl⟩
  | _, _, _, .lst h, r => by
    obtain ⟨a, xs, e, n, q, rl⟩ := r
    refine ⟨a, xs, e, ?_, q, FzL.rp w hs h rl⟩
    obtain ⟨e1, e2⟩ := cmb_none n
    refine cmb_of_none ?_ e2
    cases z : S' a with
    | none => rfl
    | some o => rw [hs a o z] at e1; cases e1
theorem FzL.rp {K : PySem.W.Frag} {S S' F : Sto} {H : Hp} (w : Wd K S F H) (hs : ∀ a o, S' a = some o → S a = some o) : ∀ {e d : List D} {v : List V}, FzL S S' e d → RpL K (cmb S F) H e v → RpL K (cmb S' F) H d v
  | _, _, _, .nil, r => r
  | _, _, _, .cons h1 h2, r => by
    obtain ⟨x, xs, e, r1, r2⟩ := r
    exact ⟨x, xs, e, Fz.rp w hs h1 r1, FzL.rp w hs h2 r2⟩
end
/-- a def's end: what is of its own is forgotten, what it hands out changes no more -/
def Fin (R : QD) (d : D) (S : Sto) : Prop := ∃ S' d', (∀ a o, S' a = some o → S a = some o) ∧ Fz S S' d d' ∧ R d' S'
theorem Fin.plain {R : QD} {d : D} {S : Sto} (h : R d S) : Fin R d S := ⟨S, d, fun _ _ e => e, .same d, h⟩

section
variable {P : Program} {w : World} {K : PySem.W.Frag} {mg : Str → Option Value} {base : Heap}
/-- THE RULE for a def, over data -/
theorem gfn_of {x qual : Str} {st : Stmt} {f : Addr} {fd : FuncData} {N ps : List Str} {k : Nat} {γ : OL} (F : Fun K x qual st f fd) (Sc : FnScope N ps (defScope st)) (len : ∀ ds S R, γ ds S R → ds.length = ps.length)
    (hbody : ∀ (cdv : Value) (A : Around) (outer : List Env) (s : Shared) (H : Hp), Room k (A.deeper (envOfC qual (defScope st) s.heap.objs.size f cdv)) → (A.deeper (envOfC qual (defScope st) s.heap.objs.size f cdv)).guards = some [] →
      ∃ t, GSs (cxOf CX0 P w K mg base N qual (defScope st) f cdv A outer s H E0).nox (defBody st) t ∧ ∀ ds S R, γ ds S R → t { nx := fun _ S' => Fin R .non S', rt := Fin R } (startD N.length ds) S) : GFn P w K mg base (k + 1) f fd ps γ := by
  obtain ⟨oc, od, kV, doc, pm, an, cdv, ct, osl, rfl, lk, hcd⟩ := F.ex
  refine ⟨len, fun A outer s H args us vs Q hr hgd e0 hb r hsp => ?_⟩
  obtain ⟨ds, S, Fr, R, wd, rl, q, l⟩ := hsp
  have KX : K.In s.heap := e0.mod.kin.keeps fun b o e => (e0.bs b o e).1
  have lim : s.heap.NoLimit := e0.mod.nolimit.keeps fun b o e => (e0.bs b o e).1
  have hl : vs.length = ps.length := rl.length.trans (len ds S R q)
  have hk : ∀ y ∈ ps.zip us, (defScope st).names.lookup y.1 = some .local ∨ ((defScope st).names.lookup y.1 = some .cell ∧ ((cellsFrom (s.heap.objs.size + 1) (defScope st).names []).lookup y.1).isSome = true) := fun y hy =>
    (Sc.par y.1 (List.of_mem_zip hy).1).imp (fun z => z) fun z => ⟨z, PySem.W.cellsFrom_some _ _ _ (.inl z)⟩
  refine codeAny_call_function hr.depth (KX _ _ lk) rfl Sc.co Sc.gen rfl (PySem.W.codeRec_of KX hcd) (hb _ _ _ _ ?_)
  refine wpAny_newFunctionEnv_cells Sc.kind hk fun env he s1 x => ?_
  subst he
  refine ⟨lim.keeps x.toInCall.keep, codeAny_func ?_⟩
  obtain ⟨t, ht, hq⟩ := hbody cdv A outer s H (hr.deeper _) (guards_deeper hgd)
  have I := inv_start (CX := CX0) (E := E0) (cd := cdv) (qual := qual) (f := f) (mg := mg) Sc hr.hd e0 hl r x
  have fin : ∀ {d : D} {S' : Sto} {v : V} {H' : Hp}, Fin R d S' → Aft K S Fr H S' H' → Rp K (cmb S' Fr) H' d v → Q v H' := fun {d S' v H'} ⟨S2, d2, hs, fz, h⟩ a rv =>
    l d2 S2 v H' h ⟨a.wd.less hs fun _ _ e => e, a.ev.trans (ev_less hs fun _ _ e => e)⟩ (Fz.rp a.wd hs fz rv)
  have hD : LS K t { nx := fun _ H' => Q .non H', rt := Q } (L2.start N vs) H := ⟨_, S, Fr, _, wd, rps_start rl, hq ds S R q,
    ⟨fun τ' S' σ' H' z a _ => fin z a rfl, fun d S' v H' z a rv => fin z a rv, fun _ _ _ _ z => z.elim, fun _ _ _ _ z => z.elim⟩⟩
  refine wpAny_mono ((PSs.nox ht).run [] s1 (L2.start N vs) H _ I hD) (fun fl s' hs => ?_) fun e s' hs => hs
  cases fl with
  | ret u =>
    obtain ⟨v, σ', H', J, rv, z⟩ := hs
    exact ⟨v, H', J.os, J.bare, J.base, J.hok, rv, z⟩
  | next =>
    obtain ⟨σ', H', J, z⟩ := hs
    exact ⟨.non, H', J.os, J.bare, J.base, J.hok, rfl, z⟩
  | brk =>
    obtain ⟨_, _, _, z⟩ := hs
    exact z.elim
  | cont =>
    obtain ⟨_, _, _, z⟩ := hs
    exact z.elim
end

/-! ### calls -/
/-- the def that stands under a global name, and how it is called -/
structure Has (P : Program) (w : World) (K : PySem.W.Frag) (mg : Str → Option Value) (base : Heap) (k : Nat) (x : Str) (f : Addr) (fd : FuncData) (ps : List Str) (γ : OL) : Prop where
  fn : GFn P w K mg base k f fd ps γ
  mg : mg x = some (.ref f)
  kp : PySem.W.keepIn K (.ref f) = true
  bd : Binds K fd ps []
section
variable {X : Cx} {k j : Nat} {f : Addr} {fd : FuncData} {ps : List Str} {γ : OL} {x : Str} {p pos : Pos} {e : Expr} {es : List Expr} {u : AT}
theorem run_gfn {pins : List (Addr × Obj)} {σ : L2.St} {H : Hp} {s : Shared} {Q : VK} {us : List Value} {vs : List V} (G : GFn X.prog X.w X.K X.mg X.base k f fd ps γ) (hr : Room k X.A) (hg : X.A.guards = some []) (hb : Binds X.K fd ps [])
    (I : Inv X pins σ H s) (r : Vals vs us) (h : LLO X.K γ vs H Q) : wpAny (model X.prog X.w) X.A (call (.ref f) us) (EP X pins σ Q) X.xe s := by
  have hl : (us ++ []).length = ps.length := by
    obtain ⟨ds, S, F, R, w, rl, q, _⟩ := h
    rw [List.append_nil, ← r.length, rl.length]
    exact G.len _ _ _ q
  have hbd := hb s us I.kIn hl
  rw [List.append_nil] at hbd
  refine wpAny_call (codeAny_mono (G.run X.A X.stack s H ⟨us, []⟩ us vs Q hr hg I.env0 hbd r h) fun r s' hq => ?_)
  cases r with
  | error e => exact False.elim hq
  | ok fl =>
    cases fl with
    | ret u => exact I.after hq
    | next => exact False.elim hq
    | brk => exact False.elim hq
    | cont => exact False.elim hq
theorem gcall_of {σ : L2.St} {H : Hp} {Q : VK} (h : LE X.K (eCall γ u) σ H Q) : LA X.K u σ H fun vs H1 => LLO X.K γ vs H1 Q := by
  obtain ⟨τ, S, F, R, w, r, q, g⟩ := h
  exact ⟨τ, S, F, _, w, r, q, fun ds S1 vs H1 q1 a1 r1 => ⟨ds, S1, F, R, a1.wd, r1, q1, fun d S2 v H2 q2 a2 r2 => g _ _ _ _ q2 (a1.trans a2) r2⟩⟩
theorem g_call (h : Has X.prog X.w X.K X.mg X.base j x f fd ps γ) (hr : Room k X.A) (hg : X.A.guards = some []) (hjk : j ≤ k) (hgl : Gl X x) (ha : GA X (e :: es) u) (hdb : (x == ("__debug__" : Str)) = false := by decide)
    (he : starEach (e :: es) X.env = (false, eval e X.env) :: starEach es X.env := by rfl) (hpl : (backTo pos (starEach es X.env)).any (·.1) = false := by rfl) : GE X (.Call (.Name x p) (e :: es) [] pos) (eCall γ u) := by
  refine ⟨fun pins s σ H Q I q => ?_⟩
  refine wpAny_Call_Name_kw (ld_glob I hgl h.mg ?_ hdb)
  exact PySem.W.callWith_K (h₀ := X.base) I.ok.mod.kin h.kp (thn (ha.run pos pins s σ H _ I (gcall_of q)) fun us s1 ⟨vs, H1, I1, r, q⟩ => ⟨I1.kIn, run_gfn h.fn (hr.mono hjk) hg h.bd I1 r q⟩) he hpl
end
end Gx

/-! Gx, part 6: what operators and built-ins do to data. -/
namespace Gx
open PySem PySem.Spec PyProof.Rows L2

/-- a list that changes, as it stands -/
def rs (S : Sto) : D → D
  | .ref p => match S p with
    | some (.lst ds) => .lst ds
    | _ => .ref p
  | d => d
section
variable {K : PySem.W.Frag} {S F : Sto} {H : Hp}
theorem rs_lst {d : D} {v : V} {ds : List D} (w : Wd K S F H) (r : Rp K (cmb S F) H d v) (e : rs S d = .lst ds) : ∃ a xs, v = .ref a ∧ H a = some (.lst xs) ∧ RpL K (cmb S F) H ds xs := by
  cases d with
  | ref p =>
    simp only [rs] at e
    split at e
    · rename_i es h
      cases e
      obtain ⟨xs, q, rl⟩ := w.ok p _ (cmb_l h)
      exact ⟨p, xs, r, q, rl⟩
    · cases e
  | lst es =>
    cases e
    obtain ⟨a, xs, e, _, q, rl⟩ := r
    exact ⟨a, xs, e, q, rl⟩
  | _ => cases e
theorem rs_other {d e : D} (h : rs S d = e) (n : ∀ ds, e ≠ .lst ds) : d = e := by
  unfold rs at h
  split at h
  · split at h
    · exact absurd h.symm (n _)
    · exact h
  · exact h
theorem rs_non {S : Sto} : rs S .non = .non := rfl
theorem rs_bl {S : Sto} {b : Bool} : rs S (.bl b) = .bl b := rfl
theorem rs_int {S : Sto} {i : Int} : rs S (.int i) = .int i := rfl
theorem rs_str {S : Sto} {x : Str} : rs S (.str x) = .str x := rfl
theorem rs_tup {S : Sto} {ds : List D} : rs S (.tup ds) = .tup ds := rfl
theorem rs_lst' {S : Sto} {ds : List D} : rs S (.lst ds) = .lst ds := rfl
theorem rs_scr {S : Sto} {ds : List D} : rs S (.scr ds) = .scr ds := rfl
theorem rs_ref {S : Sto} {p : Addr} {ds : List D} (h : S p = some (.lst ds)) : rs S (.ref p) = .lst ds := by simp only [rs, h]
/-- the items of what may be read by places -/
def itemsOf : D → Option (List D)
  | .tup ds => some ds
  | .lst ds => some ds
  | .scr ds => some ds
  | _ => none
theorem seq_view {d : D} {v : V} {ds : List D} (w : Wd K S F H) (r : Rp K (cmb S F) H d v) (e : itemsOf (rs S d) = some ds) :
    ∃ a xs, v = .ref a ∧ (SqL K H a xs ∨ SqT K H a xs) ∧ RpL K (cmb S F) H ds xs := by
  cases z : rs S d with
  | lst es =>
    rw [z] at e; cases e
    obtain ⟨a, xs, e, q, rl⟩ := rs_lst w r z
    exact ⟨a, xs, e, .inl (.of q), rl⟩
  | tup es =>
    rw [z] at e; cases e
    have z := rs_other z (by intro ds; simp)
    subst z
    obtain ⟨a, xs, e, q, rl⟩ := r
    exact ⟨a, xs, e, .inr q, rl⟩
  | scr es =>
    rw [z] at e; cases e
    have z := rs_other z (by intro ds; simp)
    subst z
    obtain ⟨a, xs, e, q, rl⟩ := r
    exact ⟨a, xs, e, .inl q.sq, rl⟩
  | _ => rw [z] at e; cases e
end

section
variable {X : Cx} {f : Value → Value → Sem Value}
/-- an operator of two ints -/
def oI (C : Int → Int → Prop) (g : Int → Int → D) : O2 := fun d e S R => match d, e with
  | .int i, .int j => C i j ∧ R (g i j) S
  | _, _ => False
def oI0 (g : Int → Int → D) : O2 := fun d e S R => match d, e with
  | .int i, .int j => R (g i j) S
  | _, _ => False
theorem g2_I {C C' : Int → Int → Prop} {g : Int → Int → Int} {g' : Int → Int → Int} (h : OpR X f (rI C fun i j => .int (g i j))) (hc : ∀ i j, C' i j → C i j) (hg : ∀ i j, C' i j → g i j = g' i j) : G2 X f (oI C' fun i j => .int (g' i j)) :=
  op_weak h fun x y H Q ⟨d, e, S, F, R, w, r1, r2, q, l⟩ => by
    unfold oI at q
    split at q
    · cases r1; cases r2
      exact ⟨_, _, rfl, rfl, hc _ _ q.1, by show Q (V.int (g _ _)) H; rw [hg _ _ q.1]; exact l _ _ _ _ q.2 (Aft.refl w) rfl⟩
    · exact q.elim
theorem g2_I0 {g : Int → Int → Int} (h : OpR X f (rI0 fun i j => .int (g i j))) : G2 X f (oI0 fun i j => .int (g i j)) :=
  op_weak h fun x y H Q ⟨d, e, S, F, R, w, r1, r2, q, l⟩ => by
    unfold oI0 at q
    split at q
    · cases r1; cases r2
      exact ⟨_, _, rfl, rfl, l _ _ _ _ q (Aft.refl w) rfl⟩
    · exact q.elim
theorem g2_B0 {g : Int → Int → Bool} (h : OpR X f (rI0 fun i j => .bl (g i j))) : G2 X f (oI0 fun i j => .bl (g i j)) :=
  op_weak h fun x y H Q ⟨d, e, S, F, R, w, r1, r2, q, l⟩ => by
    unfold oI0 at q
    split at q
    · cases r1; cases r2
      exact ⟨_, _, rfl, rfl, l _ _ _ _ q (Aft.refl w) rfl⟩
    · exact q.elim
def MulOk (i j : Int) : Prop := IntMulOk i j
theorem MulOk.of {i j : Int} {a b : Nat} (ha : i.natAbs < 2 ^ a) (hb : j.natAbs < 2 ^ b) (h : a + b ≤ 1000000 := by decide) : MulOk i j := by
  by_cases h0 : a = 0
  · subst h0
    have : i = 0 := by omega
    subst this
    exact .of_left (by decide)
  · by_cases h1 : b = 0
    · subst h1
      have : j = 0 := by omega
      subst this
      exact .of_right (by decide)
    · exact (wide_mul ha hb (by omega) (by omega) h).ok
theorem MulOk.left {i j : Int} (h1 : -(2 ^ 64) < i) (h2 : i < 2 ^ 64) : MulOk i j := .of_left (intBits_le_64 h1 h2)
theorem MulOk.right {i j : Int} (h1 : -(2 ^ 64) < j) (h2 : j < 2 ^ 64) : MulOk i j := .of_right (intBits_le_64 h1 h2)
theorem op_mulG : OpR X (binaryOp .Mult) (rI MulOk fun i j => .int (i * j)) := opI fun _ _ _ _ _ _ _ hc q => mul_int q hc
def DivOk (j : Int) : Prop := j ≠ 0 ∧ j.natAbs.log2 < 9000
theorem DivOk.of {j : Int} {b : Nat} (h : j ≠ 0) (hb : j.natAbs < 2 ^ b) (hb9 : b ≤ 9000 := by decide) : DivOk j := by
  refine ⟨h, ?_⟩
  by_cases h0 : b = 0
  · subst h0; omega
  · exact Nat.lt_of_lt_of_le (PySem.Flt.log2_lt_of (by omega) hb) hb9
theorem op_fdivG : OpR X (binaryOp .FloorDiv) (rI (fun _ j => DivOk j) fun i j => .int (i.fdiv j)) := opI fun _ _ _ _ _ _ _ hc q => floordiv_int hc.1 q (.inl (PyProof.noPylong_of_log2 hc.2))
def oSub : O2 := oI0 fun i j => .int (i - j)
def oFdiv : O2 := oI (fun _ j => DivOk j) fun i j => .int (i.fdiv j)
def oMod : O2 := oI (fun _ j => j ≠ 0) fun i j => .int (i.fmod j)
def PowOk (i j : Int) : Prop := 0 ≤ j ∧ (Builtin.Int.intBits i : Int) * j ≤ 2 ^ 27
theorem PowOk.of {i j : Int} (b : Nat) (h0 : 0 ≤ j := by decide) (hb : i.natAbs < 2 ^ b) (h : (b : Int) * j ≤ 2 ^ 27 := by decide) : PowOk i j := by
  refine ⟨h0, Int.le_trans (Int.mul_le_mul_of_nonneg_right ?_ h0) h⟩
  have : Builtin.Int.intBits i ≤ b := intBits_le hb
  omega
theorem op_powG : OpR X (binaryOp .Pow) (rI PowOk fun i j => .int (i ^ j.toNat)) := opI fun _ _ _ _ _ _ _ hc q => pow_int hc.1 hc.2 q
def oPow : O2 := oI PowOk fun i j => .int (i ^ j.toNat)
def oShl : O2 := oI CPow fun i j => .int (i * 2 ^ j.toNat)
def oShr : O2 := oI (fun _ j => 0 ≤ j) fun i j => .int (i / 2 ^ j.toNat)
def oAnd : O2 := oI0 fun i j => .int (Builtin.bitAnd i j)
def oOr : O2 := oI0 fun i j => .int (Builtin.bitOr i j)
def oXor : O2 := oI0 fun i j => .int (Builtin.bitXor i j)
theorem o_sub : G2 X (binaryOp .Sub) oSub := g2_I0 op_sub
theorem o_fdiv : G2 X (binaryOp .FloorDiv) oFdiv := g2_I op_fdivG (fun _ _ h => h) fun _ _ _ => rfl
theorem o_mod : G2 X (binaryOp .Mod) oMod := g2_I op_modN (fun _ _ h => h) fun _ _ _ => rfl
theorem o_pow : G2 X (binaryOp .Pow) oPow := g2_I op_powG (fun _ _ h => h) fun _ _ _ => rfl
theorem o_shl : G2 X (binaryOp .LShift) oShl := g2_I op_shl (fun _ _ h => h) fun _ _ _ => rfl
theorem o_shr : G2 X (binaryOp .RShift) oShr := g2_I op_shr (fun _ _ h => h) fun _ _ _ => rfl
theorem o_and : G2 X (binaryOp .BitAnd) oAnd := g2_I0 op_and
def oLt : O2 := oI0 fun i j => .bl (decide (i < j))
def oLe : O2 := oI0 fun i j => .bl (decide (i ≤ j))
def oGt : O2 := oI0 fun i j => .bl (decide (j < i))
def oGe : O2 := oI0 fun i j => .bl (decide (j ≤ i))
theorem o_lt : G2 X (compareOp .Lt) oLt := g2_B0 op_lt
theorem o_le : G2 X (compareOp .LtE) oLe := g2_B0 op_le
theorem o_gt : G2 X (compareOp .Gt) oGt := g2_B0 op_gt
theorem o_ge : G2 X (compareOp .GtE) oGe := g2_B0 op_ge
def oNeg : O1 := fun d S R => match d with
  | .int i => R (.int (-i)) S
  | _ => False
theorem o_neg : G1 X (unaryOp .USub) oNeg := fun pins s σ H x v Q I rx ⟨d, S, F, R, w, r1, q, l⟩ => un_neg pins s σ H x v Q I rx (by
    unfold oNeg at q
    split at q
    · cases r1
      exact ⟨_, rfl, l _ _ _ _ q (Aft.refl w) rfl⟩
    · exact q.elim)
/-- is None, is not None -/
def isNon : D → Bool
  | .non => true
  | _ => false
def oIsN : O2 := fun d e S R => match e with
  | .non => R (.bl (isNon d)) S
  | _ => False
def oNotN : O2 := fun d e S R => match e with
  | .non => R (.bl (!isNon d)) S
  | _ => False
/-! ### plus, times -/
def oAdd' (S : Sto) (R : QD) : D → D → Prop
  | .int i, .int j => R (.int (i + j)) S
  | .str x, .str y => x.length + y.length ≤ sizeLine ∧ R (.str (x ++ y)) S
  | .tup xs, .tup ys => xs.length + ys.length ≤ sizeLine ∧ R (.tup (xs ++ ys)) S
  | .lst xs, .lst ys => xs.length + ys.length ≤ sizeLine ∧ R (.lst (xs ++ ys)) S
  | _, _ => False
def oAdd : O2 := fun d e S R => oAdd' S R (rs S d) (rs S e)
theorem o_add : G2 X (binaryOp .Add) oAdd := fun pins s σ H x y v u Q I rx ry ⟨d, e, S, F, R, w, r1, r2, q, l⟩ => by
  unfold oAdd at q
  generalize z1 : rs S d = d' at q
  generalize z2 : rs S e = e' at q
  unfold oAdd' at q
  split at q
  · have z1 := rs_other z1 (by intro ds; simp)
    have z2 := rs_other z2 (by intro ds; simp)
    subst z1 z2
    cases r1; cases r2
    exact op_add pins s σ H _ _ v u Q I rx ry ⟨_, _, rfl, rfl, l _ _ _ _ q (Aft.refl w) rfl⟩
  · have z1 := rs_other z1 (by intro ds; simp)
    have z2 := rs_other z2 (by intro ds; simp)
    subst z1 z2
    cases r1; cases r2
    exact op_add_str pins s σ H _ _ v u Q I rx ry ⟨_, _, rfl, rfl, q.1, l _ _ _ _ q.2 (Aft.refl w) rfl⟩
  · have z1 := rs_other z1 (by intro ds; simp)
    have z2 := rs_other z2 (by intro ds; simp)
    subst z1 z2
    obtain ⟨a, xs, rfl, h1, l1⟩ := r1
    obtain ⟨b, ys, rfl, h2, l2⟩ := r2
    refine op_catA pins s σ H _ _ v u Q I rx ry ⟨a, b, xs, ys, rfl, rfl, h1, h2, by rw [l1.length, l2.length]; exact q.1, fun e => ?_, fun e e' => ?_, fun _ _ p hp => ?_⟩
    · subst e
      have : _ = [] := List.eq_nil_of_length_eq_zero (by rw [← l1.length]; rfl)
      subst this
      exact l _ _ _ _ q.2 (Aft.refl w) ⟨b, ys, rfl, h2, l2⟩
    · subst e'
      have : _ = [] := List.eq_nil_of_length_eq_zero (by rw [← l2.length]; rfl)
      subst this
      exact l _ _ _ _ q.2 (Aft.refl w) ⟨a, xs, rfl, h1, by rw [List.append_nil]; exact l1⟩
    · exact l _ _ _ _ q.2 (Aft.new w hp) (rp_newT w hp (l1.app l2))
  · obtain ⟨a, xs, rfl, h1, l1⟩ := rs_lst w r1 z1
    obtain ⟨b, ys, rfl, h2, l2⟩ := rs_lst w r2 z2
    refine op_cat pins s σ H _ _ v u Q I rx ry ⟨a, b, xs, ys, rfl, rfl, h1, h2, by rw [l1.length, l2.length]; exact q.1, fun p hp => ?_⟩
    exact l _ _ _ _ q.2 (Aft.new w hp) (rp_newL w hp (l1.app l2))
  · exact q.elim
theorem RpL.rep {K : PySem.W.Frag} {T : Sto} {H : Hp} {ds : List D} {xs : List V} (r : RpL K T H ds xs) : ∀ k : Nat, RpL K T H (List.replicate k ds).flatten (List.replicate k xs).flatten
  | 0 => rfl
  | k + 1 => by
    rw [List.replicate_succ, List.replicate_succ, List.flatten_cons, List.flatten_cons]
    exact r.app (RpL.rep r k)
def oMul' (S : Sto) (R : QD) : D → D → Prop
  | .int i, .int j => MulOk i j ∧ R (.int (i * j)) S
  | .lst xs, .int k => (-(2 ^ 63) ≤ k ∧ k < 2 ^ 63 ∧ xs.length * k.toNat ≤ sizeLine) ∧ R (.lst (List.replicate k.toNat xs).flatten) S
  | _, _ => False
def oMul : O2 := fun d e S R => oMul' S R (rs S d) e
theorem o_mul : G2 X (binaryOp .Mult) oMul := fun pins s σ H x y v u Q I rx ry ⟨d, e, S, F, R, w, r1, r2, q, l⟩ => by
  unfold oMul at q
  generalize z1 : rs S d = d' at q
  unfold oMul' at q
  split at q
  · have z1 := rs_other z1 (by intro ds; simp)
    subst z1
    cases r1; cases r2
    exact op_mulG pins s σ H _ _ v u Q I rx ry ⟨_, _, rfl, rfl, q.1, l _ _ _ _ q.2 (Aft.refl w) rfl⟩
  · obtain ⟨a, xs, rfl, h1, l1⟩ := rs_lst w r1 z1
    cases r2
    refine op_rep pins s σ H _ _ v u Q I rx ry ⟨a, _, xs, rfl, rfl, h1, q.1.1, q.1.2.1, by rw [l1.length]; exact q.1.2.2, fun p hp => ?_⟩
    exact l _ _ _ _ q.2 (Aft.new w hp) (rp_newL w hp (l1.rep _))
  · exact q.elim
/-- [..] * k, a list that is to change -/
def oMulM : O2 := fun d e S R => match rs S d, e with
  | .lst xs, .int k => (-(2 ^ 63) ≤ k ∧ k < 2 ^ 63 ∧ xs.length * k.toNat ≤ sizeLine) ∧ ∀ p, S p = none → R (.ref p) (up S p (.lst (List.replicate k.toNat xs).flatten))
  | _, _ => False
theorem o_mulM : G2 X (binaryOp .Mult) oMulM := fun pins s σ H x y v u Q I rx ry ⟨d, e, S, F, R, w, r1, r2, q, l⟩ => by
  unfold oMulM at q
  generalize z1 : rs S d = d' at q
  split at q
  · obtain ⟨a, xs, rfl, h1, l1⟩ := rs_lst w r1 z1
    cases r2
    refine op_rep pins s σ H _ _ v u Q I rx ry ⟨a, _, xs, rfl, rfl, h1, q.1.1, q.1.2.1, by rw [l1.length]; exact q.1.2.2, fun p hp => ?_⟩
    have n := cmb_none (w.ok.fresh hp)
    exact l _ _ _ _ (q.2 p n.1) (Aft.newS w hp (sto_newL w hp (l1.rep _))) rfl
  · exact q.elim

/-! ### == and != -/
mutual
def pyD : D → PyData
  | .non => .none
  | .bl b => .bool b
  | .int i => .int i
  | .str x => .str x
  | .tup ds => .tuple (pyDL ds)
  | .lst ds => .list (pyDL ds)
  | .scr ds => .list (pyDL ds)
  | .ref _ => .none
  | .ty _ => .none
  | .rng _ _ => .none
  | .fn _ _ _ _ _ _ => .none
  | .exd _ _ _ _ _ => .none
def pyDL : List D → List PyData
  | [] => []
  | d :: ds => pyD d :: pyDL ds
end
/-- data, at most so deep -/
def pl : Nat → D → Bool
  | _, .non => true
  | _, .bl _ => true
  | _, .int _ => true
  | _, .str x => PyData.strOk x
  | n + 1, .tup ds => ds.all (pl n)
  | n + 1, .lst ds => ds.all (pl n)
  | n + 1, .scr ds => ds.all (pl n)
  | _, _ => false
def eqD (d e : D) : Bool := PyData.eqv (pyD d) (pyD e)
mutual
theorem pl_shape : ∀ (d : D) (n : Nat), pl n d = true → (pyD d).canLay0 = true ∧ (pyD d).depth ≤ n
  | .non, n, _ => ⟨rfl, Nat.zero_le _⟩
  | .bl _, n, _ => ⟨rfl, Nat.zero_le _⟩
  | .int _, n, _ => ⟨rfl, Nat.zero_le _⟩
  | .str x, n, h => ⟨by cases n <;> exact h, Nat.zero_le _⟩
  | .tup ds, 0, h => nomatch h
  | .lst ds, 0, h => nomatch h
  | .scr ds, 0, h => nomatch h
  | .ref _, 0, h => nomatch h
  | .ty _, 0, h => nomatch h
  | .rng _ _, 0, h => nomatch h
  | .fn _ _ _ _ _ _, 0, h => nomatch h
  | .exd _ _ _ _ _, 0, h => nomatch h
  | .ref _, _ + 1, h => nomatch h
  | .ty _, _ + 1, h => nomatch h
  | .rng _ _, _ + 1, h => nomatch h
  | .fn _ _ _ _ _ _, _ + 1, h => nomatch h
  | .exd _ _ _ _ _, _ + 1, h => nomatch h
  | .tup ds, n + 1, h => by
    have z := pl_shapeL ds n h
    exact ⟨z.1, Nat.succ_le_succ z.2⟩
  | .lst ds, n + 1, h => by
    have z := pl_shapeL ds n h
    exact ⟨z.1, Nat.succ_le_succ z.2⟩
  | .scr ds, n + 1, h => by
    have z := pl_shapeL ds n h
    exact ⟨z.1, Nat.succ_le_succ z.2⟩
theorem pl_shapeL : ∀ (ds : List D) (n : Nat), ds.all (pl n) = true → PyData.canLayAll0 (pyDL ds) = true ∧ PyData.depthAll (pyDL ds) ≤ n
  | [], n, _ => ⟨rfl, Nat.zero_le _⟩
  | d :: ds, n, h => by
    rw [List.all_cons, Bool.and_eq_true] at h
    have a := pl_shape d n h.1
    have b := pl_shapeL ds n h.2
    refine ⟨?_, ?_⟩
    · show ((pyD d).canLay0 && PyData.canLayAll0 (pyDL ds)) = true
      rw [a.1, b.1]; rfl
    · show max (pyD d).depth (PyData.depthAll (pyDL ds)) ≤ n
      exact Nat.max_le.mpr ⟨a.2, b.2⟩
end
theorem pl_shaped {d : D} {n : Nat} (h : pl n d = true) (hn : n ≤ 64 := by decide) : SeqAt.shaped (pyD d) = true := by
  have z := pl_shape d n h
  unfold SeqAt.shaped
  rw [z.1, decide_eq_true (Nat.le_trans z.2 hn)]
  rfl
section
variable {K : PySem.W.Frag} {T : Sto} {H : Hp}
mutual
theorem dp_of : ∀ (d : D) (n : Nat) (v : V), pl n d = true → Rp K T H d v → Dp K H v (pyD d)
  | .non, n, v, _, r => by cases r; exact .non
  | .bl b, n, v, _, r => by cases r; exact .bl b
  | .int i, n, v, _, r => by cases r; exact .int i
  | .str x, n, v, _, r => by cases r; exact .str x
  | .tup ds, 0, _, h, _ => nomatch h
  | .lst ds, 0, _, h, _ => nomatch h
  | .scr ds, 0, _, h, _ => nomatch h
  | .ref _, 0, _, h, _ => nomatch h
  | .ty _, 0, _, h, _ => nomatch h
  | .rng _ _, 0, _, h, _ => nomatch h
  | .fn _ _ _ _ _ _, 0, _, h, _ => nomatch h
  | .exd _ _ _ _ _, 0, _, h, _ => nomatch h
  | .ref _, _ + 1, _, h, _ => nomatch h
  | .ty _, _ + 1, _, h, _ => nomatch h
  | .rng _ _, _ + 1, _, h, _ => nomatch h
  | .fn _ _ _ _ _ _, _ + 1, _, h, _ => nomatch h
  | .exd _ _ _ _ _, _ + 1, _, h, _ => nomatch h
  | .tup ds, n + 1, v, h, r => by
    obtain ⟨a, xs, rfl, q, rl⟩ := r
    exact .tup q (dpL_of ds n xs h rl)
  | .lst ds, n + 1, v, h, r => by
    obtain ⟨a, xs, rfl, _, q, rl⟩ := r
    exact .lst (.of q) (dpL_of ds n xs h rl)
  | .scr ds, n + 1, v, h, r => by
    obtain ⟨a, xs, rfl, q, rl⟩ := r
    exact .lst q.sq (dpL_of ds n xs h rl)
theorem dpL_of : ∀ (ds : List D) (n : Nat) (vs : List V), ds.all (pl n) = true → RpL K T H ds vs → DpAll K H vs (pyDL ds)
  | [], n, vs, _, r => by rw [show vs = [] from r]; exact .nil
  | d :: ds, n, vs, h, r => by
    obtain ⟨x, xs, rfl, r1, r2⟩ := r
    rw [List.all_cons, Bool.and_eq_true] at h
    exact .cons (dp_of d n x h.1 r1) (dpL_of ds n xs h.2 r2)
end
end
/-- a list that changes may stand on top -/
theorem dp_rs {K : PySem.W.Frag} {S F : Sto} {H : Hp} {d : D} {v : V} {n : Nat} (w : Wd K S F H) (r : Rp K (cmb S F) H d v) (h : pl n (rs S d) = true) : Dp K H v (pyD (rs S d)) := by
  cases z : rs S d with
  | lst es =>
    rw [z] at h
    obtain ⟨a, xs, rfl, q, rl⟩ := rs_lst w r z
    cases n with
    | zero => cases h
    | succ n => exact .lst (.of q) (dpL_of es n xs h rl)
  | _ =>
    have z' := rs_other z (by intro ds; simp)
    subst z'
    rw [z] at h
    exact dp_of _ n _ h r
def oEq : O2 := fun d e S R => (pl 60 (rs S d) = true ∧ pl 60 (rs S e) = true) ∧ R (.bl (eqD (rs S d) (rs S e))) S
def oNe : O2 := fun d e S R => (pl 60 (rs S d) = true ∧ pl 60 (rs S e) = true) ∧ R (.bl (!eqD (rs S d) (rs S e))) S
theorem o_eq (hu : X.A.units + 64 < cLine) : G2 X (compareOp .Eq) oEq := op_weak (op_eqD hu) fun x y H Q ⟨d, e, S, F, R, w, r1, r2, q, l⟩ =>
  ⟨_, _, dp_rs w r1 q.1.1, dp_rs w r2 q.1.2, pl_shaped q.1.1, pl_shaped q.1.2, l _ _ _ _ q.2 (Aft.refl w) rfl⟩
theorem o_ne (hu : X.A.units + 64 < cLine) : G2 X (compareOp .NotEq) oNe := op_weak (op_neD hu) fun x y H Q ⟨d, e, S, F, R, w, r1, r2, q, l⟩ =>
  ⟨_, _, dp_rs w r1 q.1.1, dp_rs w r2 q.1.2, pl_shaped q.1.1, pl_shaped q.1.2, l _ _ _ _ q.2 (Aft.refl w) rfl⟩
/-- strs of any signs -/
def oEqS : O2 := fun d e S R => match d, e with
  | .str x, .str y => R (.bl (decide (x = y))) S
  | _, _ => False
def oNeS : O2 := fun d e S R => match d, e with
  | .str x, .str y => R (.bl (!decide (x = y))) S
  | _, _ => False
theorem dec_strV {x y : Str} : decide (V.str x = V.str y) = decide (x = y) := by
  by_cases h : x = y
  · subst h; simp
  · simp [h]
theorem o_eqS : G2 X (compareOp .Eq) oEqS := op_weak op_eq fun x y H Q ⟨d, e, S, F, R, w, r1, r2, q, l⟩ => by
  unfold oEqS at q
  split at q
  · cases r1; cases r2
    exact ⟨rfl, by rw [dec_strV]; exact l _ _ _ _ q (Aft.refl w) rfl⟩
  · exact q.elim
theorem o_neS : G2 X (compareOp .NotEq) oNeS := op_weak op_ne fun x y H Q ⟨d, e, S, F, R, w, r1, r2, q, l⟩ => by
  unfold oNeS at q
  split at q
  · cases r1; cases r2
    exact ⟨rfl, by rw [dec_strV]; exact l _ _ _ _ q (Aft.refl w) rfl⟩
  · exact q.elim
end
end Gx

/-! Gx, part 7: places, slices, methods, built-in functions. -/
namespace Gx
open PySem PySem.Spec PyProof.Rows L2

section
variable {K : PySem.W.Frag} {S F : Sto} {H : Hp} {T : Sto}
theorem RpL.atI {ds : List D} {xs : List V} {i : Int} {d : D} (r : RpL K T H ds xs) (h : L2.atI ds i = some d) : ∃ v, L2.atI xs i = some v ∧ Rp K T H d v := by
  unfold L2.atI at h ⊢
  rw [r.length]
  cases z : ixN ds.length i with
  | none => rw [z] at h; cases h
  | some j =>
    rw [z] at h
    obtain ⟨v, h1, h2⟩ := r.get (show ds[j]? = some d from h)
    exact ⟨v, h1, h2⟩
def cutD (ds : List D) (lo hi : Option Int) : List D := (ds.drop (HT.sIx ds.length 0 lo)).take (HT.sIx ds.length ds.length hi - HT.sIx ds.length 0 lo)
theorem RpL.cut {ds : List D} {xs : List V} {lo hi : Option Int} (r : RpL K T H ds xs) : RpL K T H (cutD ds lo hi) (cutV xs lo hi) := by
  unfold cutD cutV
  rw [r.length]
  exact (r.drop _).take _
end

section
variable {X : Cx} {e a b : Expr} {t ta tb : ET} {pos : Pos}
/-! ### a[i] -/
def GIx (X : Cx) (r : O2) : Prop := IxR X (L2O X.K r)
theorem g_ix {r : O2} (hr : GIx X r) (ha : GE X a ta) (hb : GE X b tb) (hs : PlainIx b := by exact fun _ _ => rfl) : GE X (.Subscript a b pos) (eBin r ta tb) := pe_weak (pe_ix hr ha hb hs) fun σ H Q h => l2_of h
def oIx : O2 := fun d e S R => match itemsOf (rs S d), e with
  | some ds, .int i => (match L2.atI ds i with
    | some x => R x S
    | none => False)
  | _, _ => False
theorem o_ix : GIx X oIx := fun value slice pins s σ H x y v u Q I rx ry ⟨d, e, S, F, R, w, r1, r2, q, l⟩ hs => by
  refine ix_seq value slice pins s σ H x y v u Q I rx ry ?_ hs
  unfold oIx at q
  split at q
  · rename_i ds i hd
    split at q
    · rename_i z hz
      obtain ⟨a, xs, rfl, hx, rl⟩ := seq_view w r1 hd
      cases r2
      obtain ⟨v, h1, h2⟩ := rl.atI hz
      rcases hx with hx | hx
      · exact .inl ⟨a, xs, _, v, rfl, rfl, hx, h1, l _ _ _ _ q (Aft.refl w) h2⟩
      · exact .inr (.inl ⟨a, xs, _, v, rfl, rfl, hx, h1, l _ _ _ _ q (Aft.refl w) h2⟩)
    · exact q.elim
  · exact q.elim

/-! ### a[i:j] -/
abbrev TO' := Tau → Sto → (Option Int → Sto → Prop) → Prop
def LO (K : PySem.W.Frag) (t : TO') : TO := fun σ H Q => ∃ (τ : Tau) (S F : Sto) (R : Option Int → Sto → Prop), Wd K S F H ∧ RpS K (cmb S F) H τ σ ∧ t τ S R ∧ ∀ o S' H', R o S' → Aft K S F H S' H' → Q o H'
def GO (X : Cx) (e : Option Expr) (t : TO') : Prop := PO X e (LO X.K t)
def pNone : TO' := fun _ S Q => Q none S
def pSome (t : ET) : TO' := fun τ S Q => t τ S fun d S1 => match d with
  | .int i => Q (some i) S1
  | _ => False
theorem go_none : GO X none pNone := ⟨fun pins s σ H Q I ⟨τ, S, F, R, w, r, q, l⟩ => po_none.run pins s σ H Q I (l _ _ _ q (Aft.refl w))⟩
theorem go_some (h : GE X e t) : GO X (some e) (pSome t) := ⟨fun pins s σ H Q I ⟨τ, S, F, R, w, r, q, l⟩ => (po_some h).run pins s σ H Q I (by
  refine ⟨τ, S, F, _, w, r, q, fun d S1 v H1 q1 a1 r1 => ?_⟩
  split at q1
  · cases r1
    exact ⟨_, rfl, l _ _ _ q1 a1⟩
  · exact q1.elim)⟩
def oCut (lo hi : Option Int) (S : Sto) (R : QD) : D → Prop
  | .tup ds => R (.tup (cutD ds lo hi)) S
  | .lst ds => R (.lst (cutD ds lo hi)) S
  | .scr ds => R (.lst (cutD ds lo hi)) S
  | _ => False
def eSl (te : ET) (tl th : TO') : ET := fun τ S Q => te τ S fun d S1 => tl τ S1 fun lo S2 => th τ S2 fun hi S3 => oCut lo hi S3 Q (rs S3 d)
def rSlX (K : PySem.W.Frag) : V → Option Int → Option Int → Hp → VK → Prop := fun x lo hi H Q => rSlA K x lo hi H Q ∨ rSlL K x lo hi H Q
theorem sl_X : SlR X (rSlX X.K) := sl_tupA.or sl_list
theorem cutD_whole {ds : List D} {lo hi : Option Int} (h : HT.sIx ds.length 0 lo = 0 ∧ HT.sIx ds.length ds.length hi = ds.length) : cutD ds lo hi = ds := by
  unfold cutD
  rw [h.1, h.2, List.drop_zero, Nat.sub_zero, List.take_length]
theorem g_slice {lo hi : Option Expr} {tl th : TO'} {p2 : Pos} (he : GE X e t) (hl : GO X lo tl) (hu : GO X hi th) : GE X (.Subscript e (.Slice lo hi none p2) pos) (eSl t tl th) :=
  pe_weak (pe_slice sl_X he hl hu) fun σ H Q ⟨τ, S, F, R, w, r, q, g⟩ => by
    refine ⟨τ, S, F, _, w, r, q, fun d S1 v H1 q1 a1 r1 => ?_⟩
    refine ⟨τ, S1, F, _, a1.wd, a1.rps w r, q1, fun lo S2 H2 q2 a2 => ?_⟩
    refine ⟨τ, S2, F, _, a2.wd, (a1.trans a2).rps w r, q2, fun hi S3 H3 q3 a3 => ?_⟩
    have rd := (a2.trans a3).rp a1.wd r1
    have a13 := (a1.trans a2).trans a3
    generalize z : rs S3 d = d' at q3
    unfold oCut at q3
    split at q3
    · have z := rs_other z (by intro ds; simp)
      subst z
      obtain ⟨a, xs, rfl, hs, rl⟩ := rd
      refine .inl ⟨a, xs, rfl, hs, fun h => ?_, fun h p hp => ?_⟩
      · rw [rl.length] at h
        rw [cutD_whole h] at q3
        exact g _ _ _ _ q3 a13 ⟨a, xs, rfl, hs, rl⟩
      · exact g _ _ _ _ q3 (a13.trans (Aft.new a3.wd hp)) (rp_newT a3.wd hp rl.cut)
    · obtain ⟨a, xs, rfl, hs, rl⟩ := rs_lst a3.wd rd z
      exact .inr ⟨a, xs, rfl, .of hs, fun p hp => g _ _ _ _ q3 (a13.trans (Aft.new a3.wd hp)) (rp_newL a3.wd hp rl.cut)⟩
    · have z := rs_other z (by intro ds; simp)
      subst z
      obtain ⟨a, xs, rfl, hs, rl⟩ := rd
      exact .inr ⟨a, xs, rfl, hs.sq, fun p hp => g _ _ _ _ q3 (a13.trans (Aft.new a3.wd hp)) (rp_newL a3.wd hp rl.cut)⟩
    · exact q3.elim

/-! ### xs[i] = v -/
def oSet : OSet := fun d e f S R => match d, e with
  | .ref p, .int i => (match S p with
    | some (.lst ds) => (match ixN ds.length i with
      | some j => R (up S p (.lst (ds.set j f)))
      | none => False)
    | _ => False)
  | _, _ => False
theorem o_set : GSet X oSet := fun pins s σ H o i v u1 u2 u3 Q I ro ri rv ⟨d, e, f, S, F, R, w, r1, r2, r3, q, l⟩ => by
  refine set_list pins s σ H o i v u1 u2 u3 Q I ro ri rv ?_
  unfold oSet at q
  split at q
  · rename_i p k
    split at q
    · rename_i ds hp
      split at q
      · rename_i j hj
        cases r1; cases r2
        obtain ⟨xs, hx, rl⟩ := w.ok p _ (cmb_l hp)
        exact ⟨p, xs, k, j, rfl, rfl, hx, by rw [rl.length]; exact hj, l _ _ q (Aft.set w hp (sto_set w hp (rl.set j r3)))⟩
      · exact q.elim
    · exact q.elim
  · exact q.elim

/-! ### methods of lists -/
def GM (X : Cx) (id : String) (r : D → OL) : Prop := MtR X id (fun x xs H Q => ∃ (d : D) (ds : List D) (S F : Sto) (R : QD), Wd X.K S F H ∧ Rp X.K (cmb S F) H d x ∧ RpL X.K (cmb S F) H ds xs ∧ r d ds S R ∧
  ∀ d S' v H', R d S' → Aft X.K S F H S' H' → Rp X.K (cmb S' F) H' d v → Q v H')
/-- of the kind of a list -/
def isL (S : Sto) (d : D) : Prop := match rs S d with
  | .lst _ => True
  | .scr _ => True
  | _ => False
theorem tyV_l {K : PySem.W.Frag} {S F : Sto} {H : Hp} {d : D} {v : V} (w : Wd K S F H) (r : Rp K (cmb S F) H d v) (h : isL S d) : tyV K "list" v H := by
  unfold isL at h
  split at h
  · rename_i ds z
    obtain ⟨a, xs, rfl, hs, rl⟩ := rs_lst w r z
    exact .inl ⟨rfl, xs, .of hs⟩
  · rename_i ds z
    have z := rs_other z (by intro ds; simp)
    subst z
    obtain ⟨a, xs, rfl, hs, rl⟩ := r
    exact .inl ⟨rfl, xs, hs.sq⟩
  · exact h.elim
variable {o : Expr} {to : ET} {u : AT} {es : List Expr} {name : Str} {apos cpos : Pos} {id : String} {r : D → OL}
def eMt (r : D → OL) (to : ET) (u : AT) : ET := fun τ S Q => to τ S fun d S1 => isL S1 d ∧ u τ S1 fun ds S2 => r d ds S2 Q
theorem g_mt (slot : Slot "list" name id) (hty : typeOf (.builtin id) = pure (.type "method_descriptor")) (hm : GM X id r) (ho : GE X o to) (ha : GA X (e :: es) u)
    (hbase : attributeBase o name X.env (eval o X.env) = eval o X.env := by rfl)
    (hfew : ((backTo cpos (starEach (e :: es) X.env)).all (fun x => !x.1) && (backToKw cpos (keywordEach [] X.env)).all (fun x => x.1.isSome) && decide ((e :: es).length + ([] : List Keyword).length + (if ([] : List Keyword).isEmpty then 0 else 1) < 30)) = true := by rfl)
    (hline : (apos.endLine == cpos.line) = true := by rfl) (hs : starEach (e :: es) X.env = (false, eval e X.env) :: starEach es X.env := by rfl) (hplain : (backTo cpos (starEach es X.env)).any (·.1) = false := by rfl) :
    GE X (.Call (.Attribute o name apos) (e :: es) [] cpos) (eMt r to u) :=
  pe_weak (pe_bm PySem.F.plainAttrs_list slot hty hm ho ha hbase hfew hline hs hplain) fun σ H Q ⟨τ, S, F, R, w, rs, q, g⟩ => by
    refine ⟨τ, S, F, _, w, rs, q, fun d S1 v H1 q1 a1 r1 => ⟨tyV_l a1.wd r1 q1.1, ?_⟩⟩
    exact ⟨τ, S1, F, _, a1.wd, a1.rps w rs, q1.2, fun ds S2 vs H2 q2 a2 r2 => ⟨d, ds, S2, F, R, a2.wd, a2.rp a1.wd r1, r2, q2, fun d S3 v H3 q3 a3 r3 => g _ _ _ _ q3 ((a1.trans a2).trans a3) r3⟩⟩
def eMt0 (r : D → OL) (to : ET) : ET := fun τ S Q => to τ S fun d S1 => isL S1 d ∧ r d [] S1 Q
def mAppend : D → OL := fun d ds S R => match d, ds with
  | .ref p, [y] => (match S p with
    | some (.lst xs) => xs.length < sizeLine ∧ R .non (up S p (.lst (xs ++ [y])))
    | _ => False)
  | _, _ => False
theorem m_append : GM X "list.append" mAppend := fun pins s σ H x xs v us Q I rx rv ⟨d, ds, S, F, R, w, r1, r2, q, l⟩ => by
  refine mt_append pins s σ H x xs v us Q I rx rv ?_
  unfold mAppend at q
  split at q
  · rename_i p y
    split at q
    · rename_i es hp
      cases r1
      obtain ⟨x1, _, rfl, ry, rfl⟩ := r2
      obtain ⟨zs, hx, rl⟩ := w.ok p _ (cmb_l hp)
      refine ⟨p, zs, x1, rfl, rfl, hx, by rw [rl.length]; exact q.1, l _ _ _ _ q.2 (Aft.set w hp (sto_set w hp (rl.app ⟨x1, [], rfl, ry, rfl⟩))) rfl⟩
    · exact q.elim
  · exact q.elim
end

/-! ### built-in functions -/
section
variable {X : Cx}
def cLen : OL := fun ds S R => match ds with
  | [d] => (match itemsOf (rs S d) with
    | some es => R (.int es.length) S
    | none => (match d with
      | .str x => x.length ≤ sizeLine ∧ R (.int x.length) S
      | _ => False))
  | _ => False
theorem c_len : GC X (.builtin "len") cLen := fun pins s σ H vs us Q I r ⟨ds, S, F, R, w, r1, q, l⟩ => by
  unfold cLen at q
  split at q
  · rename_i d
    obtain ⟨x, _, rfl, rx, rfl⟩ := r1
    split at q
    · rename_i es he
      obtain ⟨a, xs, rfl, hx, rl⟩ := seq_view w rx he
      exact call_len_seq pins s σ H _ us Q I r ⟨a, xs, rfl, hx, by rw [rl.length]; exact l _ _ _ _ q (Aft.refl w) rfl⟩
    · split at q
      · cases rx
        exact call_len_str pins s σ H _ us Q I r ⟨_, rfl, q.1, l _ _ _ _ q.2 (Aft.refl w) rfl⟩
      · exact q.elim
  · exact q.elim
def cList : OL := fun ds S R => match ds with
  | [d] => (match itemsOf (rs S d) with
    | some es => R (.lst es) S
    | none => False)
  | _ => False
/-- list(xs), a list that is to change -/
def cListM : OL := fun ds S R => match ds with
  | [d] => (match itemsOf (rs S d) with
    | some es => ∀ p, S p = none → R (.ref p) (up S p (.lst es))
    | none => False)
  | _ => False
def cTuple : OL := fun ds S R => match ds with
  | [d] => (match itemsOf (rs S d) with
    | some es => R (.tup es) S
    | none => False)
  | _ => False
theorem c_tuple : GC X (.type "tuple") cTuple := fun pins s σ H vs us Q I r ⟨ds, S, F, R, w, r1, q, l⟩ => by
  refine call_tuple_of pins s σ H vs us Q I r ?_
  unfold cTuple at q
  split at q
  · rename_i d
    obtain ⟨x, _, rfl, rx, rfl⟩ := r1
    split at q
    · rename_i es he
      obtain ⟨a, xs, rfl, hx, rl⟩ := seq_view w rx he
      refine ⟨a, xs, rfl, hx.imp (fun hx => ⟨hx, fun p hp => l _ _ _ _ q (Aft.new w hp) (rp_newT w hp rl)⟩) fun hx => ⟨hx, l _ _ _ _ q (Aft.refl w) ⟨a, xs, rfl, hx, rl⟩⟩⟩
    · exact q.elim
  · exact q.elim
theorem list_of_seq {K : PySem.W.Frag} {S F : Sto} {H : Hp} {d : D} {v : V} {ds : List D} (w : Wd K S F H) (r : Rp K (cmb S F) H d v) (h : rs S d = .lst ds) : ∃ a xs, v = .ref a ∧ SqL K H a xs ∧ RpL K (cmb S F) H ds xs := by
  obtain ⟨a, xs, e, q, rl⟩ := rs_lst w r h
  exact ⟨a, xs, e, .of q, rl⟩
/-- the ints, the truth values of data -/
def intsOf : List D → Option (List Int)
  | [] => some []
  | .int i :: ds => (intsOf ds).map (i :: ·)
  | _ :: _ => none
def blsOf : List D → Option (List Bool)
  | [] => some []
  | .bl i :: ds => (blsOf ds).map (i :: ·)
  | _ :: _ => none
theorem intsOf_map : ∀ ns : List Int, intsOf (ns.map D.int) = some ns
  | [] => rfl
  | n :: ns => by show (intsOf (ns.map D.int)).map (n :: ·) = _; rw [intsOf_map ns]; rfl
theorem blsOf_map : ∀ ns : List Bool, blsOf (ns.map D.bl) = some ns
  | [] => rfl
  | n :: ns => by show (blsOf (ns.map D.bl)).map (n :: ·) = _; rw [blsOf_map ns]; rfl
theorem intsOf_eq : ∀ {ds : List D} {ns : List Int}, intsOf ds = some ns → ds = ns.map D.int
  | [], ns, h => by cases h; rfl
  | .int i :: ds, ns, h => by
    have h : (intsOf ds).map (i :: ·) = some ns := h
    cases z : intsOf ds with
    | none => rw [z] at h; cases h
    | some ms => rw [z] at h; cases h; rw [intsOf_eq z]; rfl
  | .non :: _, _, h | .bl _ :: _, _, h | .str _ :: _, _, h | .tup _ :: _, _, h | .lst _ :: _, _, h | .scr _ :: _, _, h | .ref _ :: _, _, h | .ty _ :: _, _, h | .rng _ _ :: _, _, h | .fn _ _ _ _ _ _ :: _, _, h | .exd _ _ _ _ _ :: _, _, h => nomatch h
theorem blsOf_eq : ∀ {ds : List D} {ns : List Bool}, blsOf ds = some ns → ds = ns.map D.bl
  | [], ns, h => by cases h; rfl
  | .bl i :: ds, ns, h => by
    have h : (blsOf ds).map (i :: ·) = some ns := h
    cases z : blsOf ds with
    | none => rw [z] at h; cases h
    | some ms => rw [z] at h; cases h; rw [blsOf_eq z]; rfl
  | .non :: _, _, h | .int _ :: _, _, h | .str _ :: _, _, h | .tup _ :: _, _, h | .lst _ :: _, _, h | .scr _ :: _, _, h | .ref _ :: _, _, h | .ty _ :: _, _, h | .rng _ _ :: _, _, h | .fn _ _ _ _ _ _ :: _, _, h | .exd _ _ _ _ _ :: _, _, h => nomatch h
def lstInts (S : Sto) (d : D) : Option (List Int) := match rs S d with
  | .lst es => intsOf es
  | _ => none
def lstBls (S : Sto) (d : D) : Option (List Bool) := match rs S d with
  | .lst es => blsOf es
  | _ => none
theorem ints_view {K : PySem.W.Frag} {S F : Sto} {H : Hp} {d : D} {v : V} {ns : List Int} (w : Wd K S F H) (r : Rp K (cmb S F) H d v) (h : lstInts S d = some ns) : ∃ a, v = .ref a ∧ SqL K H a (ns.map V.int) := by
  unfold lstInts at h
  split at h
  · rename_i es z
    obtain ⟨a, xs, e, q, rl⟩ := list_of_seq w r z
    rw [intsOf_eq h] at rl
    rw [RpL.ints rl] at q
    exact ⟨a, e, q⟩
  · cases h
theorem bls_view {K : PySem.W.Frag} {S F : Sto} {H : Hp} {d : D} {v : V} {ns : List Bool} (w : Wd K S F H) (r : Rp K (cmb S F) H d v) (h : lstBls S d = some ns) : ∃ a, v = .ref a ∧ SqL K H a (ns.map V.bl) := by
  unfold lstBls at h
  split at h
  · rename_i es z
    obtain ⟨a, xs, e, q, rl⟩ := list_of_seq w r z
    rw [blsOf_eq h] at rl
    rw [RpL.bls rl] at q
    exact ⟨a, e, q⟩
  · cases h
def cSum : OL := fun ds S R => match ds with
  | [d] => (match lstInts S d with
    | some ns => R (.int ns.sum) S
    | none => False)
  | _ => False
theorem c_sum (hc : X.calm = true) : GC X (.builtin "sum") cSum := fun pins s σ H vs us Q I r ⟨ds, S, F, R, w, r1, q, l⟩ => by
  refine cr_sum hc pins s σ H vs us Q I r ?_
  unfold cSum at q
  split at q
  · obtain ⟨x, _, rfl, rx, rfl⟩ := r1
    split at q
    · rename_i es he
      obtain ⟨a, rfl, hx⟩ := ints_view w rx he
      exact ⟨a, _, rfl, hx, l _ _ _ _ q (Aft.refl w) rfl⟩
    · exact q.elim
  · exact q.elim
def cAll : OL := fun ds S R => match ds with
  | [d] => (match lstBls S d with
    | some ns => R (.bl (ns.all id)) S
    | none => False)
  | _ => False
theorem c_all (hc : X.calm = true) : GC X (.builtin "all") cAll := fun pins s σ H vs us Q I r ⟨ds, S, F, R, w, r1, q, l⟩ => by
  refine cr_all hc pins s σ H vs us Q I r ?_
  unfold cAll at q
  split at q
  · obtain ⟨x, _, rfl, rx, rfl⟩ := r1
    split at q
    · rename_i es he
      obtain ⟨a, rfl, hx⟩ := bls_view w rx he
      exact ⟨a, _, rfl, hx, l _ _ _ _ q (Aft.refl w) rfl⟩
    · exact q.elim
  · exact q.elim
def cAny : OL := fun ds S R => match ds with
  | [d] => (match lstBls S d with
    | some ns => R (.bl (ns.any id)) S
    | none => False)
  | _ => False
def cInt : OL := fun ds S R => match ds with
  | [.int i] => R (.int i) S
  | [.bl b] => R (.int (if b then 1 else 0)) S
  | _ => False
theorem c_int : GC X (.type "int") cInt := fun pins s σ H vs us Q I r ⟨ds, S, F, R, w, r1, q, l⟩ => by
  refine call_int1 pins s σ H vs us Q I r ?_
  unfold cInt at q
  split at q
  · obtain ⟨x, _, rfl, rx, rfl⟩ := r1
    cases rx
    exact .inl ⟨_, rfl, l _ _ _ _ q (Aft.refl w) rfl⟩
  · obtain ⟨x, _, rfl, rx, rfl⟩ := r1
    cases rx
    exact .inr ⟨_, rfl, l _ _ _ _ q (Aft.refl w) rfl⟩
  · exact q.elim
def cAbs : OL := fun ds S R => match ds with
  | [.int i] => R (.int (if i < 0 then -i else i)) S
  | _ => False
theorem c_abs : GC X (.builtin "abs") cAbs := fun pins s σ H vs us Q I r ⟨ds, S, F, R, w, r1, q, l⟩ => by
  refine call_abs pins s σ H vs us Q I r ?_
  unfold cAbs at q
  split at q
  · obtain ⟨x, _, rfl, rx, rfl⟩ := r1
    cases rx
    exact ⟨_, rfl, l _ _ _ _ q (Aft.refl w) rfl⟩
  · exact q.elim
def cMax2 : OL := fun ds S R => match ds with
  | [.int i, .int j] => R (.int (if j > i then j else i)) S
  | _ => False
def cMin2 : OL := fun ds S R => match ds with
  | [.int i, .int j] => R (.int (if j < i then j else i)) S
  | _ => False
theorem c_max2 (hc : X.calm = true) : GC X (.builtin "max") cMax2 := fun pins s σ H vs us Q I r ⟨ds, S, F, R, w, r1, q, l⟩ => by
  refine call_max2 hc pins s σ H vs us Q I r ?_
  unfold cMax2 at q
  split at q
  · obtain ⟨x, _, rfl, rx, y, _, rfl, ry, rfl⟩ := r1
    cases rx; cases ry
    exact ⟨_, _, rfl, l _ _ _ _ q (Aft.refl w) rfl⟩
  · exact q.elim
theorem c_min2 (hc : X.calm = true) : GC X (.builtin "min") cMin2 := fun pins s σ H vs us Q I r ⟨ds, S, F, R, w, r1, q, l⟩ => by
  refine call_min2 hc pins s σ H vs us Q I r ?_
  unfold cMin2 at q
  split at q
  · obtain ⟨x, _, rfl, rx, y, _, rfl, ry, rfl⟩ := r1
    cases rx; cases ry
    exact ⟨_, _, rfl, l _ _ _ _ q (Aft.refl w) rfl⟩
  · exact q.elim
def cDivmod : OL := fun ds S R => match ds with
  | [.int i, .int j] => CDiv i j ∧ R (.tup [.int (i / j), .int (i % j)]) S
  | _ => False
theorem c_divmod : GC X (.builtin "divmod") cDivmod := fun pins s σ H vs us Q I r ⟨ds, S, F, R, w, r1, q, l⟩ => by
  refine call_divmod pins s σ H vs us Q I r ?_
  unfold cDivmod at q
  split at q
  · obtain ⟨x, _, rfl, rx, y, _, rfl, ry, rfl⟩ := r1
    cases rx; cases ry
    exact ⟨_, _, rfl, q.1, fun p hp => l _ _ _ _ q.2 (Aft.new w hp) (rp_newT w hp ⟨_, _, rfl, rfl, _, _, rfl, rfl, rfl⟩)⟩
  · exact q.elim
def cGcd : OL := fun ds S R => match ds with
  | [.int i, .int j] => R (.int ((Nat.gcd i.natAbs j.natAbs : Nat) : Int)) S
  | _ => False
theorem c_gcd : GC X (.builtin "math.gcd") cGcd := fun pins s σ H vs us Q I r ⟨ds, S, F, R, w, r1, q, l⟩ => by
  refine cr_gcd pins s σ H vs us Q I r ?_
  unfold cGcd at q
  split at q
  · obtain ⟨x, _, rfl, rx, y, _, rfl, ry, rfl⟩ := r1
    cases rx; cases ry
    exact ⟨_, _, rfl, l _ _ _ _ q (Aft.refl w) rfl⟩
  · exact q.elim
/-! isinstance by a built-in class -/
def isiD (n : String) : D → Bool
  | .non => false
  | .bl _ => n == "bool" || n == "int"
  | .int _ => n == "int"
  | .str _ => n == "str"
  | .tup _ => n == "tuple"
  | .lst _ => n == "list"
  | .scr _ => n == "list"
  | _ => false
def tyN : D → String
  | .non => "NoneType"
  | .bl _ => "bool"
  | .int _ => "int"
  | .str _ => "str"
  | .tup _ => "tuple"
  | _ => "list"
def isPlainTop : D → Bool
  | .ref _ => false
  | .ty _ => false
  | .rng _ _ => false
  | .fn _ _ _ _ _ _ => false
  | .exd _ _ _ _ _ => false
  | _ => true
def cIsi : OL := fun ds S R => match ds with
  | [d, .ty n] => (isPlainTop (rs S d) = true ∧ n ∈ ["int", "bool", "str", "tuple", "list", "dict"]) ∧ R (.bl (isiD n (rs S d))) S
  | _ => False
theorem kit_all : ∀ a ∈ ["NoneType", "bool", "int", "str", "tuple", "list"], ∀ b ∈ ["int", "bool", "str", "tuple", "list", "dict"], kitB a b = some (a == b || (a == "bool" && b == "int")) := by decide +kernel
theorem isiD_eq {d : D} {n : String} (h : isPlainTop d = true) (hn : n ∈ ["int", "bool", "str", "tuple", "list", "dict"]) : kitB (tyN d) n = some (isiD n d) := by
  have z : ∀ a ∈ ["NoneType", "bool", "int", "str", "tuple", "list"], ∀ b ∈ ["int", "bool", "str", "tuple", "list", "dict"], ∀ d : D, isPlainTop d = true → tyN d = a → (a == b || (a == "bool" && b == "int")) = isiD b d := by
    intro a ha b hb d hd e
    subst e
    simp only [List.mem_cons, List.not_mem_nil, or_false] at hb
    cases d <;> first | (rcases hb with rfl | rfl | rfl | rfl | rfl | rfl <;> rfl) | (exact nomatch hd)
  have ma : tyN d ∈ ["NoneType", "bool", "int", "str", "tuple", "list"] := by cases d <;> first | simp [tyN] | (exact nomatch h)
  rw [kit_all _ ma _ hn, z _ ma _ hn d h rfl]
theorem tyX_of {K : PySem.W.Frag} {S F : Sto} {H : Hp} {d : D} {v : V} (w : Wd K S F H) (r : Rp K (cmb S F) H d v) (h : isPlainTop (rs S d) = true) : TyX K H v (.type (tyN (rs S d))) := by
  cases z : rs S d with
  | lst ds =>
    obtain ⟨a, xs, rfl, q, _⟩ := rs_lst w r z
    exact .base (.lst q)
  | tup ds =>
    have z := rs_other z (by intro ds; simp)
    subst z
    obtain ⟨a, xs, rfl, q, _⟩ := r
    rcases q with (q | ⟨ob, q⟩) | ⟨ob, its, n, q, c, _⟩
    · exact .base (.tup q)
    · exact .fTuple q
    · exact .kTuple q c
  | scr ds =>
    have z := rs_other z (by intro ds; simp)
    subst z
    obtain ⟨a, xs, rfl, q, _⟩ := r
    rcases q.sq with (q | ⟨ob, q⟩) | ⟨ob, its, n, q, c, _⟩
    · exact .base (.lst q)
    · exact .base (.frz q)
    · exact .kList q c
  | ref p => rw [z] at h; cases h
  | ty n => rw [z] at h; cases h
  | rng lo hi => rw [z] at h; cases h
  | fn f c q o ds vs => rw [z] at h; cases h
  | exd a d C f x => rw [z] at h; cases h
  | non =>
    have z := rs_other z (by intro ds; simp)
    subst z
    cases r
    exact .base .non
  | bl b =>
    have z := rs_other z (by intro ds; simp)
    subst z
    cases r
    exact .base (.bl b)
  | int b =>
    have z := rs_other z (by intro ds; simp)
    subst z
    cases r
    exact .base (.int b)
  | str b =>
    have z := rs_other z (by intro ds; simp)
    subst z
    cases r
    exact .base (.str b)
theorem c_isi : GC X (.builtin "isinstance") cIsi := fun pins s σ H vs us Q I r ⟨ds, S, F, R, w, r1, q, l⟩ => by
  refine call_isi pins s σ H vs us Q I r ?_
  unfold cIsi at q
  split at q
  · obtain ⟨x, _, rfl, rx, y, _, rfl, ry, rfl⟩ := r1
    cases ry
    exact ⟨x, _, _, _, _, rfl, .ty _, tyX_of w rx q.1.1, kit_ty (isiD_eq q.1.1 q.1.2), l _ _ _ _ q.2 (Aft.refl w) rfl⟩
  · exact q.elim
end
end Gx

/-! Gx, part 8: in, chains, repr, keywords, constants, the names of built-ins. -/
namespace Gx
open PySem PySem.Spec PyProof.Rows L2

theorem Room_units65 {k : Nat} {A : Around} (r : Room k A) : A.units + 65 < cLine := by have := r.un; omega
section
variable {X : Cx} {a b c : Expr} {ta tb tc : ET} {pos : Pos}
/-! ### in -/
/-- x in xs, a list or a tuple of data -/
def inD (d : D) (ds : List D) : Bool := ds.any fun e => eqD e d
def oIn : O2 := fun d e S R => match rs S e with
  | .lst ds => (pl 60 d = true ∧ pl 60 (.lst ds) = true) ∧ R (.bl (inD d ds)) S
  | .tup ds => (pl 60 d = true ∧ pl 60 (.tup ds) = true) ∧ R (.bl (inD d ds)) S
  | _ => False
def oNin : O2 := fun d e S R => match rs S e with
  | .lst ds => (pl 60 d = true ∧ pl 60 (.lst ds) = true) ∧ R (.bl (!inD d ds)) S
  | .tup ds => (pl 60 d = true ∧ pl 60 (.tup ds) = true) ∧ R (.bl (!inD d ds)) S
  | _ => False
theorem pyDL_any {d : D} : ∀ ds : List D, ((pyDL ds).any fun z => PyData.eqv z (pyD d)) = inD d ds
  | [] => rfl
  | e :: ds => by
    show (PyData.eqv (pyD e) (pyD d) || (pyDL ds).any fun z => PyData.eqv z (pyD d)) = (eqD e d || inD d ds)
    rw [pyDL_any ds]; rfl
theorem room_in {d : PyData} {ds : List PyData} {A : Around} (h : SeqAt.shaped d = true) (hu : A.units + 65 < cLine) : A.units + 1 + min (PyData.depthAll ds) d.depth < cLine := by
  have h1 := SeqAt.depth_of_shaped h
  have h2 := Nat.min_le_right (PyData.depthAll ds) d.depth
  omega
theorem o_in (hu : X.A.units + 65 < cLine) : G2 X (compareOp .In) oIn := fun pins s σ H x y v u Q I rx ry ⟨d, e, S, F, R, w, r1, r2, q, l⟩ => by
  unfold oIn at q
  generalize z : rs S e = e' at q
  have sh : ∀ ds : List D, ds.all (pl 59) = true → PyData.canLayAll0 (pyDL ds) = true := fun ds h => (pl_shapeL ds 59 h).1
  split at q
  · rename_i ds
    have dy := dp_rs w r2 (n := 60) (by rw [z]; exact q.1.2)
    rw [z] at dy
    obtain ⟨as, ra⟩ := Dp.reads I _ x v (dp_of d 60 x q.1.1 r1) rx
    obtain ⟨bs, rb⟩ := Dp.reads I _ y u dy ry
    refine SeqAt.in_list_reads rb ra (sh ds q.1.2) (pl_shape d 60 q.1.1).1 (room_in (pl_shaped q.1.1) hu) ?_
    rw [pyDL_any]
    exact ⟨.bl _, H, I, rfl, l _ _ _ _ q.2 (Aft.refl w) rfl⟩
  · rename_i ds
    have dy := dp_rs w r2 (n := 60) (by rw [z]; exact q.1.2)
    rw [z] at dy
    obtain ⟨as, ra⟩ := Dp.reads I _ x v (dp_of d 60 x q.1.1 r1) rx
    obtain ⟨bs, rb⟩ := Dp.reads I _ y u dy ry
    refine SeqAt.in_tuple_reads rb ra (sh ds q.1.2) (pl_shape d 60 q.1.1).1 (room_in (pl_shaped q.1.1) hu) ?_
    rw [pyDL_any]
    exact ⟨.bl _, H, I, rfl, l _ _ _ _ q.2 (Aft.refl w) rfl⟩
  · exact q.elim
theorem o_nin (hu : X.A.units + 65 < cLine) : G2 X (compareOp .NotIn) oNin := fun pins s σ H x y v u Q I rx ry ⟨d, e, S, F, R, w, r1, r2, q, l⟩ => by
  unfold oNin at q
  generalize z : rs S e = e' at q
  have sh : ∀ ds : List D, ds.all (pl 59) = true → PyData.canLayAll0 (pyDL ds) = true := fun ds h => (pl_shapeL ds 59 h).1
  split at q
  · rename_i ds
    have dy := dp_rs w r2 (n := 60) (by rw [z]; exact q.1.2)
    rw [z] at dy
    obtain ⟨as, ra⟩ := Dp.reads I _ x v (dp_of d 60 x q.1.1 r1) rx
    obtain ⟨bs, rb⟩ := Dp.reads I _ y u dy ry
    refine SeqAt.notIn_list_reads rb ra (sh ds q.1.2) (pl_shape d 60 q.1.1).1 (room_in (pl_shaped q.1.1) hu) ?_
    rw [pyDL_any]
    exact ⟨.bl _, H, I, rfl, l _ _ _ _ q.2 (Aft.refl w) rfl⟩
  · rename_i ds
    have dy := dp_rs w r2 (n := 60) (by rw [z]; exact q.1.2)
    rw [z] at dy
    obtain ⟨as, ra⟩ := Dp.reads I _ x v (dp_of d 60 x q.1.1 r1) rx
    obtain ⟨bs, rb⟩ := Dp.reads I _ y u dy ry
    refine SeqAt.notIn_tuple_reads rb ra (sh ds q.1.2) (pl_shape d 60 q.1.1).1 (room_in (pl_shaped q.1.1) hu) ?_
    rw [pyDL_any]
    exact ⟨.bl _, H, I, rfl, l _ _ _ _ q.2 (Aft.refl w) rfl⟩
  · exact q.elim

/-! ### a < b < c -/
def eChain (r r' : O2) (ta tb tc : ET) : ET := fun τ S Q => ta τ S fun d S1 => tb τ S1 fun e S2 => r d e S2 fun z S3 => match z with
  | .bl b => if b = true then tc τ S3 fun f S4 => r' e f S4 Q else Q (.bl false) S3
  | _ => False
theorem chain_of {r r' : O2} {σ : L2.St} {H : Hp} {Q : VK} (h : LE X.K (eChain r r' ta tb tc) σ H Q) : tChain (L2O X.K r) (L2O X.K r') (LE X.K ta) (LE X.K tb) (LE X.K tc) σ H Q := by
  obtain ⟨τ, S, F, R, w, rs, q, g⟩ := h
  refine le_bin ⟨τ, S, F, w, rs, q, fun d e S' v u H' q' a' r1 r2 => ?_⟩
  refine ⟨d, e, S', F, _, a'.wd, r1, r2, q', fun z S2 v' H2 q2 a2 r2' => ?_⟩
  have a02 := a'.trans a2
  split at q2
  · rename_i b
    refine ⟨b, r2', ?_⟩
    cases b with
    | true =>
      refine ⟨τ, S2, F, _, a2.wd, a02.rps w rs, q2, fun f S3 v3 H3 q3 a3 r3 => ?_⟩
      exact ⟨e, f, S3, F, R, a3.wd, (a2.trans a3).rp a'.wd r2, r3, q3, fun d' S4 v4 H4 q4 a4 r4 => g _ _ _ _ q4 ((a02.trans a3).trans a4) r4⟩
    | false => exact g _ _ _ _ q2 a02 rfl
  · exact q2.elim
theorem g_chain {op op' : CmpOp} {r r' : O2} (ho : G2 X (compareOp op) r) (ho' : G2 X (compareOp op') r') (ha : GE X a ta) (hb : GE X b tb) (hc : GE X c tc) (hm : lastMarks [op, op'] [b, c] = false := by with_unfolding_all rfl) :
    GE X (.Compare a [op, op'] [b, c] pos) (eChain r r' ta tb tc) := pe_weak (pe_chain ho ho' ha hb hc hm) fun σ H Q h => chain_of h
theorem gt_chain {op op' : CmpOp} {r r' : O2} (ho : G2 X (compareOp op) r) (ho' : G2 X (compareOp op') r') (ha : GE X a ta) (hb : GE X b tb) (hc : GE X c tc) (hm : lastMarks [op, op'] [b, c] = false := by with_unfolding_all rfl) :
    GT X (.Compare a [op, op'] [b, c] pos) (tBl (eChain r r' ta tb tc)) := pt_weak (pt_chain ho ho' ha hb hc hm) fun σ H Q h => by
  obtain ⟨τ, S, F, R, w, r, q, g⟩ := lt_of h
  exact chain_of ⟨τ, S, F, R, w, r, q, g⟩

/-! ### a comprehension within a comprehension -/
section
variable {X0 : Cx} {s0 : Shared} {H0 : Hp} {sc : Scope} {cl0 : List (Str × Addr)} {C0 : Addr} {fp0 : List Addr} {N : List Str} {osc : Scope} {ti : IT'} {g : TG'} {tt : TT'} {te : ET} {elt tg iter : Expr} {ifs : List Expr} {scope : Scope} {own : List (Str × Nat)}
end
end

/-! ### repr -/
mutual
/-- leaves that are told in few signs -/
def okL : D → Bool
  | .int i => decide (i.natAbs.log2 < 1920)
  | .str x => x.cps.toList.all fun c => decide (c < 16 ^ 8)
  | .tup ds => okLs ds
  | .lst ds => okLs ds
  | .scr ds => okLs ds
  | _ => true
def okLs : List D → Bool
  | [] => true
  | d :: ds => okL d && okLs ds
end
mutual
def szD : D → Nat
  | .str x => x.cps.size
  | .tup ds => szDs ds
  | .lst ds => szDs ds
  | .scr ds => szDs ds
  | _ => 0
def szDs : List D → Nat
  | [] => 0
  | d :: ds => szD d + 1 + szDs ds
end
mutual
theorem okL_py : ∀ d : D, okL d = true → (pyD d).showable = true ∧ (pyD d).leavesShort 1940 = true ∧ (pyD d).bulk = szD d ∧ (pyD d).hasDict = false
  | .non, _ => ⟨rfl, rfl, rfl, rfl⟩
  | .bl _, _ => ⟨rfl, rfl, rfl, rfl⟩
  | .ref _, _ => ⟨rfl, rfl, rfl, rfl⟩
  | .ty _, _ => ⟨rfl, rfl, rfl, rfl⟩
  | .rng _ _, _ => ⟨rfl, rfl, rfl, rfl⟩
  | .fn _ _ _ _ _ _, _ => ⟨rfl, rfl, rfl, rfl⟩
  | .exd _ _ _ _ _, _ => ⟨rfl, rfl, rfl, rfl⟩
  | .int i, h => by
    have h' : i.natAbs.log2 < 1920 := of_decide_eq_true h
    refine ⟨h, decide_eq_true ?_, rfl, rfl⟩
    have z := int_text_len_1921 h'
    show (Str.ofString (toString i)).length ≤ 1940
    omega
  | .str x, h => ⟨rfl, h, rfl, rfl⟩
  | .tup ds, h => okLs_py ds h
  | .lst ds, h => okLs_py ds h
  | .scr ds, h => okLs_py ds h
theorem okLs_py : ∀ ds : List D, okLs ds = true → PyData.showableAll (pyDL ds) = true ∧ PyData.leavesShortAll 1940 (pyDL ds) = true ∧ PyData.bulkAll (pyDL ds) = szDs ds ∧ PyData.hasDictAll (pyDL ds) = false
  | [], _ => ⟨rfl, rfl, rfl, rfl⟩
  | d :: ds, h => by
    have h : (okL d && okLs ds) = true := h
    rw [Bool.and_eq_true] at h
    obtain ⟨a1, a2, a3, a4⟩ := okL_py d h.1
    obtain ⟨b1, b2, b3, b4⟩ := okLs_py ds h.2
    refine ⟨?_, ?_, ?_, ?_⟩
    · show ((pyD d).showable && PyData.showableAll (pyDL ds)) = true
      rw [a1, b1]; rfl
    · show ((pyD d).leavesShort 1940 && PyData.leavesShortAll 1940 (pyDL ds)) = true
      rw [a2, b2]; rfl
    · show (pyD d).bulk + 1 + PyData.bulkAll (pyDL ds) = szD d + 1 + szDs ds
      rw [a3, b3]
    · show ((pyD d).hasDict || PyData.hasDictAll (pyDL ds)) = false
      rw [a4, b4]; rfl
end
def rpOk (d : D) : Prop := pl 60 d = true ∧ okL d = true ∧ szD d ≤ 8000
def reprD (d : D) : Str := (pyD d).shown
theorem rp_len {d : D} (h : rpOk d) : (reprD d).length ≤ sizeLine := by
  obtain ⟨a1, a2, a3, a4⟩ := okL_py d h.2.1
  have z := PyData.shown_le_bulk 1940 (by decide) (pyD d) a2
  rw [a3] at z
  have h3 := h.2.2
  rw [sizeLine_eq]
  unfold reprD
  omega
section
variable {X : Cx}
def cRepr : OL := fun ds S R => match ds with
  | [d] => rpOk (rs S d) ∧ R (.str (reprD (rs S d))) S
  | _ => False
theorem c_repr {k : Nat} (hr : Room k X.A) (hg : X.A.guards = some []) : GC X (.builtin "repr") cRepr := fun pins s σ H vs us Q I r ⟨ds, S, F, R, w, r1, q, l⟩ => by
  unfold cRepr at q
  split at q
  · rename_i d
    obtain ⟨x, _, rfl, rx, rfl⟩ := r1
    obtain ⟨ok, q⟩ := q
    have len := rp_len ok
    obtain ⟨a1, a2, a3, a4⟩ := okL_py _ ok.2.1
    obtain ⟨u, rfl, ru⟩ := vals1 r
    have dp := dp_rs w rx (n := 60) ok.1
    obtain ⟨as, rd⟩ := Dp.reads I _ x u dp ru
    have fin : ∀ {s' : Shared}, Inv X pins σ H s' → EP X pins σ Q (.str (reprD (rs S d)) s'.toks) { s' with toks := s'.toks + 1 } := fun {s'} I' =>
      ⟨.str _, H, I'.tok _, ⟨_, rfl⟩, l _ _ _ _ q (Aft.refl w) rfl⟩
    by_cases hd : isDisplay (pyD (rs S d)) = true
    · obtain ⟨a, rfl⟩ := isRef_of_reads rd hd
      have hdep := (pl_shape _ 60 ok.1).2
      have hun := hr.un
      exact repr_of_reads' rd a1 (PyData.noDict_hsm a4) hg (by omega) (fun _ _ e => e) (fun h' tk t hk => ⟨.str _, H, I.kept (h' := h') (t' := t) hk, ⟨_, rfl⟩, l _ _ _ _ q (Aft.refl w) rfl⟩) len
    · generalize rs S d = d' at *
      cases d' with
      | non => cases rd; exact PySem.P.repr_of_none (fin I)
      | bl b => cases rd; exact PySem.P.repr_of_bool (fin I)
      | int i => cases rd; exact PySem.P.repr_of_int (of_decide_eq_true ok.2.1) (fin I)
      | str z => cases rd; exact PySem.P.repr_of_str (fin I) len
      | tup _ => exact absurd rfl hd
      | lst _ => exact absurd rfl hd
      | scr _ => exact absurd rfl hd
      | ref _ => exact nomatch ok.1
      | ty _ => exact nomatch ok.1
      | rng _ _ => exact nomatch ok.1
      | fn _ _ _ _ _ _ => exact nomatch ok.1
      | exd _ _ _ _ _ => exact nomatch ok.1
  · exact q.elim
end

/-! ### keywords -/
/-- the places of a list in a new order -/
def pick {α : Type} (perm : List Nat) (xs : List α) : List α := perm.filterMap fun i => xs[i]?
theorem rpl_pick {K : PySem.W.Frag} {T : Sto} {H : Hp} {ds : List D} {vs : List V} (r : RpL K T H ds vs) : ∀ perm : List Nat, RpL K T H (pick perm ds) (pick perm vs)
  | [] => rfl
  | i :: perm => by
    have ih := rpl_pick r perm
    unfold pick at ih ⊢
    cases e : ds[i]? with
    | none =>
      have e' : vs[i]? = none := by
        rw [List.getElem?_eq_none_iff] at e ⊢
        rw [r.length]; exact e
      rw [List.filterMap_cons_none e, List.filterMap_cons_none e']
      exact ih
    | some d =>
      obtain ⟨v, e', rv⟩ := r.get e
      rw [List.filterMap_cons_some e, List.filterMap_cons_some e']
      exact ⟨v, _, rfl, rv, ih⟩
theorem vals_pick {vs : List V} {us : List Value} (r : Vals vs us) : ∀ perm : List Nat, Vals (pick perm vs) (pick perm us)
  | [] => .nil
  | i :: perm => by
    have ih := vals_pick r perm
    unfold pick at ih ⊢
    cases e : vs[i]? with
    | none => rw [List.filterMap_cons_none e, List.filterMap_cons_none (r.none_of e)]; exact ih
    | some v =>
      obtain ⟨u, e', rv⟩ := r.get e
      rw [List.filterMap_cons_some e, List.filterMap_cons_some e']
      exact .cons rv ih
/-- how keywords bind: n arguments by position, the rest by the names ks -/
def KB (fd : FuncData) (ps ks : List Str) (n : Nat) (perm : List Nat) : Prop := ∀ us ws : List Value, us.length = n → ws.length = ks.length → bindArgs fd ⟨us, ks.zip ws⟩ = pure (ps.zip (pick perm (us ++ ws)))
theorem kb_mk {K : PySem.W.Frag} {x qual : Str} {st : Stmt} {f : Addr} {fd : FuncData} {ps ks : List Str} {n : Nat} {perm : List Nat} (F : Fun K x qual st f fd)
    (h : ∀ (kV doc pm : Value) (an : Option Addr) (cdv ct : Value) (us ws : List Value), us.length = n → ws.length = ks.length → bindArgs (PySem.W.fnOf x qual (defArgs st) (defBody st) (defScope st) .none kV doc pm an cdv ct) ⟨us, ks.zip ws⟩ = pure (ps.zip (pick perm (us ++ ws)))) : KB fd ps ks n perm := by
  obtain ⟨oc, od, kV, doc, pm, an, cdv, ct, osl, rfl, lk, hcd⟩ := F.ex
  exact h kV doc pm an cdv ct
def LK (X : Cx) (kws : List Keyword) (u : AT) : Prop := PK X kws (LA X.K u)
section
variable {X : Cx} {k j n : Nat} {f : Addr} {fd : FuncData} {ps ks : List Str} {γ : OL} {x : Str} {p pos kpos : Pos} {e : Expr} {es : List Expr} {kws : List Keyword} {t : ET} {u v : AT} {perm : List Nat} {nm : Option Str}
theorem gk_nil : LK X [] aNil := ⟨fun pos pins s σ H Q I ⟨τ, S, F, R, w, r, q, g⟩ => pk_nil.run pos pins s σ H Q I (g _ _ _ _ q (Aft.refl w) rfl)⟩
theorem gk_cons (ha : GE X e t) (hr : LK X kws u) : LK X (⟨nm, e, kpos⟩ :: kws) (aCons t u) := ⟨fun pos pins s σ H Q I ⟨τ, S, F, R, w, r, q, g⟩ => (pk_cons ha hr).run pos pins s σ H Q I
  ⟨τ, S, F, _, w, r, q, fun d S1 v H1 q1 a1 r1 => ⟨τ, S1, F, _, a1.wd, a1.rps w r, q1, fun ds S2 vs H2 q2 a2 r2 => g _ _ _ _ q2 (a1.trans a2) ⟨v, vs, rfl, a2.rp a1.wd r1, r2⟩⟩⟩⟩
theorem run_gfnK {pins : List (Addr × Obj)} {σ : L2.St} {H : Hp} {s : Shared} {Q : VK} {us ws : List Value} {vs zs : List V} (G : GFn X.prog X.w X.K X.mg X.base k f fd ps γ) (hr : Room k X.A) (hg : X.A.guards = some []) (hb : KB fd ps ks n perm) (hn : us.length = n) (hw : ws.length = ks.length)
    (I : Inv X pins σ H s) (r : Vals (vs ++ zs) (us ++ ws)) (h : LLO X.K γ (pick perm (vs ++ zs)) H Q) : wpAny (model X.prog X.w) X.A (call (.ref f) us (ks.zip ws)) (EP X pins σ Q) X.xe s := by
  refine wpAny_call (codeAny_mono (G.run X.A X.stack s H ⟨us, ks.zip ws⟩ (pick perm (us ++ ws)) _ Q hr hg I.env0 (.of_eq (hb us ws hn hw)) (vals_pick r perm) h) fun r s' hq => ?_)
  cases r with
  | error e => exact False.elim hq
  | ok fl =>
    cases fl with
    | ret u => exact I.after hq
    | next => exact False.elim hq
    | brk => exact False.elim hq
    | cont => exact False.elim hq
def eCallK (γ : OL) (n m : Nat) (perm : List Nat) (u v : AT) : ET := fun τ S Q => u τ S fun ds S1 => v τ S1 fun es S2 => (ds.length = n ∧ es.length = m) ∧ γ (pick perm (ds ++ es)) S2 Q
theorem g_callK0 (h : Has X.prog X.w X.K X.mg X.base j x f fd ps γ) (hb : KB fd ps ks 0 perm) (hr : Room k X.A) (hg : X.A.guards = some []) (hjk : j ≤ k) (hgl : Gl X x) (hkw : LK X kws v) (hall : (backToKw pos (keywordEach kws X.env)).all (·.1.isSome) = true := by rfl) (hks : (backToKw pos (keywordEach kws X.env)).filterMap (·.1) = ks := by rfl)
    (hdb : (x == ("__debug__" : Str)) = false := by decide) (hpl : ((backTo pos (starEach [] X.env)).any (·.1) || (backToKw pos (keywordEach kws X.env)).any (·.1.isNone)) = false := by rfl) : GE X (.Call (.Name x p) [] kws pos) (eCallK γ 0 ks.length perm aNil v) := by
  refine ⟨fun pins s σ H Q I ⟨τ, S, F, R, w, r, q, g⟩ => ?_⟩
  refine wpAny_Call_Name_kw (ld_glob I hgl h.mg ?_ hdb)
  have hq : LA X.K v σ H fun zs H1 => zs.length = ks.length ∧ LLO X.K γ (pick perm ([] ++ zs)) H1 Q := ⟨τ, S, F, _, w, r, q, fun es S1 vs H1 q1 a1 r1 => by
    refine ⟨r1.length.trans q1.1.2, pick perm ([] ++ es), S1, F, R, a1.wd, rpl_pick r1 perm, q1.2, fun d S2 v H2 q2 a2 r2 => g _ _ _ _ q2 (a1.trans a2) r2⟩⟩
  refine PySem.W.callWith_KW0 (h₀ := X.base) I.ok.mod.kin h.kp hall (thn (hkw.run pos pins s σ H _ I hq) fun ws s2 ⟨zs, H2, I2, rz, q2⟩ => ⟨I2.kIn, ?_⟩) hpl
  rw [hks]
  exact run_gfnK (us := []) (vs := []) (n := 0) h.fn (hr.mono hjk) hg hb rfl (rz.length.symm.trans q2.1) I2 rz q2.2
end

/-! ### constants of the module -/
structure Cst (K : PySem.W.Frag) (mg : Str → Option Value) (x : Str) (d : D) : Prop where
  ex : ∃ v u, mg x = some u ∧ RelV v u ∧ ∀ T H, Rp K T H d v
theorem g_cst {X : Cx} {x : Str} {d : D} {pos : Pos} (c : Cst X.K X.mg x d) (hg : Gl X x) (h : (x == ("__debug__" : Str)) = false := by decide) : GE X (.Name x pos) (eC d) :=
  let ⟨_, _, h1, h2, h3⟩ := c.ex
  g_glob hg h1 h2 h3 h
theorem cst_int {K : PySem.W.Frag} {mg : Str → Option Value} {x : Str} {i : Int} {t : Tok} (h : mg x = some (.int i t)) : Cst K mg x (.int i) := ⟨.int i, _, h, ⟨_, rfl⟩, fun _ _ => rfl⟩
theorem cst_pair {K : PySem.W.Frag} {mg : Str → Option Value} {x : Str} {i j : Int} {t u : Tok} {a : Addr} {o : Obj} {n : Nat} (h : mg x = some (.ref a)) (ho : K.lookup a = some o) (hc : o.cls = .type "tuple") (hd : o.data = .seq #[.int i t, .int j u] n) : Cst K mg x (.tup [.int i, .int j]) :=
  ⟨.ref a, _, h, rfl, fun T H => ⟨a, [.int i, .int j], rfl, .inr ⟨o, _, n, ho, hc, hd, by show 2 ≤ sizeLine; decide, .cons ⟨_, rfl⟩ (.cons ⟨_, rfl⟩ .nil)⟩, _, _, rfl, rfl, _, _, rfl, rfl, rfl⟩⟩

/-! ### the names of built-ins -/
/-- no name of these is the module's own -/
structure Blt (mg : Str → Option Value) : Prop where
  abs : mg "abs" = none
  all : mg "all" = none
  any : mg "any" = none
  bool : mg "bool" = none
  dict : mg "dict" = none
  divmod : mg "divmod" = none
  enumerate : mg "enumerate" = none
  int : mg "int" = none
  isinstance : mg "isinstance" = none
  len : mg "len" = none
  list : mg "list" = none
  max : mg "max" = none
  min : mg "min" = none
  range : mg "range" = none
  repr : mg "repr" = none
  set : mg "set" = none
  sorted : mg "sorted" = none
  str : mg "str" = none
  sum : mg "sum" = none
  tuple : mg "tuple" = none
  zip : mg "zip" = none
theorem bt_abs : bootBuiltins "abs" = some (.builtin "abs") := by decide +kernel
theorem bt_all : bootBuiltins "all" = some (.builtin "all") := by decide +kernel
theorem bt_bool : bootBuiltins "bool" = some (.type "bool") := by decide +kernel
theorem bt_divmod : bootBuiltins "divmod" = some (.builtin "divmod") := by decide +kernel
theorem bt_int : bootBuiltins "int" = some (.type "int") := by decide +kernel
theorem bt_isinstance : bootBuiltins "isinstance" = some (.builtin "isinstance") := by decide +kernel
theorem bt_len : bootBuiltins "len" = some (.builtin "len") := by decide +kernel
theorem bt_max : bootBuiltins "max" = some (.builtin "max") := by decide +kernel
theorem bt_min : bootBuiltins "min" = some (.builtin "min") := by decide +kernel
theorem bt_repr : bootBuiltins "repr" = some (.builtin "repr") := by decide +kernel
theorem bt_sorted : bootBuiltins "sorted" = some (.builtin "sorted") := by decide +kernel
theorem bt_sum : bootBuiltins "sum" = some (.builtin "sum") := by decide +kernel
theorem bt_tuple : bootBuiltins "tuple" = some (.type "tuple") := by decide +kernel
end Gx

/-! Gx, part 9: the law's own call, at the program's end. -/
namespace Gx
open PySem PySem.Spec PyProof.Rows L2
section
variable {P : Program} {w : World} {K : PySem.W.Frag} {mg : Str → Option Value} {base : Heap}
/-- the def that a name of the module stands for -/
theorem has_mk {x : Str} {st : Stmt} {f : Addr} {fd : FuncData} {ps : List Str} {γ : OL} {j k : Nat} (F : Fun K x x st f fd) (hm : mg x = some (.ref f)) (hb : Binds K fd ps []) (G : GFn P w K mg base j f fd ps γ) (hjk : j ≤ k) : Has P w K mg base k x f fd ps γ :=
  ⟨G.mono hjk, hm, F.kp, hb⟩
end
end Gx

/-! Gx, part 10: further calls: the greatest and the least of a list, sorted, index, extend, pop. -/
namespace Gx
open PySem PySem.Spec PyProof.Rows L2
section
variable {X : Cx}
/-- the greatest of some ints -/
def cMaxL : OL := fun ds S R => match ds with
  | [d] => (match lstInts S d with
    | some ns => ns ≠ [] ∧ ∀ m, m ∈ ns → (∀ y, y ∈ ns → y ≤ m) → R (.int m) S
    | none => False)
  | _ => False
def cMinL : OL := fun ds S R => match ds with
  | [d] => (match lstInts S d with
    | some ns => ns ≠ [] ∧ ∀ m, m ∈ ns → (∀ y, y ∈ ns → m ≤ y) → R (.int m) S
    | none => False)
  | _ => False
theorem c_minL (hc : X.calm = true) : GC X (.builtin "min") cMinL := fun pins s σ H vs us Q I r ⟨ds, S, F, R, w, r1, q, l⟩ => by
  refine cr_min hc pins s σ H vs us Q I r ?_
  unfold cMinL at q
  split at q
  · obtain ⟨x, _, rfl, rx, rfl⟩ := r1
    split at q
    · rename_i es he
      obtain ⟨a, rfl, hx⟩ := ints_view w rx he
      exact ⟨a, _, rfl, hx, List.length_pos_iff.mpr q.1, fun m h1 h2 => l _ _ _ _ (q.2 m h1 h2) (Aft.refl w) rfl⟩
    · exact q.elim
  · exact q.elim
/-- sorted ints -/
def cSortedI : OL := fun ds S R => match ds with
  | [d] => (match lstInts S d with
    | some ns => ∀ ns' : List Int, ns'.Perm ns → ns'.Pairwise (· ≤ ·) → R (.lst (ns'.map .int)) S
    | none => False)
  | _ => False
/-- where a thing first stands -/
def mIndex : D → OL := fun d ds S R => match rs S d, ds with
  | .lst xs, [y] => (pl 60 (.lst xs) = true ∧ pl 60 (rs S y) = true) ∧ ∃ (j : Nat) (z : D), xs[j]? = some z ∧ eqD z (rs S y) = true ∧ (∀ m z', m < j → xs[m]? = some z' → eqD z' (rs S y) = false) ∧ R (.int j) S
  | _, _ => False
theorem pyDL_get : ∀ {ds : List D} {i : Nat}, (pyDL ds)[i]? = (ds[i]?).map pyD
  | [], _ => rfl
  | d :: ds, 0 => rfl
  | d :: ds, i + 1 => by
    show (pyDL ds)[i]? = _
    rw [pyDL_get]; rfl
theorem m_index (hu : X.A.units + 65 < cLine) : GM X "list.index" mIndex := fun pins s σ H x xs v us Q I rx rv ⟨d, ds, S, F, R, w, r1, r2, q, l⟩ => by
  refine mt_indexD hu pins s σ H x xs v us Q I rx rv ?_
  unfold mIndex at q
  split at q
  · rename_i es y he
    obtain ⟨u, _, rfl, ru, rfl⟩ := r2
    obtain ⟨⟨p1, p2⟩, j, z, hz, e, no, q⟩ := q
    have d1 := dp_rs w r1 (by rw [he]; exact p1)
    have d2 := dp_rs w ru p2
    rw [he] at d1
    obtain ⟨a, zs, rfl, _⟩ := rs_lst w r1 he
    refine ⟨a, u, _, pyDL es, j, pyD z, rfl, rfl, d1, d2, pl_shaped p1, pl_shaped p2, by rw [pyDL_get, hz]; rfl, e, fun m z' hm hz' => ?_, l _ _ _ _ q (Aft.refl w) rfl⟩
    rw [pyDL_get] at hz'
    obtain ⟨z2, h2, rfl⟩ := Option.map_eq_some_iff.mp hz'
    exact no m z2 hm h2
  · exact q.elim
end
end Gx

/-! Gx, part 11: comprehensions with two sources. -/
namespace Gx
open PySem PySem.Spec PyProof.Rows L2
section
variable {K : PySem.W.Frag} {ti ti1 : IT'} {g g1 : TG'} {tt tt1 : TT'} {te : ET} {vs vs1 : List Nat}
end
section
variable {X : Cx} {ti ti1 : IT'} {g g1 : TG'} {tt tt1 : TT'} {te : ET} {elt tg iter tg1 iter1 : Expr} {ifs ifs1 : List Expr} {scope : Scope} {own : List (Str × Nat)} {vs1 : List Nat} {pos spos py : Pos}
end
end Gx

/-! G12: zip of a tuple and a list, and of a list and a tuple (a side: true for a tuple, false for a list). -/
namespace Gx
open PySem L2
open PySem.Sem (wp)
/-- what stands at an address: a tuple, or a list -/
def SideAt (t : Bool) (h : Heap) (l : Addr) (xs : Array Value) : Prop := if t then h.IsTuple l xs else h.IsList l xs
def TurnAt (t : Bool) (h : Heap) (a l : Addr) (i : Nat) : Prop := if t then h.IsTupleIter a l i else h.IsListIter a l i
theorem SideAt.ext {t : Bool} {h h' : Heap} {a b items} (x : SideAt t h a items) (hs : Heap.ExtBut b h h') (hab : a ≠ b) : SideAt t h' a items := by
  cases t
  · exact Heap.IsList.extBut (show h.IsList a items from x) hs hab
  · exact Heap.IsTuple.extBut (show h.IsTuple a items from x) hs hab
theorem TurnAt.ext {t : Bool} {h h' : Heap} {a b l i} (x : TurnAt t h a l i) (hs : Heap.ExtBut b h h') (hab : a ≠ b) : TurnAt t h' a l i := by
  cases t
  · exact Heap.IsListIter.extBut (show h.IsListIter a l i from x) hs hab
  · exact Heap.IsTupleIter.extBut (show h.IsTupleIter a l i from x) hs hab
theorem TurnAt.at {t : Bool} {h h' : Heap} {a l i} (x : TurnAt t h a l i) (e : ∀ o, h.get? a = some o → h'.get? a = some o) : TurnAt t h' a l i := by
  cases t
  · exact Heap.IsListIter.at (show h.IsListIter a l i from x) e
  · exact Heap.IsTupleIter.at (show h.IsTupleIter a l i from x) e
theorem TurnAt.lt {t : Bool} {h : Heap} {a l i} (x : TurnAt t h a l i) : a < h.objs.size := by
  cases t
  · obtain ⟨_, e, _⟩ := (show h.IsListIter a l i from x); exact Heap.lt_size e
  · obtain ⟨_, e, _⟩ := (show h.IsTupleIter a l i from x); exact Heap.lt_size e
section
variable {prog : Program} {w : World} {A : Around} {E : Value → Shared → Prop} {s : Shared}
end
section
variable {prog : Program} {w : World} {A : Around} {E : Value → Shared → Prop} {s : Shared}
end
end Gx

/-! G13: zip of a tuple and a list, over data. -/
namespace Gx
open PySem PySem.Spec PyProof.Rows L2
section
variable {X : Cx} {pins : List (Addr × Obj)} {σ : L2.St} {H : Hp} {s : Shared} {a : Addr} {xs ys : List V}
end
theorem TurnAt.obj {t : Bool} {h : Heap} {a l i} (x : TurnAt t h a l i) : ∃ o, h.get? a = some o ∧ o.data = .fields #[.ref l, .int i 0] := by
  cases t
  · obtain ⟨o, e, _, d⟩ := (show h.IsListIter a l i from x); exact ⟨o, e, d⟩
  · obtain ⟨o, e, _, d⟩ := (show h.IsTupleIter a l i from x); exact ⟨o, e, d⟩
theorem SideAt.lt {t : Bool} {h : Heap} {a xs} (x : SideAt t h a xs) : a < h.objs.size := by
  cases t
  · obtain ⟨o, e, _⟩ := (show h.IsList a xs from x); exact Heap.lt_size e
  · obtain ⟨o, e, _⟩ := (show h.IsTuple a xs from x); exact Heap.lt_size e
section
variable {K : PySem.W.Frag} {S F : Sto} {H : Hp}
end
/-- zip of two, each a list or a tuple -/
def iZip2G (u : AT) : IT' := fun τ S Z => u τ S fun ds S1 => match ds with
  | [d, e] => seqG S1 (fun ds g S => seqG S (fun es g' S => Z (zipD ds es) (fun S' => g S' ∧ g' S') S) e) d
  | _ => False
end Gx

/-! Gx, part 14: dicts, by address. -/
namespace Gx
open PySem PySem.Spec PyProof.Rows L2

/-! ### keys, entries -/
def keyD : Key → D
  | .inl i => .int i
  | .inr x => .str x
def keyOf : D → Option Key
  | .int i => some (.inl i)
  | .str x => some (.inr x)
  | _ => none
def valD {κ : Type} [DecidableEq κ] (kvs : List (κ × D)) (k : κ) : Option D := (kvs.find? fun kv => decide (kv.1 = k)).map (·.2)
def putD {κ : Type} [DecidableEq κ] (kvs : List (κ × D)) (k : κ) (d : D) : List (κ × D) :=
  if (kvs.any fun kv => decide (kv.1 = k)) = true then kvs.map fun kv => if kv.1 = k then (kv.1, d) else kv else kvs ++ [(k, d)]
/-- the entries of a dict, changing or no more -/
def dctAt (S : Sto) : D → Option (List (Key × D))
  | .ref p => (match S p with
    | some (.dK kvs) => some kvs
    | some (.dF _ _ kvs) => some kvs
    | _ => none)
  | _ => none
section
variable {K : PySem.W.Frag} {T : Sto} {H : Hp} {S F : Sto}
variable {κ : Type} [DecidableEq κ]
/-- entries stand for entries -/
def Ent (K : PySem.W.Frag) (T : Sto) (H : Hp) (kvs : List (κ × D)) (ks : List (κ × V)) : Prop := ks.map (·.1) = kvs.map (·.1) ∧ RpL K T H (kvs.map (·.2)) (ks.map (·.2))
theorem Ent.nil : Ent K T H ([] : List (κ × D)) ([] : List (κ × V)) := ⟨rfl, rfl⟩
theorem Ent.cases {kv : κ × D} {kvs : List (κ × D)} {ks : List (κ × V)} (h : Ent K T H (kv :: kvs) ks) : ∃ v ks', ks = (kv.1, v) :: ks' ∧ Rp K T H kv.2 v ∧ Ent K T H kvs ks' := by
  obtain ⟨h1, h2⟩ := h
  cases ks with
  | nil => cases h1
  | cons u ks =>
    obtain ⟨x, r, e, rx, rr⟩ := h2
    rw [List.map_cons, List.map_cons] at h1
    injection h1 with h1 h3
    rw [List.map_cons] at e
    injection e with e1 e2
    subst e1 e2
    refine ⟨u.2, ks, ?_, rx, h3, rr⟩
    rw [← h1]
theorem Ent.cons {k : κ} {d : D} {v : V} {kvs : List (κ × D)} {ks : List (κ × V)} (r : Rp K T H d v) (h : Ent K T H kvs ks) : Ent K T H ((k, d) :: kvs) ((k, v) :: ks) :=
  ⟨by rw [List.map_cons, List.map_cons, h.1], ⟨_, _, rfl, r, h.2⟩⟩
theorem Ent.val : ∀ {kvs : List (κ × D)} {ks : List (κ × V)}, Ent K T H kvs ks → ∀ k, (valD kvs k = none ∧ valV ks k = none) ∨ ∃ d v, valD kvs k = some d ∧ valV ks k = some v ∧ Rp K T H d v
  | [], ks, h, k => by
    obtain ⟨h1, _⟩ := h
    cases ks with
    | nil => exact .inl ⟨rfl, rfl⟩
    | cons u ks => cases h1
  | kv :: kvs, ks, h, k => by
    obtain ⟨v, ks', rfl, r, h'⟩ := h.cases
    by_cases z : kv.1 = k
    · exact .inr ⟨kv.2, v, by unfold valD; rw [List.find?_cons_of_pos (by simpa using z)]; rfl, by unfold valV; rw [List.find?_cons_of_pos (by simpa using z)]; rfl, r⟩
    · have e1 : valD (kv :: kvs) k = valD kvs k := by unfold valD; rw [List.find?_cons_of_neg (by simpa using z)]
      have e2 : valV ((kv.1, v) :: ks') k = valV ks' k := by unfold valV; rw [List.find?_cons_of_neg (by simpa using z)]
      rw [e1, e2]
      exact Ent.val h' k
theorem Ent.anyK {k : κ} {ks : List (κ × V)} {kvs : List (κ × D)} (h : Ent K T H kvs ks) : (ks.any fun kv => decide (kv.1 = k)) = kvs.any fun kv => decide (kv.1 = k) := by
  have e1 : (ks.any fun kv => decide (kv.1 = k)) = (ks.map (·.1)).any fun x => decide (x = k) := by rw [List.any_map]; rfl
  have e2 : (kvs.any fun kv => decide (kv.1 = k)) = (kvs.map (·.1)).any fun x => decide (x = k) := by rw [List.any_map]; rfl
  rw [e1, e2, h.1]
theorem Ent.app : ∀ {kvs kvs' : List (κ × D)} {ks ks' : List (κ × V)}, Ent K T H kvs ks → Ent K T H kvs' ks' → Ent K T H (kvs ++ kvs') (ks ++ ks') := fun h h' =>
  ⟨by rw [List.map_append, List.map_append, h.1, h'.1], by rw [List.map_append, List.map_append]; exact RpL.app h.2 h'.2⟩
theorem Ent.sub {k : κ} {d : D} {v : V} (r : Rp K T H d v) : ∀ {kvs : List (κ × D)} {ks : List (κ × V)}, Ent K T H kvs ks → Ent K T H (kvs.map fun kv => if kv.1 = k then (kv.1, d) else kv) (ks.map fun kv => if kv.1 = k then (kv.1, v) else kv)
  | [], ks, h => by
    obtain ⟨h1, _⟩ := h
    cases ks with
    | nil => exact .nil
    | cons u ks => cases h1
  | kv :: kvs, ks, h => by
    obtain ⟨u, ks', rfl, ru, h'⟩ := h.cases
    rw [List.map_cons, List.map_cons]
    by_cases z : kv.1 = k
    · rw [if_pos z, if_pos z]
      exact .cons r (Ent.sub r h')
    · rw [if_neg z, if_neg z]
      exact .cons ru (Ent.sub r h')
theorem Ent.put {k : κ} {d : D} {v : V} (r : Rp K T H d v) {kvs : List (κ × D)} {ks : List (κ × V)} (h : Ent K T H kvs ks) : Ent K T H (putD kvs k d) (putK ks k v) := by
  unfold putD putK
  rw [h.anyK]
  split
  · exact Ent.sub r h
  · exact h.app (.cons r .nil)
theorem Ent.length {kvs : List (κ × D)} {ks : List (κ × V)} (h : Ent K T H kvs ks) : ks.length = kvs.length := by
  have := congrArg List.length h.1
  rw [List.length_map, List.length_map] at this
  exact this
theorem Ent.ev {T' : Sto} {H' : Hp} (o : Ok K T H) (ev : Ev T H T' H') {kvs : List (κ × D)} {ks : List (κ × V)} (h : Ent K T H kvs ks) : Ent K T' H' kvs ks := ⟨h.1, RpL.ev o ev h.2⟩
end

section
variable {X : Cx} {e a b : Expr} {t ta tb : ET} {pos : Pos}
/-! ### displays -/
def eDic0 : ET := fun _ S Q => ∀ p, S p = none → Q (.ref p) (up S p (.dK []))
/-- one entry -/
def eDic1 (ta tb : ET) : ET := fun τ S Q => ∀ p, S p = none → ta τ (up S p (.dK [])) fun d S1 => tb τ S1 fun e S2 => S2 p = some (.dK []) ∧ match keyOf d with
  | some k => Q (.ref p) (up S2 p (.dK [(k, e)]))
  | none => False
/-! ### d[k], k in d, d[k] = v -/
def oDix : O2 := fun d e S R => match dctAt S d, keyOf e with
  | some kvs, some k => (match valD kvs k with
    | some x => R x S
    | none => False)
  | _, _ => False
theorem Rd.get {H : Hp} {a : Addr} {ks : List (Key × V)} {k : Key} (h : Rd H a (.dK ks)) : DGet H a (kV k) (valV ks k) := .inl ⟨ks, k, h, rfl, rfl⟩
def oDin : O2 := fun e d S R => match dctAt S d, keyOf e with
  | some kvs, some k => R (.bl (valD kvs k).isSome) S
  | _, _ => False
def oDnin : O2 := fun e d S R => match dctAt S d, keyOf e with
  | some kvs, some k => R (.bl (!(valD kvs k).isSome)) S
  | _, _ => False
def oDset : OSet := fun d e f S R => match d, keyOf e with
  | .ref p, some k => (match S p with
    | some (.dK kvs) => kvs.length < sizeLine ∧ R (up S p (.dK (putD kvs k f)))
    | _ => False)
  | _, _ => False
/-! ### for k in d: behind it the dict changes no more -/
def keysG (S : Sto) (Z : List D → (Sto → Prop) → Sto → Prop) : D → Prop
  | .ref p => match S p with
    | some (.dK kvs) => ∀ od ks, Z (kvs.map fun kv => keyD kv.1) (fun S' => S' p = some (.dF od ks kvs)) (up S p (.dF od ks kvs))
    | some (.dF od ks kvs) => Z (kvs.map fun kv => keyD kv.1) (fun S' => S' p = some (.dF od ks kvs)) S
    | _ => False
  | _ => False
def iKeysG (te : ET) : IT' := fun τ S Z => te τ S fun d S1 => keysG S1 Z d
/-! ### sorted(d), list(d), len(d); also of lists -/
def intKeys : List (Key × D) → Option (List Int)
  | [] => some []
  | (.inl i, _) :: kvs => (intKeys kvs).map (i :: ·)
  | _ => none
def cSortedE : OL := fun ds S R => match ds with
  | [d] => (match dctAt S d with
    | some kvs => (match intKeys kvs with
      | some ns => ns.length < 64 ∧ ∀ ns' : List Int, ns'.Perm ns → ns'.Pairwise (· ≤ ·) → R (.lst (ns'.map .int)) S
      | none => False)
    | none => cSortedI [d] S R)
  | _ => False
def cListD : OL := fun ds S R => match ds with
  | [d] => (match dctAt S d with
    | some kvs => R (.lst (kvs.map fun kv => keyD kv.1)) S
    | none => False)
  | _ => False
end
end Gx

/-! Gx, part 15: a tuple times a number from 1 on. -/
namespace Gx
open PySem PySem.Spec PyProof.Rows L2
section
variable {X : Cx}
/-- (..) * k -/
def oMulT : O2 := fun d e S R => match d, e with
  | .tup xs, .int k => (1 ≤ k ∧ k ≤ 1000 ∧ 1 ≤ xs.length ∧ xs.length ≤ 1000) ∧ R (.tup (List.replicate k.toNat xs).flatten) S
  | _, _ => False
end
end Gx

/-! Gx, part 16: a truth value less another one; dicts with keys that are tuples; sorted pairs. -/
namespace Gx
open PySem PySem.Spec PyProof.Rows L2
def bi (b : Bool) : Int := if b = true then 1 else 0
section
variable {X : Cx}
def oSubB : O2 := fun d e S R => match d, e with
  | .bl a, .bl b => R (.int (bi a - bi b)) S
  | _, _ => False
/-! ### dicts with keys that are tuples -/
def keysOf : List D → Option (List Key)
  | [] => some []
  | d :: ds => match keyOf d, keysOf ds with
    | some k, some ks => some (k :: ks)
    | _, _ => none
def dctT (S : Sto) : D → Option (List (List Key × D))
  | .ref p => (match S p with
    | some (.dT kvs) => some kvs
    | _ => none)
  | _ => none
end
section
variable {K : PySem.W.Frag} {T : Sto} {H : Hp} {S F : Sto}
theorem RpL.perm : ∀ {xs ys : List V}, xs.Perm ys → ∀ {ds : List D}, RpL K T H ds xs → ∃ es, es.Perm ds ∧ RpL K T H es ys := by
  intro xs ys h
  induction h with
  | nil =>
    intro ds r
    exact ⟨ds, .refl _, r⟩
  | cons x h ih =>
    intro ds r
    cases ds with
    | nil => cases r
    | cons d ds =>
      obtain ⟨y, r', e, ry, rr⟩ := r
      injection e with e1 e2
      subst e1 e2
      obtain ⟨es, p, q⟩ := ih rr
      exact ⟨d :: es, p.cons d, _, _, rfl, ry, q⟩
  | swap x y l =>
    intro ds r
    cases ds with
    | nil => cases r
    | cons d ds =>
      obtain ⟨y', r', e, ry, rr⟩ := r
      injection e with e1 e2
      subst e1 e2
      cases ds with
      | nil => cases rr
      | cons d' ds =>
        obtain ⟨x', r'', e, rx, rr⟩ := rr
        injection e with e1 e2
        subst e1 e2
        exact ⟨d' :: d :: ds, .swap d d' ds, _, _, rfl, rx, _, _, rfl, ry, rr⟩
  | trans h1 h2 ih1 ih2 =>
    intro ds r
    obtain ⟨es, p, q⟩ := ih1 r
    obtain ⟨fs, p', q'⟩ := ih2 q
    exact ⟨fs, p'.trans p, q'⟩
end
section
variable {X : Cx} {a b : Expr} {ta tb : ET} {pos p2 : Pos} {es : List Expr} {u : AT} {n : Nat}
def eDicT0 : ET := fun _ S Q => ∀ p, S p = none → Q (.ref p) (up S p (.dT []))
/-- d[i, j] -/
def eDixT (ta : ET) (u : AT) : ET := fun τ S Q => ta τ S fun d S1 => u τ S1 fun ds S2 => ds.length ≤ sizeLine ∧ match dctT S2 d, keysOf ds with
  | some kvs, some ks => (match valD kvs ks with
    | some x => Q x S2
    | none => False)
  | _, _ => False
/-- d[i, j] = v -/
def gSubsT (ta : ET) (u : AT) : TG' := fun f τ S Q => ta τ S fun d S1 => u τ S1 fun ds S2 => ds.length ≤ sizeLine ∧ match d, keysOf ds with
  | .ref p, some ks => (match S2 p with
    | some (.dT kvs) => kvs.length < sizeLine ∧ Q τ (up S2 p (.dT (putD kvs ks f)))
    | _ => False)
  | _, _ => False
/-- list(d) -/
def cListT : OL := fun ds S R => match ds with
  | [d] => (match dctT S d with
    | some kvs => R (.lst (kvs.map fun kv => .tup (kv.1.map keyD))) S
    | none => False)
  | _ => False
/-! ### sorted pairs -/
def pairD (p : Int × Int) : D := .tup [.int p.1, .int p.2]
def pairsOf : List D → Option (List (Int × Int))
  | [] => some []
  | .tup [.int i, .int j] :: ds => (pairsOf ds).map ((i, j) :: ·)
  | _ => none
def leP (p q : Int × Int) : Prop := p.1 < q.1 ∨ (p.1 = q.1 ∧ p.2 ≤ q.2)
/-- sorted(xs), xs pairs of numbers from 0 on, below 1000 -/
def cSortedP : OL := fun ds S R => match ds with
  | [d] => (match rs S d with
    | .lst es => (match pairsOf es with
      | some ps => (ps.length < 64 ∧ ∀ p ∈ ps, (0 ≤ p.1 ∧ p.1 < 1000) ∧ 0 ≤ p.2 ∧ p.2 < 1000) ∧ ∀ qs : List (Int × Int), qs.Perm ps → qs.Pairwise leP → R (.lst (qs.map pairD)) S
      | none => False)
    | _ => False)
  | _ => False
end
end Gx

/-! Gx, part 17: stars in displays; list(range(..)). -/
namespace Gx
open PySem PySem.Spec PyProof.Rows L2
section
variable {X : Cx} {e a : Expr} {es : List Expr} {t : ET} {u : AT} {p pos : Pos}
/-- *e ahead of others -/
def aStar (t : ET) (u : AT) : AT := fun τ S Q => t τ S fun d S1 => match itemsOf (rs S1 d) with
  | some xs => u τ S1 fun ys S2 => Q (xs ++ ys) S2
  | none => False
/-- list(range(n)) -/
def eLstRg (t : ET) : ET := fun τ S Q => t τ S fun d S1 => match d with
  | .int n => (0 ≤ n ∧ n ≤ 1000) ∧ Q (.lst ((List.range n.toNat).map fun i : Nat => D.int (i : Int))) S1
  | _ => False
end
end Gx

set_option maxHeartbeats 8000000
/-! Gx, part 18: how many unlike ones there are among tuples of whole numbers: len(set(x)), x a tuple of them. -/
namespace Gx
open PySem PySem.Spec PyProof.Rows L2
section
variable {P : Program} {w : World} {A : Around} {E : Value → Shared → Prop} {s : Shared}
end
section
variable {X : Cx}
def eLenT (t : ET) : ET := fun τ S Q => t τ S fun d S1 => ∃ nss : List (List Int), d = .tup (nss.map fun ns => .tup (ns.map .int)) ∧ (nss.length < 64 ∧ nss.Nodup) ∧ Q (.int (nss.length : Nat)) S1
end
end Gx

/-! Gx, part 19: sorted(set(x)), x a list of whole numbers; sorted(x), x a list of tuples of whole numbers of unlike lengths. -/
namespace Gx
open PySem PySem.Spec PyProof.Rows L2
section
variable {P : Program} {w : World} {A : Around} {E : Value → Shared → Prop} {s : Shared}
end
section
variable {X : Cx}
def eSortSet (t : ET) : ET := fun τ S Q => t τ S fun d S1 => ∃ ns : List Int, lstInts S1 d = some ns ∧ ns.length < 64 ∧ ∀ out : List Int, out.Pairwise (· < ·) → (∀ k, k ∈ out ↔ k ∈ ns) → Q (.lst (out.map .int)) S1
end

/-! ### tuples of unlike lengths -/
section
variable {prog : Program} {w : World} {A : Around} {E : Value → Shared → Prop} {s : Shared} {Q : Bool → Shared → Prop}
end
/-- tuples of one number or more -/
def TupsUn (h : Heap) (L : Nat) (B : Int) (vs : List Value) : Prop := ∀ v, v ∈ vs → ∃ ns, TS.TupInts h v ns ∧ (ns ≠ [] ∨ vs.length ≤ 1) ∧ ns.length ≤ L ∧ TS.Bd B ns
theorem TupsUn.keeps {h h' : Heap} {L : Nat} {B : Int} {vs : List Value} (x : TupsUn h L B vs) (k : ∀ b o, h.get? b = some o → o.cls = .type "tuple" → h'.get? b = some o) : TupsUn h' L B vs := fun v hv =>
  have ⟨ns, t, r⟩ := x v hv
  ⟨ns, t.keeps k, r⟩
section
variable {prog : Program} {w : World} {A : Around} {E : Value → Shared → Prop} {s : Shared}
end
section
variable {X : Cx}
end
end Gx

/-! Gx, part 20: whole numbers as tests. -/
namespace Gx
open PySem PySem.Spec PyProof.Rows L2
section
variable {X : Cx} {e : Expr} {t : ET}
def tBi (t : ET) : TT' := fun τ S Q => t τ S fun d S1 => match d with
  | .int i => Q (decide (i ≠ 0)) S1
  | _ => False
end
end Gx

/-! Gx, part 21: is True, is False. -/
namespace Gx
open PySem PySem.Spec PyProof.Rows L2
section
variable {X : Cx}
def oIsB : O2 := fun d e S R => match d, e with
  | .bl b, .bl c => R (.bl (decide (b = c))) S
  | _, _ => False
end
end Gx

/-! Gx, part 22: the sum of a tuple of whole numbers. -/
namespace Gx
open PySem PySem.Spec PyProof.Rows L2
section
variable {prog : Program} {w : World} {A : Around} {E : Value → Shared → Prop} {s : Shared} {l : Addr} {xs : Array (Int × Tok)}
end
section
variable {X : Cx}
/-- sum(x), x a tuple of whole numbers -/
def cSumT : OL := fun ds S R => match ds with
  | [.tup es] => (match intsOf es with
    | some ns => R (.int ns.sum) S
    | none => False)
  | _ => False
end
end Gx

/-! Gx, part 23: x.bit_length(). -/
namespace Gx
open PySem PySem.Spec PyProof.Rows L2
section
variable {X : Cx} {o : Expr} {t : ET}
def eBits (t : ET) : ET := fun τ S Q => t τ S fun d S1 => match d with
  | .int i => Q (.int (Builtin.Int.intBits i : Nat)) S1
  | _ => False
end
end Gx

/-! Gx, part 24: len(set(x)), x a list of unlike whole numbers. -/
namespace Gx
open PySem PySem.Spec PyProof.Rows L2
section
variable {X : Cx}
def eLenI (t : ET) : ET := fun τ S Q => t τ S fun d S1 => ∃ ns : List Int, lstInts S1 d = some ns ∧ (ns.length < 64 ∧ ns.Nodup) ∧ Q (.int (ns.length : Nat)) S1
end
end Gx

/-! Gx, part 25: x[::-1]. -/
namespace Gx
open PySem PySem.Spec PyProof.Rows L2
section
variable {prog : Program} {w : World} {A : Around} {E : Value → Shared → Prop} {s : Shared}
end
section
variable {X : Cx} {e st : Expr} {te ts : TE} {t : ET} {p2 pos : Pos}
def eRev (t : ET) : ET := fun τ S Q => t τ S fun d S1 => match rs S1 d with
  | .tup ds => Q (.tup ds.reverse) S1
  | .lst ds => Q (.lst ds.reverse) S1
  | _ => False
end
end Gx

/-! Gx, part 26: isinstance of dicts too. -/
namespace Gx
open PySem PySem.Spec PyProof.Rows L2
section
variable {X : Cx}
end
end Gx

/-! G27: zip's next where the tuple handed out ahead is still held (list(zip(..)), tuple(zip(..)), enumerate(zip(..))). -/
namespace Gx
open PySem L2
open PySem.Sem (wp)
section
variable {prog : Program} {w : World} {A : Around} {E : Value → Shared → Prop} {s : Shared}
/-- a zip's record, its first two fields told -/
abbrev IsZipF (h : Heap) (z TI TO : Addr) (x0 : Value) (f : Bool) : Prop :=
  h.get? z = some { cls := .type "zip", dict := none, data := .fields #[x0, .bool f, .bool false, .ref TI, .ref TO], slots := #[] }
/-- a zip at a turn -/
structure ZipAt (t1 t2 : Bool) (h : Heap) (z TI TO i1 i2 l1 l2 : Addr) (k : Nat) : Prop where
  zs : IsZip h z TI TO .none ∨ ∃ (W : Addr) (f : Bool), IsZipF h z TI TO (rawInt W) f
  ti : IsPair h TI (.ref i1) (.ref i2)
  to : ∃ a b, IsPair h TO a b
  ia : TurnAt t1 h i1 l1 k
  ib : TurnAt t2 h i2 l2 k
/-- its own cells are kept -/
theorem ZipAt.at {t1 t2 : Bool} {h h' : Heap} {z TI TO i1 i2 l1 l2 : Addr} {k : Nat} (Z : ZipAt t1 t2 h z TI TO i1 i2 l1 l2 k) (kp : ∀ c ∈ [z, TI, TO, i1, i2], ∀ o, h.get? c = some o → h'.get? c = some o) : ZipAt t1 t2 h' z TI TO i1 i2 l1 l2 k := by
  obtain ⟨zs, ti, ⟨a, b, to⟩, ia, ib⟩ := Z
  refine ⟨?_, kp _ (by simp) _ ti, ⟨a, b, kp _ (by simp) _ to⟩, ia.at fun o e => kp _ (by simp) o e, ib.at fun o e => kp _ (by simp) o e⟩
  rcases zs with q | ⟨W, f, q⟩
  · exact .inl (kp _ (by simp) _ q)
  · exact .inr ⟨W, f, kp _ (by simp) _ q⟩
/-- all is kept but what stands at n -/
theorem ZipAt.but {t1 t2 : Bool} {h h' : Heap} {z TI TO i1 i2 l1 l2 n : Addr} {k : Nat} (Z : ZipAt t1 t2 h z TI TO i1 i2 l1 l2 k) (nz : z ≠ n) (nI : TI ≠ n) (nO : TO ≠ n) (n1 : i1 ≠ n) (n2 : i2 ≠ n)
    (kp : ∀ c o, c ≠ n → h.get? c = some o → h'.get? c = some o) : ZipAt t1 t2 h' z TI TO i1 i2 l1 l2 k := Z.at fun c hc o e => by
  have e' : c = z ∨ c = TI ∨ c = TO ∨ c = i1 ∨ c = i2 := by simpa using hc
  refine kp c o ?_ e
  rcases e' with q | q | q | q | q
  · rw [q]; exact nz
  · rw [q]; exact nI
  · rw [q]; exact nO
  · rw [q]; exact n1
  · rw [q]; exact n2
end
end Gx

/-! G28: list(zip(..)), tuple(zip(..)). -/
namespace Gx
open PySem PySem.Spec PyProof.Rows L2
/-- new pairs laid, one behind the other -/
inductive Laid : Hp → List (V × V) → List Addr → Hp → Prop
  | nil {H : Hp} : Laid H [] [] H
  | snoc {H H' : Hp} {l : List (V × V)} {ts : List Addr} {x y : V} {T : Addr} : Laid H l ts H' → H' T = none → Laid H (l ++ [(x, y)]) (ts ++ [T]) (upd H' T (.tup [x, y]))
theorem Laid.len {H H' : Hp} {l : List (V × V)} {ts : List Addr} (h : Laid H l ts H') : ts.length = l.length := by
  induction h with
  | nil => rfl
  | snoc _ _ ih => rw [List.length_append, List.length_append, ih]; rfl
theorem SideAt.but {t : Bool} {h h' : Heap} {a : Addr} {xs : Array Value} (x : SideAt t h a xs) (e : ∀ o, h.get? a = some o → h'.get? a = some o) : SideAt t h' a xs := by
  cases t
  · exact Heap.IsList.at (show h.IsList a xs from x) e
  · obtain ⟨o, q, r⟩ := (show h.IsTuple a xs from x); exact ⟨o, e o q, r⟩
section
variable {X : Cx} {pins : List (Addr × Obj)} {σ : L2.St} {t1 t2 : Bool} {its1 its2 : List Value} {xs ys : List V} {l1 l2 z TI TO i1 i2 n : Addr}
end
end Gx

/-! G29: list(zip(..)) and tuple(zip(..)) as expressions. -/
namespace Gx
open PySem PySem.Spec PyProof.Rows L2
section
variable {X : Cx} {pins : List (Addr × Obj)} {σ : L2.St} {t u : Bool} {xs ys : List V} {a b : Addr} {H : Hp} {s : Shared}
end
end Gx

/-! G30: list(zip(..)), tuple(zip(..)) over data. -/
namespace Gx
open PySem PySem.Spec PyProof.Rows L2
section
variable {X : Cx} {e e2 : Expr} {ta : TA} {p p2 pos q : Pos}
end
section
variable {K : PySem.W.Frag} {S F : Sto}
end
/-- list(zip(a, b)), tuple(zip(a, b)) -/
def eZ (o : List D → D) (u : AT) : ET := fun τ S Q => u τ S fun ds S1 => match ds with
  | [d, e] => (match itemsOf (rs S1 d), itemsOf (rs S1 e) with
    | some xs, some ys => (xs.length ≤ 1000 ∧ ys.length ≤ 1000) ∧ Q (o (zipD xs ys)) S1
    | _, _ => False)
  | _ => False
def eLZ (u : AT) : ET := eZ .lst u
def eTZ (u : AT) : ET := eZ .tup u
section
variable {X : Cx} {e e2 : Expr} {u : AT} {p p2 pos q : Pos}
end
end Gx

/-! G31: enumerate(zip(..)). -/
namespace Gx
open PySem PySem.Spec PyProof.Rows L2
open PySem.Sem (wp)
section
variable {prog : Program} {w : World} {A : Around} {E : Value → Shared → Prop} {s : Shared}
end
end Gx

/-! G32: a walk over enumerate(zip(..)). -/
namespace Gx
open PySem PySem.Spec PyProof.Rows L2
section
variable {K : PySem.W.Frag} {S F : Sto} {H : Hp}
end
/-- enumerate(zip(a, b)) -/
def iEnZG (u : AT) : IT' := fun τ S Z => u τ S fun ds S1 => match ds with
  | [d, e] => seqG S1 (fun ds g S => seqG S (fun es g' S => Z (enumD 0 (zipD ds es)) (fun S' => g S' ∧ g' S') S) e) d
  | _ => False
end Gx

/-! G33: list.pop; ranges as values. -/
namespace Gx
open PySem PySem.Spec PyProof.Rows L2
section
variable {X : Cx}
def mPop : D → OL := fun d ds S R => match d, ds with
  | .ref p, [] => (match S p with
    | some (.lst xs) => ∃ y, xs[xs.length - 1]? = some y ∧ R y (up S p (.lst xs.dropLast))
    | _ => False)
  | _, _ => False
def mPopAt : D → OL := fun d ds S R => match d, ds with
  | .ref p, [.int i] => (match S p with
    | some (.lst xs) => ∃ k y, (-(2 ^ 63) ≤ i ∧ i < 2 ^ 63) ∧ seqIndex? i xs.length = some k ∧ xs[k]? = some y ∧ R y (up S p (.lst (xs.eraseIdx k)))
    | _ => False)
  | _, _ => False
/-! ### ranges as values -/
/-- range(n) as a value -/
def cRng : OL := fun ds S R => match ds with
  | [.int j] => R (.rng 0 j) S
  | _ => False
def cLenR : OL := fun ds S R => match ds with
  | [.rng lo hi] => (0 ≤ hi - lo ∧ hi - lo < 2 ^ 62) ∧ R (.int (hi - lo)) S
  | _ => False
/-- a walk over a range that is a value -/
def iRngV (te : ET) : IT' := fun τ S Z => te τ S fun d S1 => match d with
  | .rng lo hi => (-(2 ^ 62) ≤ lo ∧ lo < 2 ^ 62 ∧ -(2 ^ 62) ≤ hi ∧ hi < 2 ^ 62) ∧ Z (rngD lo (hi - lo).toNat) (fun _ => True) S1
  | _ => False
end
end Gx

/-! G34: dict comprehensions; len of a dict; a = b = e. -/
namespace Gx
open PySem PySem.Spec PyProof.Rows L2
/-- the turns of a dict comprehension -/
def dcmG (g : TG') (tt : TT') (tk tv : ET) (gd : Sto → Prop) (vs : List Nat) (τ : Tau) (Z : List (Key × D) → Sto → Prop) : List D → List (Key × D) → Sto → Prop
  | [], acc => fun S => gd S ∧ Z acc S
  | x :: xs, acc => fun S => gd S ∧ g x (wipeD τ vs) S fun τ2 S2 => tt τ2 S2 fun b S3 => if b = true then tk τ2 S3 fun y S4 => tv τ2 S4 fun z S5 => (match keyOf y with
      | some k => acc.length < sizeLine ∧ dcmG g tt tk tv gd vs τ Z xs (putD acc k z) S5
      | none => False) else dcmG g tt tk tv gd vs τ Z xs acc S3
def eDc (ti : IT') (g : TG') (tt : TT') (tk tv : ET) (vs : List Nat) : ET := fun τ S Q => ti τ S fun items gd S1 => dcmG g tt tk tv gd vs τ (fun acc S2 => ∀ p, S2 p = none → Q (.ref p) (up S2 p (.dK acc))) items [] S1
section
variable {K : PySem.W.Frag} {g : TG'} {tt : TT'} {tk tv : ET} {vs : List Nat}
end
section
variable {X : Cx} {ti : IT'} {g : TG'} {tt : TT'} {tk tv : ET} {kx vx tg iter : Expr} {ifs : List Expr} {scope : Scope} {own : List (Str × Nat)} {pos spos py : Pos}
end
section
variable {X : Cx}
/-- len of a dict -/
def cLenD : OL := fun ds S R => match ds with
  | [d] => (match dctAt S d with
    | some kvs => R (.int kvs.length) S
    | none => False)
  | _ => False
/-- a = b = e -/
def sAsg2 (te : ET) (g1 g2 : TG') : ST := fun G τ S => te τ S fun d S1 => g1 d τ S1 fun τ1 S2 => g2 d τ1 S2 G.nx
end
end Gx

/-! G35: len(set(x)), x a tuple of whole numbers; list(range(n)) that is to change. -/
namespace Gx
open PySem PySem.Spec PyProof.Rows L2
section
variable {X : Cx}
def eLenIT (t : ET) : ET := fun τ S Q => t τ S fun d S1 => ∃ ns : List Int, d = .tup (ns.map .int) ∧ ns.length < 64 ∧ ∀ L : List Int, L.Nodup → (∀ x, x ∈ L ↔ x ∈ ns) → Q (.int (L.length : Nat)) S1
variable {a : Expr} {t : ET} {p pos : Pos}
def eLstRgM (t : ET) : ET := fun τ S Q => t τ S fun d S1 => match d with
  | .int n => (0 ≤ n ∧ n ≤ 1000) ∧ ∀ p, S1 p = none → Q (.ref p) (up S1 p (.lst ((List.range n.toNat).map fun i : Nat => D.int (i : Int))))
  | _ => False
end
end Gx

/-! G36: sorted(t), t a tuple of whole numbers. -/
namespace SrtO
open PySem PyProof.Rows Srt
section
variable {prog : Program} {w : World} {A : Around} {E : Value → Shared → Prop} {s : Shared}
end
end SrtO
namespace L2
open PySem PySem.Spec PyProof.Rows
section
variable {X : Cx}
end
end L2
namespace Gx
open PySem PySem.Spec PyProof.Rows L2
section
variable {X : Cx}
/-- sorted(t), t a tuple of whole numbers -/
def cSortedTI : OL := fun ds S R => match ds with
  | [d] => ∃ ns : List Int, d = .tup (ns.map .int) ∧ ∀ ns' : List Int, ns'.Perm ns → ns'.Pairwise (· ≤ ·) → R (.lst (ns'.map .int)) S
  | _ => False
end
end Gx

/-! G37: b is not c, two bools. -/
namespace Gx
open PySem PySem.Spec PyProof.Rows L2
section
variable {X : Cx}
def oNotB : O2 := fun d e S R => match d, e with
  | .bl b, .bl c => R (.bl (decide (b ≠ c))) S
  | _, _ => False
end
end Gx

/-! G38: errors over data: defs that may let one out, and try. -/
namespace Gx
open PySem PySem.Spec PyProof.Rows L2
/-- an error: its class, what it bears -/
structure Err where
  cls : Value
  pl : Option (Str × D)
def Err.ref (C : Addr) : Err := ⟨.ref C, none⟩
/-- an error of the class at C that bears x as its field f -/
def Err.own (C : Addr) (f : Str) (x : D) : Err := ⟨.ref C, some (f, x)⟩
/-- what an error bears stands in its own dict -/
def PlR (K : PySem.W.Frag) (T : Sto) (H : Hp) : Option (Str × D) → Option Addr → Prop
  | none, d => d = none
  | some (f, x), d => ∃ a y, d = some a ∧ T a = none ∧ H a = some (.xd [(f, y)]) ∧ Rp K T H x y
theorem PlR.sub {K : PySem.W.Frag} {T T' : Sto} {H : Hp} (f : ∀ a, T a = none → T' a = none) : ∀ {p : Option (Str × D)} {d : Option Addr}, PlR K T H p d → PlR K T' H p d
  | none, _, h => h
  | some (_, _), _, h => by
    obtain ⟨a, y, e, n, k, r⟩ := h
    exact ⟨a, y, e, f a n, k, Rp.sub f r⟩
theorem PlR.ev {K : PySem.W.Frag} {T T' : Sto} {H H' : Hp} (o : Ok K T H) (ev : Ev T H T' H') : ∀ {p : Option (Str × D)} {d : Option Addr}, PlR K T H p d → PlR K T' H' p d
  | none, _, h => h
  | some (_, _), _, h => by
    obtain ⟨a, y, e, n, k, r⟩ := h
    have z := ev _ _ k n
    exact ⟨a, y, e, z.2, z.1, Rp.ev o ev r⟩
/-- the error, the store then -/
abbrev QE := Err → Sto → Prop
abbrev OLX := List D → Sto → QD → QE → Prop
/-! ### expressions that may let an error out -/
abbrev ETX := Tau → Sto → QD → QE → Prop
def LEX (K : PySem.W.Frag) (W : WX) (te : ETX) : TE := fun σ H Q => ∃ (τ : Tau) (S F : Sto) (R : QD) (Ex : QE), Wd K S F H ∧ RpS K (cmb S F) H τ σ ∧ te τ S R Ex ∧
  (∀ d S' v H', R d S' → Aft K S F H S' H' → Rp K (cmb S' F) H' d v → Q v H') ∧ (∀ er S' H' d, Ex er S' → Aft K S F H S' H' → PlR K (cmb S' F) H' er.pl d → W er.cls d σ H')
def GEX (X : Cx) (W : WX) (e : Expr) (t : ETX) : Prop := PE X e (LEX X.K W t)
abbrev ATX := Tau → Sto → (List D → Sto → Prop) → QE → Prop
def LAX (K : PySem.W.Frag) (W : WX) (t : ATX) : TA := fun σ H Q => ∃ (τ : Tau) (S F : Sto) (R : List D → Sto → Prop) (Ex : QE), Wd K S F H ∧ RpS K (cmb S F) H τ σ ∧ t τ S R Ex ∧
  (∀ ds S' vs H', R ds S' → Aft K S F H S' H' → RpL K (cmb S' F) H' ds vs → Q vs H') ∧ (∀ er S' H' d, Ex er S' → Aft K S F H S' H' → PlR K (cmb S' F) H' er.pl d → W er.cls d σ H')
def GAX (X : Cx) (W : WX) (es : List Expr) (t : ATX) : Prop := PA X es (LAX X.K W t)
section
variable {X : Cx} {W : WX} {e : Expr} {es : List Expr} {te : ET} {tx : ETX} {u : ATX}
def xE (te : ET) : ETX := fun τ S Q _ => te τ S Q
theorem gex_of (h : GE X e te) : GEX X W e (xE te) := pe_weak h fun σ H Q ⟨τ, S, F, R, Ex, w, r, q, l, _⟩ => ⟨τ, S, F, R, w, r, q, l⟩
def xaNil : ATX := fun _ S Q _ => Q [] S
def xaCons (t : ETX) (u : ATX) : ATX := fun τ S Q Ex => t τ S (fun d S1 => u τ S1 (fun ds S2 => Q (d :: ds) S2) Ex) Ex
variable {k j : Nat} {f : Addr} {fd : FuncData} {ps : List Str} {γ : OLX} {x : Str} {p pos : Pos}
def xCall (γ : OLX) (u : ATX) : ETX := fun τ S Q Ex => u τ S (fun ds S1 => γ ds S1 Q Ex) Ex
end
end Gx

/-! G39: statements that may let an error out; raise; defs; try .. except. -/
namespace Gx
open PySem PySem.Spec PyProof.Rows L2
/-- the error, slots, store -/
abbrev SE := Err → Tau → Sto → Prop
abbrev STX := EndG → SE → Tau → Sto → Prop
def WEx (K : PySem.W.Frag) (W : WX) (S F : Sto) (H : Hp) (Ex : SE) : Prop := ∀ er τ' S' σ' H' d, Ex er τ' S' → Aft K S F H S' H' → RpS K (cmb S' F) H' τ' σ' → PlR K (cmb S' F) H' er.pl d → W er.cls d σ' H'
section
variable {K : PySem.W.Frag} {W : WX} {S F S1 : Sto} {H H1 : Hp} {Ex : SE}
theorem WEx.after (h : WEx K W S F H Ex) (a : Aft K S F H S1 H1) : WEx K W S1 F H1 Ex := fun er τ' S' σ' H' d q a' r p => h er τ' S' σ' H' d q (a.trans a') r p
end
section
variable {X : Cx} {W : WX} {e : Expr} {es : List Expr} {te : ETX} {t u : STX} {s0 : ST} {pos : Pos} {st : Stmt} {rest : List Stmt}
def yS (t : ST) : STX := fun G _ τ S => t G τ S
def ySeq (t u : STX) : STX := fun G Ex τ S => t { G with nx := u G Ex } Ex τ S
def yDrop (te : ETX) : STX := fun G Ex τ S => te τ S (fun _ S1 => G.nx τ S1) fun cls S1 => Ex cls τ S1
def yRet (te : ETX) : STX := fun G Ex τ S => te τ S G.rt fun cls S1 => Ex cls τ S1
def yIf (c : TT') (t u : STX) : STX := fun G Ex τ S => c τ S fun b S1 => if b = true then t G Ex τ S1 else u G Ex τ S1
def yAsg (te : ETX) (g : TG') : STX := fun G Ex τ S => te τ S (fun d S1 => g d τ S1 G.nx) fun cls S1 => Ex cls τ S1
/-! ### raise -/
def yRaise (er : Err) : STX := fun _ Ex τ S => Ex er τ S
end
/-! ### defs -/
section
variable {P : Program} {w : World} {K : PySem.W.Frag} {mg : Str → Option Value} {base : Heap}
end
end Gx

/-! G40: try .. except X, within a def that lets no error out. -/
namespace Gx
open PySem PySem.Spec PyProof.Rows L2
/-- M: the classes that the clause takes -/
def sTry (M : Value → Prop) (tb : STX) (ts : ST) : ST := fun G τ S => tb G (fun er τ' S' => M er.cls ∧ ts G τ' S') τ S
theorem takes_none {X : Cx} : Takes X fun _ _ _ _ => False := fun u s' ⟨_, _, _, _, _, _, _, _, _, _, _, _, _, _, _, _, h⟩ => h.elim
section
variable {X : Cx} {x : Str} {c : Value} {body suite : List Stmt} {b₀ : Stmt} {np pos pos' : Pos} {tb : STX} {ts : ST} {M : Value → Prop}
end
end Gx

/-! G41: raise C(), C an own class over ValueError without an own __init__. -/
namespace Gx
open PySem PySem.Spec PyProof.Rows L2
section
variable {X : Cx} {C : Addr} {bmB : List Value} {B newId initId : String}
end
end Gx

/-! G42: calls about errors: a plain def with such arguments, keywords, a def that lets none out this time. -/
namespace Gx
open PySem PySem.Spec PyProof.Rows L2
section
variable {X : Cx} {W : WX} {k j n : Nat} {f : Addr} {fd : FuncData} {ps ks : List Str} {γ : OL} {γx : OLX} {x : Str} {p pos : Pos} {e : Expr} {es : List Expr} {kws : List Keyword} {u v : AT} {ux : ATX} {perm : List Nat}
def xCallN (γ : OL) (u : ATX) : ETX := fun τ S Q Ex => u τ S (fun ds S1 => γ ds S1 Q) Ex
/-- arguments that let no error out -/
theorem gax_of (h : GA X es u) : GAX X W es (fun τ S Q _ => u τ S Q) := ⟨fun py pins s σ H Q I ⟨τ, S, F, R, Ex, w, r, q, l, _⟩ => h.run py pins s σ H Q I ⟨τ, S, F, R, w, r, q, l⟩⟩
/-- a def that may let an error out lets none out this time -/
def eCallS (γ : OLX) (u : AT) : ET := fun τ S Q => u τ S fun ds S1 => γ ds S1 Q fun _ _ => False
def xCallK (γ : OLX) (m : Nat) (perm : List Nat) (v : AT) : ETX := fun τ S Q Ex => v τ S fun es S2 => es.length = m ∧ γ (pick perm es) S2 Q Ex
def eCallKS (γ : OLX) (m : Nat) (perm : List Nat) (v : AT) : ET := fun τ S Q => xCallK γ m perm v τ S Q fun _ _ => False
end
end Gx

/-! G43: an error of a class is what `except` of this class takes. -/
namespace Gx
open PySem PySem.Spec PyProof.Rows L2
end Gx

/-! G44: lambdas with plain parameters: what they capture, how they are entered. -/
namespace Gx
open PySem PySem.Spec PyProof.Rows L2
/-- ps: its parameters; fvs: what it captures -/
structure LamP (sc scope : Scope) (ps fvs : List Str) : Prop where
  kind : scope.kind = .function
  co : scope.isCoroutine = false
  gen : scope.isGenerator = false
  nd : ps.Nodup
  par : ∀ p ∈ ps, scope.names.lookup p = some .local
  nocell : ∀ y ∈ scope.names, y.2 ≠ .cell
  free : ∀ y ∈ scope.names, y.2 = .free → sc.names.lookup y.1 = some .cell ∨ sc.names.lookup y.1 = some .free
  fv : ∀ y ∈ fvs, scope.names.lookup y = some .free
def lamPB (sc scope : Scope) (ps fvs : List Str) : Bool :=
  decide (scope.kind = .function) && (!scope.isCoroutine && (!scope.isGenerator && (decide ps.Nodup && ((ps.all fun p => decide (scope.names.lookup p = some .local)) && ((scope.names.all fun y => !decide (y.2 = .cell)) &&
    ((scope.names.all fun y => !decide (y.2 = .free) || (decide (sc.names.lookup y.1 = some .cell) || decide (sc.names.lookup y.1 = some .free))) && fvs.all fun y => decide (scope.names.lookup y = some .free)))))))
theorem lamP_by {sc scope : Scope} {ps fvs : List Str} (h : lamPB sc scope ps fvs = true) : LamP sc scope ps fvs := by
  unfold lamPB at h
  simp only [Bool.and_eq_true, Bool.or_eq_true, Bool.not_eq_true', decide_eq_true_eq, decide_eq_false_iff_not, List.all_eq_true] at h
  obtain ⟨a, b, c, d, e, f, g, k⟩ := h
  refine ⟨a, b, c, d, e, f, fun y hy z => ?_, k⟩
  rcases g y hy with q | q | q
  · exact absurd z q
  · exact .inl q
  · exact .inr q
theorem LamP.has {X : Cx} {scope : Scope} {ps fvs : List Str} (L : LamP X.env.scope scope ps fvs) (ok : X.Ok) : ∀ y ∈ scope.names, y.2 = .free → ∃ c, X.env.cells.lookup y.1 = some c := fun y hy e =>
  (L.free y hy e).elim (fun k => ok.has _ (.inl k)) fun k => ok.has _ (.inr k)
/-- the lambda's own context -/
def lamC (X : Cx) (A : Around) (outer : List Env) (s : Shared) (H : Hp) (E : XK) (scope : Scope) (ps fvs : List Str) (f c : Addr) : Cx := { LamX.lamCx X A outer s H E scope f c with N := ps ++ fvs }
theorem look_of_mem : ∀ {l : List (Str × Value)} {y : Str} {u : Value}, (l.map (·.1)).Nodup → (y, u) ∈ l → l.lookup y = some u
  | (k, v) :: l, y, u, nd, h => by
    rw [List.map_cons, List.nodup_cons] at nd
    rw [List.lookup_cons]
    rcases List.mem_cons.mp h with e | h
    · cases e
      rw [beq_self_eq_true]
    · have ne : (y == k) = false := by
        rw [beq_eq_false_iff_ne]
        intro z
        exact nd.1 (List.mem_map.mpr ⟨_, h, z⟩)
      rw [ne]
      exact look_of_mem nd.2 h
theorem look_zip {ps : List Str} {us : List Value} {i : Nat} {y : Str} {u : Value} (nd : ps.Nodup) (hl : us.length = ps.length) (h1 : ps[i]? = some y) (h2 : us[i]? = some u) : (ps.zip us).reverse.lookup y = some u := by
  refine look_of_mem ?_ (List.mem_reverse.mpr (List.mem_of_getElem? (i := i) ?_))
  · rw [List.map_reverse, (List.reverse_perm _).nodup_iff, List.map_fst_zip (by omega)]
    exact nd
  · rw [List.getElem?_zip_eq_some]
    exact ⟨h1, h2⟩
section
variable {X : Cx} {pins : List (Addr × Obj)} {σ : L2.St} {H HZ : Hp} {s s1 : Shared} {ps fvs : List Str}
theorem lam_inv {A : Around} {outer : List Env} {E : XK} {scope : Scope} {f c : Addr} {h1 : Heap} {tk : Nat} {us : List Value} {vs cv : List V} (I : Inv X pins σ H s) (L : LamP X.env.scope scope ps fvs) (e0 : Env0 X.prog X.w X.K X.mg X.base A outer s1 HZ) (hd : A.handled = none)
    (hc : ∀ (k : Nat) (y : Str) (v : V), fvs[k]? = some y → cv[k]? = some v → ∃ j : Nat, X.N[j]? = some y ∧ σ[j]? = some (some v)) (hcl : cv.length = fvs.length) (r : Vals vs us) (hl : vs.length = ps.length)
    (un : Un (frs X.stack) [] H HZ s.heap s1.heap) (hns : h1.Ns s1.heap.objs.size fun y => (ps.zip us).reverse.lookup y) (kp : ∀ b o, s1.heap.get? b = some o → h1.get? b = some o) :
    Inv (lamC X A outer s1 HZ E scope ps fvs f c) [] (vs.map some ++ cv.map some) HZ { s1 with heap := h1, toks := tk } := by
  have has := L.has I.ok
  have back : ∀ {y a}, (cloFrom X.env.cells scope.names []).lookup y = some a → X.env.cells.lookup y = some a := fun {y a} e => by
    rcases cloFrom_mem (PySem.mem_of_lookup e) with hm | ⟨m1, m2⟩
    · cases hm
    · obtain ⟨a1, ha⟩ := has _ m1 rfl
      have ha : X.env.cells.lookup y = some a1 := ha
      have e2 : a = a1 := by rw [m2, ha]; rfl
      rw [e2]; exact ha
  have there : ∀ {y}, scope.names.lookup y = some .free → ∃ a, (cloFrom X.env.cells scope.names []).lookup y = some a := fun {y} hl =>
    mem_lookup (cloFrom_has (cells := X.env.cells) (acc := []) (PySem.mem_of_lookup hl))
  have still : ∀ {a : Addr} {v : Option Value}, H a = none → s.heap.IsCell a v → h1.IsCell a v := fun {a v} n ⟨o, ho, hd⟩ => by
    obtain ⟨sl, q⟩ := un.any ho n (by simp)
    exact ⟨_, kp _ _ q, hd⟩
  have noA : ∀ b : Addr, b ∉ (lamC X A outer s1 HZ E scope ps fvs f c).ex := fun b z => absurd (show b ∈ ([] : List Addr) from z) (by simp)
  have ul : us.length = ps.length := r.length.symm.trans hl
  refine ⟨⟨e0.mod, L.kind, rfl, rfl, Nat.le_refl _, ?_, ?_, ?_, fun _ => hd, Around.frames_deeper e0.frames, .inr ⟨rfl, rfl⟩, fun b z => absurd z (noA b), e0.bs, e0.bsz, fun b _ _ => noA b, fun b z => absurd z (noA b), e0.funs, e0.frf⟩,
    rfl, e0.bare, Un.kept kp, ⟨_, hns, ?_⟩, ?_, e0.hok.fresh (Nat.le_refl _), ?_, ?_, e0.hok.kept kp, ?_⟩
  · exact fun y z a e1 e2 => I.ok.inj y z a (back e1) (back e2)
  · intro y hy
    rcases (show scope.names.lookup y = some .cell ∨ scope.names.lookup y = some .free from hy) with hy | hy
    · exact absurd rfl (L.nocell _ (PySem.mem_of_lookup hy))
    · exact there hy
  · intro y a z
    exact (show False from Bool.noConfusion (show false = true from z)).elim
  · intro i y v e1 e2 e3
    have e1 : (ps ++ fvs)[i]? = some y := e1
    by_cases hi : i < ps.length
    · rw [List.getElem?_append_left hi] at e1
      rw [List.getElem?_append_left (by rw [List.length_map]; omega), List.getElem?_map] at e2
      obtain ⟨v', ev, ee⟩ := Option.map_eq_some_iff.mp e2
      cases ee
      obtain ⟨u, hu, rv⟩ := r.get ev
      exact ⟨u, rv, .inl ⟨L.par y (List.mem_of_getElem? e1), look_zip L.nd ul e1 hu⟩⟩
    · rw [List.getElem?_append_right (by omega)] at e1
      rw [List.getElem?_append_right (by rw [List.length_map]; omega), List.length_map, List.getElem?_map, hl] at e2
      obtain ⟨v', ev, ee⟩ := Option.map_eq_some_iff.mp e2
      cases ee
      obtain ⟨j, j1, j2⟩ := hc _ _ _ e1 ev
      have kf := L.fv y (List.mem_of_getElem? e1)
      have vis : Vis X.env.scope y := (L.free _ (PySem.mem_of_lookup kf) rfl).elim (fun q => .inr (.inl q)) (fun q => .inr (.inr q))
      obtain ⟨m, hm, lk⟩ := I.loc
      obtain ⟨u, rv, q⟩ := lk j y _ j1 j2 vis
      obtain ⟨a, ha⟩ := there kf
      have ca := back ha
      refine ⟨u, rv, .inr ⟨.inr kf, a, ha, ?_⟩⟩
      rcases q with ⟨k, _⟩ | ⟨_, a2, e', z⟩
      · have k : X.env.scope.names.lookup y = some .local := k
        rcases L.free _ (PySem.mem_of_lookup kf) rfl with k2 | k2
        · rw [show X.env.scope.names.lookup y = _ from k2] at k; cases k
        · rw [show X.env.scope.names.lookup y = _ from k2] at k; cases k
      · rw [ca] at e'
        cases e'
        exact still (I.freeC y _ ca) z
  · intro y a e
    obtain ⟨w', z⟩ := I.cell y a (back e)
    exact ⟨w', still (I.freeC y a (back e)) z⟩
  · intro y a e
    obtain ⟨v, o, ho, hd⟩ := I.cell y a (back e)
    exact un.free a o ho (I.freeC y a (back e)) (by simp)
  · exact fun q hq => absurd (show q ∈ ([] : List (Addr × Obj)) ++ [] from hq) (by simp)
  · show (vs.map some ++ cv.map some).length = (ps ++ fvs).length
    rw [List.length_append, List.length_append, List.length_map, List.length_map, hl, hcl]
end
end Gx

/-! G45: a lambda that was handed on is called. -/
namespace Gx
open PySem PySem.Spec PyProof.Rows L2
theorem rps_some {K : PySem.W.Frag} {T : Sto} {H : Hp} {ds : List D} {vs : List V} (r : RpL K T H ds vs) : RpS K T H (ds.map some) (vs.map some) := by
  have hl := r.length
  refine ⟨by rw [List.length_map, List.length_map, hl], fun i d e => ?_⟩
  rw [List.getElem?_map] at e
  obtain ⟨x, hx, ex⟩ := Option.map_eq_some_iff.mp e
  cases ex
  obtain ⟨v, hv, rv⟩ := r.get hx
  exact ⟨v, by rw [List.getElem?_map, hv]; rfl, rv⟩
/-- the lambda's object at f -/
def FnO (f c : Addr) (q : Str) (params : Arguments) (body : Expr) (scope : Scope) (cl : List (Str × Addr)) : HO := .ext fun h => ∃ pm ctv, h.get? f = some (PySem.W.kla_obj "<lambda>" q params body scope cl pm c ctv)
/-- the function d, at f, called in the context Z does φ -/
structure Acts (Z : Cx) (d : D) (f : Addr) (ar : Nat) (φ : OLX) : Prop where
  run : ∀ (pn : List (Addr × Obj)) (xe : Value → Shared → Prop) (W : WX), Takes (Z.tr pn xe) W → ∀ (pins : List (Addr × Obj)) (σ : L2.St) (H : Hp) (s : Shared) (us : List Value) (vs : List V) (Q : VK) (ds : List D) (S F : Sto) (R : QD) (Ex : QE),
    Inv (Z.tr pn xe) pins σ H s → us.length = ar → Vals vs us → Wd Z.K S F H → Rp Z.K (cmb S F) H d (.ref f) → RpL Z.K (cmb S F) H ds vs → φ ds S R Ex →
    (∀ d' S' v H', R d' S' → Aft Z.K S F H S' H' → Rp Z.K (cmb S' F) H' d' v → Q v H') → (∀ er S' H' dd, Ex er S' → Aft Z.K S F H S' H' → PlR Z.K (cmb S' F) H' er.pl dd → W er.cls dd σ H') →
    wpAny (model Z.prog Z.w) Z.A (call (.ref f) us) (EP (Z.tr pn xe) pins σ Q) xe s
section
variable {X : Cx} {pins : List (Addr × Obj)} {σ : L2.St} {H : Hp} {s : Shared} {ps fvs : List Str}
theorem lam_acts {scope : Scope} {params : Arguments} {body : Expr} {f c : Addr} {caps : List D} {cv : List V} {tb : ETX} {k : Nat} {Ng : List Str} {qg : Str} {sg : Scope} {g : Addr} {cdg : Value} {CXg : CXT} {Eg : XK}
    (I : Inv X pins σ H s) (L : LamP X.env.scope scope ps fvs) (hc : ∀ (k : Nat) (y : Str) (v : V), fvs[k]? = some y → cv[k]? = some v → ∃ j : Nat, X.N[j]? = some y ∧ σ[j]? = some (some v)) (hcl : cv.length = fvs.length)
    (hbind : ∀ (q : Str) (cl : List (Str × Addr)) (pm cv ctv : Value) (us : List Value), us.length = ps.length → bindArgs (PySem.W.kla_fn "<lambda>" q params body scope cl pm cv ctv) ⟨us, []⟩ = pure (ps.zip us))
    (hr : Room (k + 1) (X.A.deeper (envOfC qg sg s.heap.objs.size g cdg))) (hg : X.A.guards = some [])
    (hbody : ∀ (A : Around) (outer : List Env) (s1 : Shared) (H1 : Hp) (E : XK), Room k (A.deeper (LamX.lamEnv X scope s1.heap.objs.size f c)) → (A.deeper (LamX.lamEnv X scope s1.heap.objs.size f c)).guards = some [] → ∀ W, Takes (lamC X A outer s1 H1 E scope ps fvs f c) W → GEX (lamC X A outer s1 H1 E scope ps fvs f c) W body tb) :
    Acts (cxOf CXg X.prog X.w X.K X.mg X.base Ng qg sg g cdg X.A X.stack s H Eg) (.fn f c (X.env.qual ++ "<lambda>") (FnO f c (X.env.qual ++ "<lambda>") params body scope (cloFrom X.env.cells scope.names [])) caps cv) f ps.length
      fun ds S R Ex => tb (ds.map some ++ caps.map some) S R Ex := by
  refine ⟨fun pn xe W tk pinsZ σZ HZ sZ us vs Q ds S F R Ex IZ hlen rv w rd rl hφ hQ hE => ?_⟩
  obtain ⟨_, ⟨_, hfZ⟩, ⟨_, hcZ⟩, rcap⟩ := rd
  obtain ⟨⟨pm, ctv, of1⟩, _, _⟩ := IZ.hok f _ hfZ
  obtain ⟨⟨oc, cvs, t, hoc, hdc, hvc⟩, _, _⟩ := IZ.hok c _ hcZ
  have un : Un (frs X.stack) [] H HZ s.heap sZ.heap := IZ.base
  have hvl : vs.length = ps.length := by rw [rv.length, hlen]
  let E : XK := fun cls d H' => W cls d σZ H'
  have rc : codeAny (model X.prog X.w) (X.A.deeper (envOfC qg sg s.heap.objs.size g cdg)) (.call (.ref f) ⟨us, []⟩) (CR (L2.CX X.prog X.w) (envOfC qg sg s.heap.objs.size g cdg :: X.stack) X.prog X.w HZ sZ Q E) sZ := by
    refine PySem.W.kla_callFunE hr.depth of1 rfl L.co L.gen rfl ⟨c, oc, cvs, t, rfl, hoc, hdc, hvc⟩ ?_
    rw [hbind _ _ _ _ _ us hlen]
    refine wpAny_pure (wpAny_newFunctionEnv (fun y hy => L.nocell y hy) (fun y hy => L.par y.1 (List.of_mem_zip (show (y.1, y.2) ∈ ps.zip us from hy)).1) (fun h1 hns hsb => ⟨IZ.nolimit.fresh _ hsb, ?_⟩) L.kind)
    show codeAny _ _ (.expr body (LamX.lamEnv X scope sZ.heap.objs.size f c)) _ _
    have kp : ∀ b o, sZ.heap.get? b = some o → h1.get? b = some o := fun b o e => hsb.extBut b o (Nat.ne_of_lt (Heap.lt_size e)) (Heap.get?_push_of_some _ e)
    have J := lam_inv (E := E) (f := f) (c := c) (tk := sZ.toks + (ps.zip us).length) I L IZ.env0 hr.hd hc hcl rv hvl un hns kp
    have Wt : Takes (lamC X (X.A.deeper (envOfC qg sg s.heap.objs.size g cdg)) (envOfC qg sg s.heap.objs.size g cdg :: X.stack) sZ HZ E scope ps fvs f c) fun cls d _ H => E cls d H := takes_of rfl rfl rfl rfl
    have lg := hbody _ _ sZ HZ E (hr.deeper _) (guards_deeper (guards_deeper hg)) _ Wt
    refine PySem.W.kla_codeExpr (wpAny_mono (lg.run [] _ _ HZ Q J ⟨ds.map some ++ caps.map some, S, F, R, Ex, w, ?_, hφ, hQ, hE⟩) (fun v s' hq => ?_) fun e s' hq => hq)
    · rw [← List.map_append, ← List.map_append]
      exact rps_some (RpL.app rl rcap)
    · obtain ⟨w', H', J', rv', q⟩ := hq
      exact ⟨w', H', J'.os, J'.bare, J'.base, J'.hok, rv', q⟩
  refine wpAny_call (codeAny_mono rc fun r s' hq => ?_)
  cases r with
  | error e => exact tk e s' (XE.of_call IZ (fun _ _ _ h => h) hq)
  | ok fl =>
    cases fl with
    | ret u => exact IZ.after hq
    | next => exact False.elim hq
    | brk => exact False.elim hq
    | cont => exact False.elim hq
end
/-! ### the call, in the def that got it -/
section
variable {Z : Cx} {W : WX} {d : D} {f : Addr} {ar : Nat} {φ : OLX} {a : Str} {p pos : Pos} {es : List Expr} {u : ATX} {pn : List (Addr × Obj)} {xe : Value → Shared → Prop}
def xAct (i : Nat) (d : D) (ar : Nat) (φ : OLX) (u : ATX) : ETX := fun τ S Q Ex => τ[i]? = some (some d) ∧ u τ S (fun ds S1 => ds.length = ar ∧ φ ds S1 Q Ex) Ex
/-- a def's own function value that is called with some arguments -/
theorem g_actX {c : Addr} {q : Str} {ho : HO} {caps : List D} {cv : List V} {e : Expr} (i : Nat) (hfo : ∀ h : Heap, ∀ P w H, ObjOk P w H h f ho → PySem.W.FnAt f h) (act : Acts Z (.fn f c q ho caps cv) f ar φ) (tk : Takes (Z.tr pn xe) W) (ha : GAX (Z.tr pn xe) W (e :: es) u)
    (hN : Z.N[i]? = some a) (hv : Vis Z.env.scope a) (hd : (a == ("__debug__" : Str)) = false := by decide) (hcd : (a == ("__classdict__" : Str)) = false := by decide)
    (he : starEach (e :: es) Z.env = (false, eval e Z.env) :: starEach es Z.env := by rfl) (hpl : (backTo pos (starEach es Z.env)).any (·.1) = false := by rfl) : GEX (Z.tr pn xe) W (.Call (.Name a p) (e :: es) [] pos) (xAct i (.fn f c q ho caps cv) ar φ u) := by
  refine ⟨fun pins s σ H Q I ⟨τ, S, F, R, Ex, w, r, ⟨hi, hu⟩, l, lx⟩ => ?_⟩
  obtain ⟨v, hv', rv⟩ := r.at' i _ hi
  obtain ⟨rfl, hrest⟩ : v = .ref f ∧ True := ⟨rv.1, trivial⟩
  have fnat : ∀ {S' : Sto} {H' : Hp} {s' : Shared}, Inv (Z.tr pn xe) pins σ H' s' → Rp Z.K (cmb S' F) H' (.fn f c q ho caps cv) (.ref f) → PySem.W.FnAt f s'.heap := fun {S' H' s'} I' rd => hfo _ _ _ _ (I'.hok f _ rd.2.1.2)
  refine wpAny_Call_Name_kw (thn ((pe_var (X := Z.tr pn xe) (pos := p) (i := i) hN hv hd hcd).run pins s σ H (fun v H1 => v = .ref f ∧ H1 = H) I ⟨.ref f, hv', rfl, rfl⟩) fun u0 s1 ⟨v1, H1, I1, r1, q1⟩ => ?_)
  obtain ⟨e1, e2⟩ := q1
  subst e1 e2
  obtain rfl : u0 = Value.ref f := r1
  refine PySem.W.callWith_F (first := []) (fnat I1 rv) ?_ he hpl
  refine thn (ha.run pos pins s1 σ H1 (fun vs H2 => ∃ (ds : List D) (S1 : Sto), Aft Z.K S F H1 S1 H2 ∧ RpL Z.K (cmb S1 F) H2 ds vs ∧ (ds.length = ar ∧ φ ds S1 R Ex)) I1 ⟨τ, S, F, _, Ex, w, r, hu, fun ds S1 vs H2 q2 a2 r2 => ⟨ds, S1, a2, r2, q2⟩, lx⟩) fun us s2 ⟨vs, H2, I2, rvs, ds, S1, a2, r2, hl, hφ⟩ => ?_
  have rd2 : Rp Z.K (cmb S1 F) H2 (.fn f c q ho caps cv) (.ref f) := a2.rp w rv
  exact ⟨fnat I2 rd2, act.run pn xe W tk pins σ H2 s2 us vs Q ds S1 F R Ex I2 (by rw [← rvs.length, r2.length, hl]) rvs a2.wd rd2 r2 hφ (fun d' S' v H' q' a' r' => l _ _ _ _ q' (a2.trans a') r') fun er S' H' dd q' a' p' => lx _ _ _ _ q' (a2.trans a') p'⟩
theorem fnO_at {c : Addr} {q : Str} {params : Arguments} {body : Expr} {scope : Scope} {cl : List (Str × Addr)} : ∀ h : Heap, ∀ P w H, ObjOk P w H h f (FnO f c q params body scope cl) → PySem.W.FnAt f h := fun h P w H x => by
  obtain ⟨⟨pm, ctv, e⟩, _, _⟩ := x
  exact ⟨_, _, _, _, e⟩
end
end Gx

/-! G46: a lambda is made. -/
namespace Gx
open PySem PySem.Spec PyProof.Rows L2
section
variable {X : Cx} {pins : List (Addr × Obj)} {σ : L2.St} {H : Hp} {s : Shared} {c P : Addr} {params : Arguments} {body : Expr} {scope : Scope} {pos : Pos} {ps : Array Value}
abbrev lamN (X : Cx) : Str := X.env.qual ++ "<lambda>"
abbrev lamO (X : Cx) (f c : Addr) (params : Arguments) (body : Expr) (scope : Scope) : HO := FnO f c (lamN X) params body scope (cloFrom X.env.cells scope.names [])
theorem fnO_ok {Pr : Program} {w : World} {H : Hp} {h : Heap} {f c : Addr} {q : Str} {cl : List (Str × Addr)} {pm ctv : Value} (e : h.get? f = some (PySem.W.kla_obj "<lambda>" q params body scope cl pm c ctv)) : ObjOk Pr w H h f (FnO f c q params body scope cl) :=
  ⟨⟨pm, ctv, e⟩, ⟨_, e⟩, fun h1 h2 ⟨pm, ctv, z⟩ k => ⟨pm, ctv, k _ z⟩⟩
theorem lam_mk {E : Value → Shared → Prop} {Q : Value → Shared → Prop} (I : Inv X pins σ H s) (TB : LamX.TabB X.base X.mg c P) (hcode : X.env.code = .ref c) (hP : H P = some (.tbl ps)) (ht : TriplesOk ps.toList) (hdef : defaultsOf params X.env = ([], []))
    (hfree : ∀ y ∈ scope.names, y.2 = .free → ∃ a, X.env.cells.lookup y.1 = some a) (hcs : ∀ (pos : Pos) (cv : Value), codeAmong pos ps.toList = some cv → ∃ a, cv = .ref a ∧ H a = some (LamX.CodeO a (lamN X)))
    (hnew : ∀ (f a : Addr) (qs : Array Value) (s' : Shared), H a = none → TriplesOk qs.toList → (∀ (pos : Pos) (cv : Value), codeAmong pos qs.toList = some cv → codeAmong pos ps.toList = some cv ∨ cv = .ref a) → upd (upd H P (.tbl qs)) a (LamX.CodeO a (lamN X)) f = none →
      Inv X pins σ (upd (upd (upd H P (.tbl qs)) a (LamX.CodeO a (lamN X))) f (lamO X f a params body scope)) s' → Q (.ref f) s')
    (hhit : ∀ (f a : Addr) (s' : Shared), (∃ pos : Pos, codeAmong pos ps.toList = some (.ref a)) → H f = none → Inv X pins σ (upd H f (lamO X f a params body scope)) s' → Q (.ref f) s') :
    wpAny (model X.prog X.w) X.A (eval (.Lambda params body scope pos) X.env) Q E s := by
  have bP : s.heap.BuiltinsAt X.mg P := TB.bm.keeps I.bk
  have hP' : s.heap.get? P = some { cls := .none, data := .fields ps } := I.hok P _ hP
  have gl := I.mod.glob.keeps I.bk
  have cd := TB.code.keeps I.bk
  refine PySem.W.kla_eval hdef ?_
  cases hc : codeAmong pos ps.toList with
  | some cv =>
    obtain ⟨a, rfl, hco⟩ := hcs pos cv hc
    refine PySem.W.kla_makeFunctionHit (mg := X.mg) (c := c) (P := P) (ps := ps) (closure_ok hfree) I.ok.glob gl hcode cd hP' ht hc bP fun ctv h' tk hx hsz => ?_
    have I1 : Inv X pins σ H { s with heap := h', toks := tk } := I.kept hx
    have fr : H h'.objs.size = none := I1.hok.fresh (Nat.le_refl _)
    exact hhit _ a _ ⟨pos, hc⟩ fr (I1.laid (t' := tk) (fun b o e => Heap.get?_push_of_some _ e) (Nat.le_refl _) (fnO_ok (Heap.get?_push_size _ rfl)))
  | none =>
    refine PySem.W.kla_makeFunction (mg := X.mg) (c := c) (P := P) (ps := ps) (closure_ok hfree) I.ok.glob gl hcode cd hP' ht hc TB.gP bP fun a ctv h' tk hx hge hlt hrec htb => ?_
    obtain ⟨c2, oc, vs, t, e2, hoc, hd, hv⟩ := hrec
    cases e2
    have nA : H a = none := I.hok.fresh hge
    have I1 := LamX.inv_table (t' := tk) (more := #[rawInt pos.line, rawInt pos.col, .ref a]) (q := lamN X) I hP hx htb hge ⟨oc, vs, t, hoc, hd, hv⟩
    have fr := I1.hok.fresh (Nat.le_refl h'.objs.size)
    have eL : (ps ++ #[rawInt pos.line, rawInt pos.col, .ref a]).toList = ps.toList ++ [rawInt pos.line, rawInt pos.col, .ref a] := by simp
    refine hnew _ a _ _ nA (by rw [eL]; exact PySem.TriplesOk_snoc _ _ _ _ ht) (fun p' cv h => ?_) fr (I1.laid (t' := tk) (fun b o e => Heap.get?_push_of_some _ e) (Nat.le_refl _) (fnO_ok (Heap.get?_push_size _ rfl)))
    rw [eL] at h
    exact LamX.among_app _ ht h
end
/-! ### the store behind it -/
theorem up_id {S : Sto} {p : Addr} {o : SO} (h : S p = some o) : up S p o = S := by
  funext b
  by_cases e : b = p
  · subst e; rw [up_same, h]
  · rw [up_ne e]
section
variable {K : PySem.W.Frag} {S F : Sto} {H : Hp} {P a : Addr} {q : Str} {ps qs : Array Value}
/-- what the table of a def tells -/
theorem tab_at (w : Wd K S F H) (hS : S P = some (.tab q)) : ∃ ps : Array Value, H P = some (.tbl ps) ∧ TriplesOk ps.toList ∧ ∀ (pos : Pos) (cv : Value), codeAmong pos ps.toList = some cv → ∃ c, cv = .ref c ∧ cmb S F c = none ∧ H c = some (LamX.CodeO c q) :=
  w.ok P _ (cmb_l hS)
theorem tab_made (w : Wd K S F H) (hS : S P = some (.tab q)) (hP : H P = some (.tbl ps)) (hcs : ∀ (pos : Pos) (cv : Value), codeAmong pos ps.toList = some cv → ∃ c, cv = .ref c ∧ cmb S F c = none ∧ H c = some (LamX.CodeO c q))
    (ha : H a = none) (ht : TriplesOk qs.toList) (hq : ∀ (pos : Pos) (cv : Value), codeAmong pos qs.toList = some cv → codeAmong pos ps.toList = some cv ∨ cv = .ref a) :
    Aft K S F H S (upd (upd H P (.tbl qs)) a (LamX.CodeO a q)) := by
  have nPa : P ≠ a := ne_of_none hP ha
  have eH : upd (upd H P (.tbl qs)) a (LamX.CodeO a q) = upd (upd H a (LamX.CodeO a q)) P (.tbl qs) := by
    funext b
    by_cases e1 : b = a
    · subst e1; rw [upd_same, upd_ne nPa.symm, upd_same]
    · rw [upd_ne e1]
      by_cases e2 : b = P
      · subst e2; rw [upd_same, upd_same]
      · rw [upd_ne e2, upd_ne e2, upd_ne e1]
  have a1 : Aft K S F H S (upd H a (LamX.CodeO a q)) := Aft.new w ha
  have na : cmb S F a = none := w.ok.fresh ha
  have a2 := Aft.set (o := .tbl qs) (u := .tab q) a1.wd hS ⟨qs, upd_same, ht, fun pos cv h => by
    have aP : ∀ {c : Addr}, cmb S F c = none → c ≠ P := fun {c} n z => by
      subst z; rw [cmb_l hS] at n; cases n
    rcases hq pos cv h with h | rfl
    · obtain ⟨c, e, n, k⟩ := hcs pos cv h
      exact ⟨c, e, by rw [up_ne (aP n)]; exact n, by rw [upd_ne (aP n), upd_ne (ne_of_none k ha)]; exact k⟩
    · exact ⟨a, rfl, by rw [up_ne (aP na)]; exact na, by rw [upd_ne (aP na), upd_same]⟩⟩
  rw [up_id hS] at a2
  rw [eH]
  exact a1.trans a2
end
/-! ### what is captured -/
def getCaps (τ : Tau) : List Nat → (List D → Prop) → Prop
  | [], Z => Z []
  | j :: js, Z => match τ[j]? with
    | some (some d) => getCaps τ js fun ds => Z (d :: ds)
    | _ => False
theorem getCaps_vs {K : PySem.W.Frag} {T : Sto} {H : Hp} {N : List Str} {τ : Tau} {σ : L2.St} (r : RpS K T H τ σ) : ∀ {js : List Nat} {fvs : List Str} {Z : List D → Prop}, js.map (fun j => N[j]?) = fvs.map some → getCaps τ js Z →
    ∃ (caps : List D) (cv : List V), Z caps ∧ RpL K T H caps cv ∧ cv.length = fvs.length ∧ ∀ (k : Nat) (y : Str) (v : V), fvs[k]? = some y → cv[k]? = some v → ∃ j : Nat, N[j]? = some y ∧ σ[j]? = some (some v)
  | [], [], Z, _, h => ⟨[], [], h, rfl, rfl, fun k y v e => by simp at e⟩
  | [], _ :: _, _, e, _ => by simp at e
  | _ :: _, [], _, e, _ => by simp at e
  | j :: js, x :: fvs, Z, e, h => by
    rw [List.map_cons, List.map_cons, List.cons.injEq] at e
    unfold getCaps at h
    split at h
    · rename_i d hd
      obtain ⟨v, hv, rv⟩ := r.at' j d hd
      obtain ⟨caps, cv, z, rl, hl, hk⟩ := getCaps_vs (N := N) r e.2 h
      refine ⟨d :: caps, v :: cv, z, ⟨v, cv, rfl, rv, rl⟩, by rw [List.length_cons, List.length_cons, hl], fun k y u e1 e2 => ?_⟩
      cases k with
      | zero =>
        simp only [List.getElem?_cons_zero, Option.some.injEq] at e1 e2
        subst e1 e2
        exact ⟨j, e.1, hv⟩
      | succ k => exact hk k y u (by simpa using e1) (by simpa using e2)
    · exact h.elim
end Gx

/-! G47: defs that get a function; calls that hand a lambda on. -/
namespace Gx
open PySem PySem.Spec PyProof.Rows L2
/-- a function value is there -/
def FnIn (f : Addr) (ho : HO) : Prop := ∀ (h : Heap) P w H, ObjOk P w H h f ho → PySem.W.FnAt f h
/-- a def whose last argument is a function (of ar arguments): what it promises where that one does φ -/
structure GFnF (P : Program) (w : World) (K : PySem.W.Frag) (mg : Str → Option Value) (base : Heap) (k : Nat) (f : Addr) (fd : FuncData) (ps : List Str) (ar : Nat) (γ : D → OLX → OL) : Prop where
  len : ∀ d φ ds S R, γ d φ ds S R → ds.length = ps.length
  run : ∀ (A : Around) (outer : List Env) (s : Shared) (H : Hp) (args : Args) (us : List Value) (vs : List V) (Q : VK) (g c : Addr) (q : Str) (ho : HO) (caps : List D) (cv : List V) (φ : OLX), Room (k + 1) A → A.guards = some [] → Env0 P w K mg base A outer s H → BindsTo s fd args (ps.zip us) → Vals vs us →
    FnIn g ho → (∀ (N : List Str) (qg : Str) (sg : Scope) (f' : Addr) (cd : Value), Acts (cxOf CX0 P w K mg base N qg sg f' cd A outer s H E0) (.fn g c q ho caps cv) g ar φ) → LLO K (γ (.fn g c q ho caps cv) φ) vs H Q →
    codeAny (model P w) A (.call (.ref f) args) (CR CX0 outer P w H s Q E0) s
section
variable {P : Program} {w : World} {K : PySem.W.Frag} {mg : Str → Option Value} {base : Heap}
theorem gfnF_of {x qual : Str} {st : Stmt} {f : Addr} {fd : FuncData} {N ps : List Str} {k ar : Nat} {γ : D → OLX → OL} (F : Fun K x qual st f fd) (Sc : FnScope N ps (defScope st)) (len : ∀ d φ ds S R, γ d φ ds S R → ds.length = ps.length)
    (hbody : ∀ (cdv : Value) (A : Around) (outer : List Env) (s : Shared) (H : Hp) (g c : Addr) (q : Str) (ho : HO) (caps : List D) (cv : List V) (φ : OLX), Room k (A.deeper (envOfC qual (defScope st) s.heap.objs.size f cdv)) → (A.deeper (envOfC qual (defScope st) s.heap.objs.size f cdv)).guards = some [] → FnIn g ho →
      Acts (cxOf CX0 P w K mg base N qual (defScope st) f cdv A outer s H E0) (.fn g c q ho caps cv) g ar φ →
      ∃ t, GSs (cxOf CX0 P w K mg base N qual (defScope st) f cdv A outer s H E0).nox (defBody st) t ∧ ∀ ds S R, γ (.fn g c q ho caps cv) φ ds S R → t { nx := fun _ S' => Fin R .non S', rt := Fin R } (startD N.length ds) S) : GFnF P w K mg base k f fd ps ar γ := by
  obtain ⟨oc, od, kV, doc, pm, an, cdv, ct, osl, rfl, lk, hcd⟩ := F.ex
  refine ⟨len, fun A outer s H args us vs Q g c q0 ho caps cv φ hr hgd e0 hb r hfi acts hsp => ?_⟩
  obtain ⟨ds, S, Fr, R, wd, rl, q, l⟩ := hsp
  have KX : K.In s.heap := e0.mod.kin.keeps fun b o e => (e0.bs b o e).1
  have lim : s.heap.NoLimit := e0.mod.nolimit.keeps fun b o e => (e0.bs b o e).1
  have hl : vs.length = ps.length := rl.length.trans (len _ _ ds S R q)
  have hk : ∀ y ∈ ps.zip us, (defScope st).names.lookup y.1 = some .local ∨ ((defScope st).names.lookup y.1 = some .cell ∧ ((cellsFrom (s.heap.objs.size + 1) (defScope st).names []).lookup y.1).isSome = true) := fun y hy =>
    (Sc.par y.1 (List.of_mem_zip hy).1).imp (fun z => z) fun z => ⟨z, PySem.W.cellsFrom_some _ _ _ (.inl z)⟩
  refine codeAny_call_function hr.depth (KX _ _ lk) rfl Sc.co Sc.gen rfl (PySem.W.codeRec_of KX hcd) (hb _ _ _ _ ?_)
  refine wpAny_newFunctionEnv_cells Sc.kind hk fun env he s1 x => ?_
  subst he
  refine ⟨lim.keeps x.toInCall.keep, codeAny_func ?_⟩
  obtain ⟨t, ht, hq⟩ := hbody cdv A outer s H g c q0 ho caps cv φ (hr.deeper _) (guards_deeper hgd) hfi (acts _ _ _ _ _)
  have I := inv_start (CX := CX0) (E := E0) (cd := cdv) (qual := qual) (f := f) (mg := mg) Sc hr.hd e0 hl r x
  have fin : ∀ {d : D} {S' : Sto} {v : V} {H' : Hp}, Fin R d S' → Aft K S Fr H S' H' → Rp K (cmb S' Fr) H' d v → Q v H' := fun {d S' v H'} ⟨S2, d2, hs, fz, h⟩ a rv =>
    l d2 S2 v H' h ⟨a.wd.less hs fun _ _ e => e, a.ev.trans (ev_less hs fun _ _ e => e)⟩ (Fz.rp a.wd hs fz rv)
  have hD : LS K t { nx := fun _ H' => Q .non H', rt := Q } (L2.start N vs) H := ⟨_, S, Fr, _, wd, rps_start rl, hq ds S R q,
    ⟨fun τ' S' σ' H' z a _ => fin z a rfl, fun d S' v H' z a rv => fin z a rv, fun _ _ _ _ z => z.elim, fun _ _ _ _ z => z.elim⟩⟩
  refine wpAny_mono ((PSs.nox ht).run [] s1 (L2.start N vs) H _ I hD) (fun fl s' hs => ?_) fun e s' hs => hs
  cases fl with
  | ret u =>
    obtain ⟨v, σ', H', J, rv, z⟩ := hs
    exact ⟨v, H', J.os, J.bare, J.base, J.hok, rv, z⟩
  | next =>
    obtain ⟨σ', H', J, z⟩ := hs
    exact ⟨.non, H', J.os, J.bare, J.base, J.hok, rfl, z⟩
  | brk =>
    obtain ⟨_, _, _, z⟩ := hs
    exact z.elim
  | cont =>
    obtain ⟨_, _, _, z⟩ := hs
    exact z.elim
end
/-! ### the function called, in the def that got it -/
def eAct (i : Nat) (d : D) (ar : Nat) (φ : OLX) (u : AT) : ET := fun τ S Q => τ[i]? = some (some d) ∧ u τ S fun ds S1 => ds.length = ar ∧ φ ds S1 Q fun _ _ => False
section
variable {Z : Cx} {f c : Addr} {q : Str} {ho : HO} {caps : List D} {cv : List V} {ar : Nat} {φ : OLX} {a : Str} {p pos : Pos} {e : Expr} {es : List Expr} {u : AT} {pn : List (Addr × Obj)} {xe : Value → Shared → Prop}
theorem g_act (i : Nat) (hfo : FnIn f ho) (act : Acts Z (.fn f c q ho caps cv) f ar φ) (ha : GA (Z.tr pn xe) (e :: es) u)
    (hN : Z.N[i]? = some a) (hv : Vis Z.env.scope a) (hd : (a == ("__debug__" : Str)) = false := by decide) (hcd : (a == ("__classdict__" : Str)) = false := by decide)
    (he : starEach (e :: es) Z.env = (false, eval e Z.env) :: starEach es Z.env := by rfl) (hpl : (backTo pos (starEach es Z.env)).any (·.1) = false := by rfl) : GE (Z.tr pn xe) (.Call (.Name a p) (e :: es) [] pos) (eAct i (.fn f c q ho caps cv) ar φ u) :=
  pe_weak (g_actX (W := fun _ _ _ _ => False) i hfo act takes_none (gax_of ha) hN hv hd hcd he hpl) fun σ H Q ⟨τ, S, F, R, w, r, q, l⟩ => ⟨τ, S, F, R, fun _ _ => False, w, r, q, l, fun _ _ _ _ z => z.elim⟩
end
/-! ### a lambda handed on as the last argument -/
structure HasF (P : Program) (w : World) (K : PySem.W.Frag) (mg : Str → Option Value) (base : Heap) (k : Nat) (x : Str) (f : Addr) (fd : FuncData) (ps : List Str) (ar : Nat) (γ : D → OLX → OL) : Prop where
  fn : GFnF P w K mg base k f fd ps ar γ
  mg : mg x = some (.ref f)
  kp : PySem.W.keepIn K (.ref f) = true
  bd : Binds K fd ps []
/-- x(e .., lambda ps: body): the table at T, js the slots of what is captured -/
def eLam (T : Addr) (q : Str) (js : List Nat) (tb : ETX) (γ : D → OLX → OL) (u : AT) : ET := fun τ S Q => u τ S fun ds S1 => S1 T = some (.tab q) ∧ getCaps τ js fun caps => ∀ (g c : Addr) (ho : HO) (cv : List V),
  γ (.fn g c q ho caps cv) (fun es S2 R Ex => tb (es.map some ++ caps.map some) S2 R Ex) (ds ++ [.fn g c q ho caps cv]) S1 Q
/-- .. as an argument alone: what is known of it then -/
def tLam1 (X : Cx) (T : Addr) (js : List Nat) (fvs : List Str) (params : Arguments) (body : Expr) (scope : Scope) (τ : Tau) (S F : Sto) : TE := fun σ H Q => Wd X.K S F H ∧ RpS X.K (cmb S F) H τ σ ∧ S T = some (.tab (lamN X)) ∧
  ∀ (g c : Addr) (H1 : Hp), Aft X.K S F H S H1 → H1 g = some (lamO X g c params body scope) → H1 c = some (LamX.CodeO c (lamN X)) → cmb S F g = none → cmb S F c = none → Q (.ref g) H1
section
variable {X : Cx} {c T : Addr} {params : Arguments} {body : Expr} {scope : Scope} {pos : Pos} {js : List Nat} {ps fvs : List Str} {τ : Tau} {S F : Sto}
theorem pe_lam1 (TB : LamX.TabB X.base X.mg c T) (hcode : X.env.code = .ref c) (L : LamP X.env.scope scope ps fvs) (hdef : defaultsOf params X.env = ([], [])) : PE X (.Lambda params body scope pos) (tLam1 X T js fvs params body scope τ S F) := by
  refine ⟨fun pins s σ H Q I ⟨w, r, hS, h⟩ => ?_⟩
  obtain ⟨tb, hP, ht, hcs⟩ := tab_at w hS
  refine lam_mk I TB hcode hP ht hdef (L.has I.ok) (fun p' cv hc => ?_) (fun g a qs s' ha ht' hq hg J => ?_) (fun g a s' ⟨p', hc⟩ hg J => ?_)
  · obtain ⟨b, e, _, k⟩ := hcs p' cv hc
    exact ⟨b, e, k⟩
  · have a1 := tab_made w hS hP hcs ha ht' hq
    have a2 := Aft.new (o := lamO X g a params body scope) a1.wd hg
    have nga : a ≠ g := fun z => by subst z; rw [upd_same] at hg; cases hg
    refine ⟨.ref g, _, J, rfl, h g a _ (a1.trans a2) upd_same (by rw [upd_ne nga, upd_same]) (a1.wd.ok.fresh hg) (w.ok.fresh ha)⟩
  · obtain ⟨b, e, n, k⟩ := hcs p' _ hc
    cases e
    have a2 := Aft.new (o := lamO X g a params body scope) w hg
    exact ⟨.ref g, _, J, rfl, h g a _ a2 upd_same (by rw [upd_ne (ne_of_none k hg)]; exact k) (w.ok.fresh hg) n⟩
end
end Gx

/-! G48: x(e, lambda ..), x(lambda ..). -/
namespace Gx
open PySem PySem.Spec PyProof.Rows L2
section
variable {X : Cx} {c T : Addr} {params : Arguments} {body : Expr} {scope : Scope} {lpos p pos : Pos} {js : List Nat} {ps fvs : List Str} {k j kk ar : Nat} {f : Addr} {fd : FuncData} {xs : List Str} {γ : D → OLX → OL} {x : Str} {e : Expr} {te : ET} {tb : ETX}
theorem pe_lamE (TB : LamX.TabB X.base X.mg c T) (hcode : X.env.code = .ref c) (L : LamP X.env.scope scope ps fvs) (hdef : defaultsOf params X.env = ([], [])) : PE X (.Lambda params body scope lpos) (fun σ H Q => ∃ (τ : Tau) (S F : Sto), tLam1 X T js fvs params body scope τ S F σ H Q) :=
  ⟨fun pins s σ H Q I ⟨τ, S, F, h⟩ => (pe_lam1 (js := js) TB hcode L hdef).run pins s σ H Q I h⟩
theorem run_gfnF {pins : List (Addr × Obj)} {σ : L2.St} {H : Hp} {s : Shared} {Q : VK} {us : List Value} {vs : List V} {g a : Addr} {q : Str} {ho : HO} {caps : List D} {cv : List V} {φ : OLX} (G : GFnF X.prog X.w X.K X.mg X.base k f fd xs ar γ) (hr : Room (k + 1) X.A) (hg : X.A.guards = some []) (hb : Binds X.K fd xs [])
    (I : Inv X pins σ H s) (r : Vals vs us) (hfi : FnIn g ho) (acts : ∀ (N : List Str) (qg : Str) (sg : Scope) (f' : Addr) (cd : Value), Acts (cxOf CX0 X.prog X.w X.K X.mg X.base N qg sg f' cd X.A X.stack s H E0) (.fn g a q ho caps cv) g ar φ) (h : LLO X.K (γ (.fn g a q ho caps cv) φ) vs H Q) :
    wpAny (model X.prog X.w) X.A (call (.ref f) us) (EP X pins σ Q) X.xe s := by
  have hl : (us ++ []).length = xs.length := by
    obtain ⟨ds, S, F, R, w, rl, q, _⟩ := h
    rw [List.append_nil, ← r.length, rl.length]
    exact G.len _ _ _ _ _ q
  have hbd := hb s us I.kIn hl
  rw [List.append_nil] at hbd
  refine wpAny_call (codeAny_mono (G.run X.A X.stack s H ⟨us, []⟩ us vs Q g a q ho caps cv φ hr hg I.env0 hbd r hfi acts h) fun r s' hq => ?_)
  cases r with
  | error e => exact False.elim hq
  | ok fl =>
    cases fl with
    | ret u => exact I.after hq
    | next => exact False.elim hq
    | brk => exact False.elim hq
    | cont => exact False.elim hq
/-- what stands behind the making of the lambda, at the call -/
structure LamAt (X : Cx) (T : Addr) (js : List Nat) (fvs : List Str) (params : Arguments) (body : Expr) (scope : Scope) (tb : ETX) (γ : D → OLX → OL) (R : QD) (τ : Tau) (S F : Sto) (σ : L2.St) (H : Hp) (ds : List D) (g c : Addr) : Prop where
  wd : Wd X.K S F H
  rs : RpS X.K (cmb S F) H τ σ
  hg : H g = some (lamO X g c params body scope)
  hc : H c = some (LamX.CodeO c (lamN X))
  ng : cmb S F g = none
  nc : cmb S F c = none
  q : getCaps τ js fun caps => ∀ (g c : Addr) (ho : HO) (cv : List V), γ (.fn g c (lamN X) ho caps cv) (fun es S2 R Ex => tb (es.map some ++ caps.map some) S2 R Ex) (ds ++ [.fn g c (lamN X) ho caps cv]) S R
theorem lam_go {pins : List (Addr × Obj)} {σ : L2.St} {H : Hp} {s : Shared} {Q : VK} {us : List Value} {vs : List V} {g a : Addr} {R : QD} {τ : Tau} {S F : Sto} {ds : List D} (G : GFnF X.prog X.w X.K X.mg X.base j f fd xs ar γ) (har : ar = ps.length) (hr : Room kk X.A) (hg : X.A.guards = some []) (hj : j + 1 ≤ kk) (hk : k + 2 ≤ kk) (hb : Binds X.K fd xs [])
    (L : LamP X.env.scope scope ps fvs) (hjs : js.map (fun i => X.N[i]?) = fvs.map some) (hbind : ∀ (q : Str) (cl : List (Str × Addr)) (pm cv ctv : Value) (us : List Value), us.length = ps.length → bindArgs (PySem.W.kla_fn "<lambda>" q params body scope cl pm cv ctv) ⟨us, []⟩ = pure (ps.zip us))
    (hbody : ∀ (A : Around) (outer : List Env) (s1 : Shared) (H1 : Hp) (E : XK) (f c : Addr), Room k (A.deeper (LamX.lamEnv X scope s1.heap.objs.size f c)) → (A.deeper (LamX.lamEnv X scope s1.heap.objs.size f c)).guards = some [] → ∀ W, Takes (lamC X A outer s1 H1 E scope ps fvs f c) W → GEX (lamC X A outer s1 H1 E scope ps fvs f c) W body tb)
    (I : Inv X pins σ H s) (r : Vals (vs ++ [.ref g]) us) (rl : RpL X.K (cmb S F) H ds vs) (m : LamAt X T js fvs params body scope tb γ R τ S F σ H ds g a)
    (l : ∀ d S' v H', R d S' → Aft X.K S F H S' H' → Rp X.K (cmb S' F) H' d v → Q v H') : wpAny (model X.prog X.w) X.A (call (.ref f) us) (EP X pins σ Q) X.xe s := by
  obtain ⟨caps, cv, hz, rc, hcl, hc⟩ := getCaps_vs (N := X.N) m.rs hjs m.q
  subst har
  refine run_gfnF G (hr.mono hj) hg hb I r fnO_at (fun N qg sg f' cd => lam_acts (k := k) I L hc hcl hbind ((hr.mono hk).deeper _) hg fun A outer s1 H1 E hr2 hg2 W tk => hbody A outer s1 H1 E g a hr2 hg2 W tk) ⟨ds ++ [.fn g a (lamN X) (lamO X g a params body scope) caps cv], S, F, R, m.wd, RpL.app rl ⟨.ref g, [], rfl, (show Rp X.K (cmb S F) H (.fn g a (lamN X) (lamO X g a params body scope) caps cv) (.ref g) from ⟨rfl, ⟨m.ng, m.hg⟩, ⟨m.nc, m.hc⟩, rc⟩), rfl⟩, hz g a _ cv, l⟩
theorem g_lam1 (h : HasF X.prog X.w X.K X.mg X.base j x f fd xs ar γ) (har : ar = ps.length) (hr : Room kk X.A) (hg : X.A.guards = some []) (hj : j + 1 ≤ kk) (hk : k + 2 ≤ kk) (hgl : Gl X x) (TB : LamX.TabB X.base X.mg c T) (hcode : X.env.code = .ref c) (L : LamP X.env.scope scope ps fvs) (hdef : defaultsOf params X.env = ([], []))
    (hjs : js.map (fun i => X.N[i]?) = fvs.map some) (hbind : ∀ (q : Str) (cl : List (Str × Addr)) (pm cv ctv : Value) (us : List Value), us.length = ps.length → bindArgs (PySem.W.kla_fn "<lambda>" q params body scope cl pm cv ctv) ⟨us, []⟩ = pure (ps.zip us))
    (hbody : ∀ (A : Around) (outer : List Env) (s1 : Shared) (H1 : Hp) (E : XK) (f c : Addr), Room k (A.deeper (LamX.lamEnv X scope s1.heap.objs.size f c)) → (A.deeper (LamX.lamEnv X scope s1.heap.objs.size f c)).guards = some [] → ∀ W, Takes (lamC X A outer s1 H1 E scope ps fvs f c) W → GEX (lamC X A outer s1 H1 E scope ps fvs f c) W body tb)
    (ha : GE X e te) (hdb : (x == ("__debug__" : Str)) = false := by decide) (he : starEach [e, .Lambda params body scope lpos] X.env = (false, eval e X.env) :: starEach [.Lambda params body scope lpos] X.env := by rfl)
    (he2 : starEach [.Lambda params body scope lpos] X.env = (false, eval (.Lambda params body scope lpos) X.env) :: starEach [] X.env := by rfl) (hpl : (backTo pos (starEach [.Lambda params body scope lpos] X.env)).any (·.1) = false := by rfl) :
    GE X (.Call (.Name x p) [e, .Lambda params body scope lpos] [] pos) (eLam T (lamN X) js tb γ (aCons te aNil)) := by
  refine ⟨fun pins s σ H Q I ⟨τ, S, F, R, w, r, q, l⟩ => ?_⟩
  refine wpAny_Call_Name_kw (ld_glob I hgl h.mg ?_ hdb)
  have pa := pa_cons ha (pa_cons (pe_lamE (js := js) TB hcode L hdef) pa_nil he2) he
  refine PySem.W.callWith_K (h₀ := X.base) I.ok.mod.kin h.kp (thn (pa.run pos pins s σ H (fun vs H2 => ∃ (d : D) (S1 : Sto) (v : V) (g a : Addr), vs = [v] ++ [.ref g] ∧ Aft X.K S F H S1 H2 ∧ RpL X.K (cmb S1 F) H2 [d] [v] ∧ LamAt X T js fvs params body scope tb γ R τ S1 F σ H2 [d] g a) I ?_) fun us s1 ⟨vs, H2, I2, rv, d, S1, v, g, a, ev, a2, rl, m⟩ => ⟨I2.kIn, ?_⟩) he hpl
  · refine ⟨τ, S, F, _, w, r, q, fun d S1 v H1 q1 a1 r1 => ?_⟩
    obtain ⟨hS, hq⟩ := q1
    refine ⟨τ, S1, F, a1.wd, a1.rps w r, hS, fun g a H2 b1 k1 k2 n1 n2 => ?_⟩
    exact ⟨d, S1, v, g, a, rfl, a1.trans b1, ⟨v, [], rfl, b1.rp a1.wd r1, rfl⟩, ⟨b1.wd, b1.rps a1.wd (a1.rps w r), k1, k2, n1, n2, hq⟩⟩
  · subst ev
    exact lam_go h.fn har hr hg hj hk h.bd L hjs hbind hbody I2 rv rl m fun d' S' v' H' q' a' r' => l _ _ _ _ q' (a2.trans a') r'
end
end Gx

/-! G49: defs that make lambdas; the law's own call where there are such. -/
namespace Gx
open PySem PySem.Spec PyProof.Rows L2
def lamQ (x : Str) : Str := x ++ ".<locals>." ++ "<lambda>"
/-- as Fun, the code object at c -/
structure FunC (K : PySem.W.Frag) (x qual : Str) (st : Stmt) (f : Addr) (fd : FuncData) (c : Addr) : Prop where
  ex : ∃ (oc : Value) (od : Option Addr) (kV doc pm : Value) (an : Option Addr) (ct : Value) (osl : Array (Option Value)),
    fd = PySem.W.fnOf x qual (defArgs st) (defBody st) (defScope st) .none kV doc pm an (.ref c) ct ∧ K.lookup f = some ⟨oc, od, .func fd, osl⟩ ∧ PySem.W.codeIn K (.ref c) qual = true
  kp : PySem.W.keepIn K (.ref f) = true
theorem funC_mk {K : PySem.W.Frag} {x qual : Str} {st : Stmt} {f c : Addr} {oc : Value} {od an : Option Addr} {osl : Array (Option Value)} {kV doc pm ct : Value} (l : K.lookup f = some ⟨oc, od, .func (PySem.W.fnOf x qual (defArgs st) (defBody st) (defScope st) .none kV doc pm an (.ref c) ct), osl⟩)
    (cd : PySem.W.codeIn K (.ref c) qual = true) (k : PySem.W.keepIn K (.ref f) = true) : FunC K x qual st f (PySem.W.fnOf x qual (defArgs st) (defBody st) (defScope st) .none kV doc pm an (.ref c) ct) c := ⟨⟨oc, od, kV, doc, pm, an, ct, osl, rfl, l, cd⟩, k⟩
section
variable {P : Program} {w : World} {K : PySem.W.Frag} {mg : Str → Option Value} {base : Heap}
/-- a def that makes lambdas: two levels more than what these call -/
theorem gfnC_of {x qual : Str} {st : Stmt} {f c : Addr} {fd : FuncData} {N ps : List Str} {k : Nat} {γ : OL} (F : FunC K x qual st f fd c) (Sc : FnScope N ps (defScope st)) (len : ∀ ds S R, γ ds S R → ds.length = ps.length)
    (hbody : ∀ (A : Around) (outer : List Env) (s : Shared) (H : Hp), Room k (A.deeper (envOfC qual (defScope st) s.heap.objs.size f (.ref c))) → (A.deeper (envOfC qual (defScope st) s.heap.objs.size f (.ref c))).guards = some [] →
      ∃ t, GSs (cxOf CX0 P w K mg base N qual (defScope st) f (.ref c) A outer s H E0).nox (defBody st) t ∧ ∀ ds S R, γ ds S R → t { nx := fun _ S' => Fin R .non S', rt := Fin R } (startD N.length ds) S) : GFn P w K mg base (k + 1) f fd ps γ := by
  obtain ⟨oc, od, kV, doc, pm, an, ct, osl, rfl, lk, hcd⟩ := F.ex
  refine ⟨len, fun A outer s H args us vs Q hr hgd e0 hb r hsp => ?_⟩
  obtain ⟨ds, S, Fr, R, wd, rl, q, l⟩ := hsp
  have KX : K.In s.heap := e0.mod.kin.keeps fun b o e => (e0.bs b o e).1
  have lim : s.heap.NoLimit := e0.mod.nolimit.keeps fun b o e => (e0.bs b o e).1
  have hl : vs.length = ps.length := rl.length.trans (len ds S R q)
  have hk : ∀ y ∈ ps.zip us, (defScope st).names.lookup y.1 = some .local ∨ ((defScope st).names.lookup y.1 = some .cell ∧ ((cellsFrom (s.heap.objs.size + 1) (defScope st).names []).lookup y.1).isSome = true) := fun y hy =>
    (Sc.par y.1 (List.of_mem_zip hy).1).imp (fun z => z) fun z => ⟨z, PySem.W.cellsFrom_some _ _ _ (.inl z)⟩
  refine codeAny_call_function hr.depth (KX _ _ lk) rfl Sc.co Sc.gen rfl (PySem.W.codeRec_of KX hcd) (hb _ _ _ _ ?_)
  refine wpAny_newFunctionEnv_cells Sc.kind hk fun env he s1 x => ?_
  subst he
  refine ⟨lim.keeps x.toInCall.keep, codeAny_func ?_⟩
  obtain ⟨t, ht, hq⟩ := hbody A outer s H (hr.deeper _) (guards_deeper hgd)
  have I := inv_start (CX := CX0) (E := E0) (cd := .ref c) (qual := qual) (f := f) (mg := mg) Sc hr.hd e0 hl r x
  have fin : ∀ {d : D} {S' : Sto} {v : V} {H' : Hp}, Fin R d S' → Aft K S Fr H S' H' → Rp K (cmb S' Fr) H' d v → Q v H' := fun {d S' v H'} ⟨S2, d2, hs, fz, h⟩ a rv =>
    l d2 S2 v H' h ⟨a.wd.less hs fun _ _ e => e, a.ev.trans (ev_less hs fun _ _ e => e)⟩ (Fz.rp a.wd hs fz rv)
  have hD : LS K t { nx := fun _ H' => Q .non H', rt := Q } (L2.start N vs) H := ⟨_, S, Fr, _, wd, rps_start rl, hq ds S R q,
    ⟨fun τ' S' σ' H' z a _ => fin z a rfl, fun d S' v H' z a rv => fin z a rv, fun _ _ _ _ z => z.elim, fun _ _ _ _ z => z.elim⟩⟩
  refine wpAny_mono ((PSs.nox ht).run [] s1 (L2.start N vs) H _ I hD) (fun fl s' hs => ?_) fun e s' hs => hs
  cases fl with
  | ret u =>
    obtain ⟨v, σ', H', J, rv, z⟩ := hs
    exact ⟨v, H', J.os, J.bare, J.base, J.hok, rv, z⟩
  | next =>
    obtain ⟨σ', H', J, z⟩ := hs
    exact ⟨.non, H', J.os, J.bare, J.base, J.hok, rfl, z⟩
  | brk =>
    obtain ⟨_, _, _, z⟩ := hs
    exact z.elim
  | cont =>
    obtain ⟨_, _, _, z⟩ := hs
    exact z.elim
theorem GFnF.mono {f : Addr} {fd : FuncData} {ps : List Str} {ar j k : Nat} {γ : D → OLX → OL} (G : GFnF P w K mg base j f fd ps ar γ) (h : j ≤ k) : GFnF P w K mg base k f fd ps ar γ :=
  ⟨G.len, fun A outer s H args us vs Q g c q ho caps cv φ hr => G.run A outer s H args us vs Q g c q ho caps cv φ (hr.mono (by omega))⟩
theorem hasF_mk {x : Str} {st : Stmt} {f : Addr} {fd : FuncData} {ps : List Str} {ar j k : Nat} {γ : D → OLX → OL} (F : Fun K x x st f fd) (hm : mg x = some (.ref f)) (hb : Binds K fd ps []) (G : GFnF P w K mg base j f fd ps ar γ) (hjk : j ≤ k) : HasF P w K mg base k x f fd ps ar γ :=
  ⟨G.mono hjk, hm, F.kp, hb⟩
theorem has_mkC {x : Str} {st : Stmt} {f c : Addr} {fd : FuncData} {ps : List Str} {γ : OL} {j k : Nat} (F : FunC K x x st f fd c) (hm : mg x = some (.ref f)) (hb : Binds K fd ps []) (G : GFn P w K mg base j f fd ps γ) (hjk : j ≤ k) : Has P w K mg base k x f fd ps γ :=
  ⟨G.mono hjk, hm, F.kp, hb⟩
theorem FunC.fn {x qual : Str} {st : Stmt} {f c : Addr} {fd : FuncData} (F : FunC K x qual st f fd c) : Fun K x qual st f fd := by
  obtain ⟨oc, od, kV, doc, pm, an, ct, osl, e, lk, hcd⟩ := F.ex
  exact ⟨⟨oc, od, kV, doc, pm, an, .ref c, ct, osl, e, lk, hcd⟩, F.kp⟩
/-- the tables in the store: code object, table, name -/
def tabS (cs : List (Addr × Addr × Str)) : Sto := fun b => (cs.find? fun p => p.2.1 == b).map fun p => .tab p.2.2
theorem tabS_at : ∀ {cs : List (Addr × Addr × Str)}, (cs.map (·.2.1)).Nodup → ∀ p ∈ cs, tabS cs p.2.1 = some (.tab p.2.2)
  | x :: cs, nd, p, hp => by
    rw [List.map_cons, List.nodup_cons] at nd
    unfold tabS
    rw [List.find?_cons]
    rcases List.mem_cons.mp hp with rfl | hp
    · rw [beq_self_eq_true]; rfl
    · have ne : (x.2.1 == p.2.1) = false := by
        rw [beq_eq_false_iff_ne]
        exact fun z => nd.1 (List.mem_map.mpr ⟨p, hp, z.symm⟩)
      rw [ne]
      exact tabS_at nd.2 p hp
theorem tabS_of {cs : List (Addr × Addr × Str)} {b : Addr} {o : SO} (h : tabS cs b = some o) : ∃ p ∈ cs, p.2.1 = b ∧ o = .tab p.2.2 := by
  unfold tabS at h
  obtain ⟨p, hp, e⟩ := Option.map_eq_some_iff.mp h
  refine ⟨p, List.mem_of_find?_eq_some hp, ?_, e.symm⟩
  have := List.find?_some hp
  exact beq_iff_eq.mp this
theorem gx_callT {mb : Str → Option Value} {k : Nat} {fa a : Addr} {fd : FuncData} {x : Str} {γ : OL} {sh : Shared} {vs : List Value} {ns : List Int} {cs : List (Addr × Addr × Str)}
    (KX : K.In sh.heap) (hm : sh.heap.Ns mainGlobals mg) (hb : sh.heap.Ns builtinsNs mb) (hbb : ∀ y : Str, y ≠ "__name__" → mb y = bootBuiltins y) (hlim : sh.heap.NoLimit) (hg : sh.gens = #[])
    (nd : (cs.map (·.2.1)).Nodup) (hT : ∀ p ∈ cs, sh.heap.get? p.2.1 = some { cls := .none, data := .fields #[] }) (nT : ∀ p ∈ cs, K.lookup p.2.1 = none) (C : ∀ p ∈ cs, PySem.W.CodeHd sh.heap p.1 p.2.1)
    (hbm : ∃ (bm : Addr) (ob : Obj), mg "__builtins__" = some (.ref bm) ∧ bm ≠ builtinsNs ∧ sh.heap.get? bm = some ob ∧ ob.cls = .type "module" ∧ ob.dict = some builtinsNs ∧ ob.data = .plain)
    (ha : sh.heap.get? a = some { cls := .type "list", data := .seq vs.toArray }) (hi : IntsAre vs ns) (hl : ns.length ≤ sizeLine) (hr : Room k callerA)
    (F : ∀ bs : Heap, K.In bs → bs.Ns mainGlobals mg → (∀ p ∈ cs, LamX.TabB bs mg p.1 p.2.1) → GFn P w K mg bs k fa fd [x] γ) (hbind : ∀ (s : Shared) (u : Value), BindsTo s fd ⟨[u], []⟩ [(x, u)])
    (hγ : ∀ (R : QD) (S : Sto), (∀ p ∈ cs, S p.2.1 = some (.tab p.2.2)) → R (.bl true) S → γ [.scr (ns.map .int)] S R) :
    codeAny (model P w) callerA (.call (.ref fa) ⟨[.ref a], []⟩) (fun r s' => r = .ok (.ret (.bool true)) ∧ OldK sh.heap s'.heap ∧ s'.os = sh.os ∧ AllBare s'.gens) sh := by
  have rv := vals_ints hi
  let obj : Obj := { cls := .type "list", data := .seq vs.toArray }
  let tob : Obj := { cls := .none, data := .fields #[] }
  let H : Hp := fun b => if b = a ∧ K.lookup a = none then some (.frz obj (.lst (ns.map V.int))) else if b ∈ cs.map (·.2.1) then some (.tbl #[]) else none
  have isT : ∀ b : Addr, b ∈ cs.map (·.2.1) → sh.heap.get? b = some tob := fun b hb => by
    obtain ⟨p, hp, e⟩ := List.mem_map.mp hb
    rw [← e]; exact hT p hp
  have aT : a ∉ cs.map (·.2.1) := fun z => by
    have q := isT a z
    rw [ha] at q
    exact nomatch (congrArg Obj.data (Option.some.inj q) : Data.seq vs.toArray _ = Data.fields #[])
  have memT : ∀ p ∈ cs, p.2.1 ∈ cs.map (·.2.1) := fun p hp => List.mem_map.mpr ⟨p, hp, rfl⟩
  have HT : ∀ b : Addr, b ∈ cs.map (·.2.1) → H b = some (.tbl #[]) := fun b hb => by
    have nb : ¬ (b = a ∧ K.lookup a = none) := fun z => aT (by rw [← z.1]; exact hb)
    exact (if_neg nb).trans (if_pos hb)
  have Hyes : ∀ {b : Addr} {u : HO}, H b = some u → (b = a ∧ K.lookup a = none ∧ u = .frz obj (.lst (ns.map V.int))) ∨ (b ∈ cs.map (·.2.1) ∧ u = .tbl #[]) := fun {b u} e => by
    by_cases c : b = a ∧ K.lookup a = none
    · have e := (if_pos c).symm.trans e
      cases e
      exact .inl ⟨c.1, c.2, rfl⟩
    · have e := (if_neg c).symm.trans e
      by_cases c2 : b ∈ cs.map (·.2.1)
      · have e := (if_pos c2).symm.trans e
        cases e
        exact .inr ⟨c2, rfl⟩
      · have e := (if_neg c2).symm.trans e
        cases e
  have Hno : ∀ {b : Addr} {o : Obj}, sh.heap.get? b = some o → o ≠ obj → o ≠ tob → H b = none := fun {b o} e n n2 => by
    cases q : H b with
    | none => rfl
    | some u =>
      rcases Hyes q with ⟨rfl, _⟩ | ⟨h, _⟩
      · rw [ha] at e
        cases e
        exact absurd rfl n
      · rw [isT b h] at e
        cases e
        exact absurd rfl n2
  have dictNe : ∀ {o : Obj} {es : Array DictEntry} {ep : Nat}, o.data = .dict es ep → o ≠ obj ∧ o ≠ tob := fun {o es ep} d => ⟨(fun e => by rw [e] at d; cases d), (fun e => by rw [e] at d; cases d)⟩
  have nsT : ∀ {b : Addr} {m : Str → Option Value}, sh.heap.Ns b m → (hidT sh.heap H).Ns b m := fun {b m} z => by
    obtain ⟨o, es, ep, e, d, r⟩ := z
    exact ⟨o, es, ep, hidT_get e (Hno e (dictNe d).1 (dictNe d).2), d, r⟩
  have KT : K.In (hidT sh.heap H) := fun b o e => hidT_get (KX b o e) (by
    cases q : H b with
    | none => rfl
    | some u =>
      rcases Hyes q with ⟨rfl, n, _⟩ | ⟨h, _⟩
      · rw [n] at e; cases e
      · obtain ⟨p, hp, rfl⟩ := List.mem_map.mp h
        rw [nT p hp] at e; cases e)
  have hM : Mod K mg (hidT sh.heap H) := ⟨KT, nsT hm, ⟨mb, nsT hb, hbb⟩, hlim.elim fun mc z => ⟨mc, nsT z.1, z.2⟩⟩
  have hok : HOk P w H sh.heap := fun b u e => by
    rcases Hyes e with ⟨rfl, _, rfl⟩ | ⟨h, rfl⟩
    · exact ⟨ha, by rw [List.length_map]; exact hl, vs, _, rv, ha⟩
    · exact isT b h
  have TB : ∀ p ∈ cs, LamX.TabB (hidT sh.heap H) mg p.1 p.2.1 := fun p hp => by
    have hTp := hT p hp
    refine ⟨?_, ?_, fun z => ?_⟩
    · obtain ⟨o, us, file, tf, flags, tg, inF, text, tt, e1, r1, r2, r3, rest⟩ := C p hp
      refine ⟨o, us, file, tf, flags, tg, inF, text, tt, hidT_get e1 (Hno e1 (fun z => ?_) fun z => ?_), r1, r2, r3, rest⟩
      · rw [z] at r2; cases r2
      · rw [z] at r2
        cases r2
        simp at r3
    · obtain ⟨bm, ob, b1, b2, b3, b4, b5, b6⟩ := hbm
      refine ⟨bm, ob, b1, b2, fun q => ?_, fun q => ?_, hidT_get b3 (Hno b3 (fun z => ?_) fun z => ?_), b4, b5, b6⟩
      · obtain ⟨o, es, ep, e, hd, _⟩ := hm
        rw [q, e] at b3
        cases b3
        rw [hd] at b6; cases b6
      · rw [q, hTp] at b3
        cases b3
        cases b6
      · rw [z] at b6; cases b6
      · rw [z] at b6; cases b6
    · obtain ⟨o, es, ep, e, hd, _⟩ := hm
      rw [z, hTp] at e
      cases e
      cases hd
  have e0 : Env0 P w K mg (hidT sh.heap H) callerA [] sh H := ⟨rfl, hM, fun b o e => of_hidT e, Nat.le_of_eq (hidT_size _ _), trivial, (fun b (z : b ∈ ([] : List Addr)) => nomatch z), hok, .of_eq hg⟩
  have len := hi.length
  have na : tabS cs a = none := by
    cases q : tabS cs a with
    | none => rfl
    | some o =>
      obtain ⟨p, hp, e, _⟩ := tabS_of q
      exact absurd (by rw [← e]; exact memT p hp) aT
  have wd : Wd K (tabS cs) (fun _ => none) H := by
    refine ⟨fun _ => .inr rfl, fun b o z => ?_⟩
    have z : tabS cs b = some o := by
      cases q : tabS cs b with
      | none => rw [cmb_r q] at z; cases z
      | some u => rw [cmb_l q] at z; exact z
    obtain ⟨p, hp, rfl, rfl⟩ := tabS_of z
    refine ⟨#[], HT _ (memT p hp), True.intro, fun pos cv hc => ?_⟩
    have z : codeAmong pos [] = some cv := hc
    simp [codeAmong] at z
  have sc : ScrAt K (cmb (tabS cs) fun _ => none) H a (ns.map V.int) := by
    cases q : K.lookup a with
    | none => exact .inl ⟨cmb_of_none na rfl, .inr ⟨obj, if_pos ⟨rfl, q⟩⟩⟩
    | some o =>
      have e := KX a o q
      rw [ha] at e
      cases e
      exact .inr (.inr ⟨_, vs.toArray, _, q, rfl, rfl, rfl, by rw [List.size_toArray, len]; exact hl, by simpa using rv⟩)
  have rl : ∀ ms : List Int, RpL K (cmb (tabS cs) fun _ => none) H (ms.map D.int) (ms.map V.int) := fun ms => by
    induction ms with
    | nil => rfl
    | cons m ms ih => exact ⟨_, _, rfl, rfl, ih⟩
  have lo : LLO K γ [.ref a] H (fun v _ => v = .bl true) :=
    ⟨[.scr (ns.map .int)], tabS cs, fun _ => none, fun d _ => d = .bl true, wd, ⟨_, _, rfl, ⟨a, ns.map V.int, rfl, sc, rl ns⟩, rfl⟩, hγ _ _ (tabS_at nd) rfl, fun d _ v _ q _ rd => by
      subst q
      exact rd⟩
  refine codeAny_mono ((F _ KT (nsT hm) TB).run callerA [] sh H ⟨[.ref a], []⟩ [.ref a] [.ref a] _ hr rfl e0 (hbind sh (.ref a)) (.cons rfl .nil) lo) fun r s' h => ?_
  cases r with
  | error e => exact False.elim h
  | ok fl =>
    cases fl with
    | next => exact False.elim h
    | brk => exact False.elim h
    | cont => exact False.elim h
    | ret u =>
      obtain ⟨v, H', os, bare, un, hok', rr, q⟩ := h
      have q : v = .bl true := q
      subst q
      obtain rfl : u = Value.bool true := rr
      have key : ∀ b o, b ∉ cs.map (·.2.1) → sh.heap.get? b = some o → s'.heap.get? b = some o := fun b o nb e => by
        cases q : H b with
        | none => exact un.keep b o e q (fun (z : b ∈ ([] : List Addr)) => nomatch z) (fun z => nomatch z)
        | some u =>
          rcases Hyes q with ⟨rfl, _, rfl⟩ | ⟨h, _⟩
          · obtain ⟨e2, _⟩ := hok' b _ (un.frzs b _ _ q)
            rw [ha] at e
            cases e
            exact e2
          · exact absurd h nb
      have grown : ∀ p ∈ cs, ∃ more : Array Value, s'.heap.get? p.2.1 = some { cls := .none, data := .fields more } := fun p hp => by
        obtain ⟨more, z⟩ := un.tbls p.2.1 #[] (HT _ (memT p hp))
        exact ⟨_, hok' p.2.1 _ z⟩
      refine ⟨rfl, ⟨fun b o e => ?_, fun b o e => ?_⟩, os, bare⟩
      · by_cases hb : b ∈ cs.map (·.2.1)
        · obtain ⟨p, hp, rfl⟩ := List.mem_map.mp hb
          obtain ⟨more, hm⟩ := grown p hp
          rw [hT p hp] at e
          cases e
          exact .inr (.inl ⟨((C p hp).tab (hT p hp)).isCodeTable, rfl, #[], more, rfl, by rw [Array.empty_append]; exact hm⟩)
        · exact .inl (key b o hb e)
      · by_cases hb : b ∈ cs.map (·.2.1)
        · obtain ⟨p, hp, rfl⟩ := List.mem_map.mp hb
          obtain ⟨more, hm⟩ := grown p hp
          exact ⟨_, hm⟩
        · exact ⟨o, key b o hb e⟩
end
theorem gx_walkT {l : PySem.W.OpenLaw} {n k : Nat} {q : Program} {loose : List Str} {XP : (Str → Option Value) → Heap → Prop} {YP : World → Heap → Prop} {d : DefRec} {K : Params → PySem.W.Frag} {x : Str}
    (hn : l.most = some n) (hn2 : n ≤ sizeLine) (hdf : d.params.defaults = []) (hr : Room k callerA) (hY : ∀ (w : World) (h : Heap), YP w h → (K w.params).In h)
    (F : ∀ (w : World) (mg : Str → Option Value) (fa : Addr) (h : Heap), YP w h → (K w.params).In h → h.Ns mainGlobals mg → mg d.name = some (.ref fa) →
      ∃ (fd : FuncData) (cs : List (Addr × Addr × Str)) (γ : OL), (cs.map (·.2.1)).Nodup ∧ (∀ p ∈ cs, h.get? p.2.1 = some { cls := .none, data := .fields #[] }) ∧ (∀ p ∈ cs, (K w.params).lookup p.2.1 = none) ∧ (∀ p ∈ cs, PySem.W.CodeHd h p.1 p.2.1) ∧
        (∀ (s : Shared) (u : Value), BindsTo s fd ⟨[u], []⟩ [(x, u)]) ∧ (∀ ns : List Int, ns.length ≤ n → ∀ (R : QD) (S : Sto), (∀ p ∈ cs, S p.2.1 = some (.tab p.2.2)) → R (.bl true) S → γ [.scr (ns.map .int)] S R) ∧
        ∀ bs : Heap, (K w.params).In bs → bs.Ns mainGlobals mg → (∀ p ∈ cs, LamX.TabB bs mg p.1 p.2.1) → GFn l.prog w (K w.params) mg bs k fa fd [x] γ) :
    PySem.W.WalkO q loose XP YP l.row.toRowW d [] (fun f vs => PySem.call f vs) := by
  refine Att.attach_call hn hdf fun w s₀ sh mg mb fa o pm cd doc a vs ns G Y _ _ _ hmg hobj hints hlen hg => ?_
  have KX := hY w _ Y
  obtain ⟨fd, cs, γ, nd, hT, nT, C, hb, hγ, hF⟩ := F w mg fa _ Y KX G.T.g hmg
  exact gx_callT KX G.T.g G.T.b G.T.builtins G.T.nolimit hg nd hT nT C G.T.bmain hobj hints (Nat.le_trans hlen hn2) hr hF hb fun R S h => hγ ns hlen R S h
end Gx

/-! G50: a function without arguments that was handed on is called. -/
namespace Gx
open PySem PySem.Spec PyProof.Rows L2
section
variable {Z : Cx} {f c : Addr} {q : Str} {ho : HO} {caps : List D} {cv : List V} {ar : Nat} {φ : OLX} {a : Str} {p pos : Pos} {pn : List (Addr × Obj)} {xe : Value → Shared → Prop}
end
end Gx

/-! G51: sorted(xs), xs a list of lists of ints. -/
namespace Gx
open PySem PySem.Spec PyProof.Rows L2
def rwD (ns : List Int) : D := .lst (ns.map .int)
abbrev rowP (ns : List Int) : PyData := .list (ns.map .int)
theorem pyDL_ints : ∀ ns : List Int, pyDL (ns.map D.int) = ns.map PyData.int
  | [] => rfl
  | n :: ns => by
    show PyData.int n :: pyDL (ns.map D.int) = _
    rw [pyDL_ints ns]; rfl
theorem pyD_row (ns : List Int) : pyD (rwD ns) = rowP ns := by
  show PyData.list (pyDL (ns.map D.int)) = _
  rw [pyDL_ints]
theorem pl_row (ns : List Int) : pl 60 (rwD ns) = true := by
  show (ns.map D.int).all (pl 59) = true
  rw [List.all_eq_true]
  intro d hd
  obtain ⟨i, _, rfl⟩ := List.mem_map.mp hd
  rfl
theorem alikeAll_ints : ∀ a b : List Int, PySem.W.alikeAll (a.map PyData.int) (b.map PyData.int) = true
  | [], b => by cases b <;> rfl
  | x :: a, [] => rfl
  | x :: a, y :: b => by
    show (PySem.W.alike (.int x) (.int y) && PySem.W.alikeAll (a.map PyData.int) (b.map PyData.int)) = true
    rw [alikeAll_ints a b]; rfl
theorem alike_row (a b : List Int) : PySem.W.alike (rowP a) (rowP b) = true := by
  show PySem.W.alikeAll (a.map PyData.int) (b.map PyData.int) = true
  exact alikeAll_ints a b
abbrev leRow (p q : List Int × V) : Bool := decide (p.1 ≤ q.1)
theorem leRow_eq : PySem.W.dataLe false (fun b : List Int × V => rowP b.1) = leRow := PySem.W.dataLe_rows fun b : List Int × V => b.1
theorem depth_row (ns : List Int) : (rowP ns).depth ≤ 60 := by
  have := (pl_shape (rwD ns) 60 (pl_row ns)).2
  rwa [pyD_row] at this
/-- the values and what they stand for, in pairs -/
theorem pairs_is {us : List Value} {xs : List V} : ∀ {nss : List (List Int)}, Vals xs us → nss.length = xs.length → PySem.W.EachIs (fun (u : Value) (b : List Int × V) => RelV b.2 u) us (nss.zip xs)
  | [], r, h => by
    cases r with
    | nil => exact .nil
    | cons _ _ => simp at h
  | n :: nss, r, h => by
    cases r with
    | nil => simp at h
    | cons rx rr => exact .cons rx (pairs_is rr (by simpa using h))
def cSortedR : OL := fun ds S R => match ds with
  | [d] => ∃ nss : List (List Int), rs S d = .lst (nss.map rwD) ∧ nss.length ≤ 1000 ∧ ∀ mss : List (List Int), mss.Perm nss → mss.Pairwise (· ≤ ·) → R (.lst (mss.map rwD)) S
  | _ => False
section
variable {X : Cx}
theorem rpl_pairs {K : PySem.W.Frag} {T : Sto} {H : Hp} : ∀ {ps : List (List Int × V)}, (∀ p ∈ ps, Rp K T H (rwD p.1) p.2) → RpL K T H ((ps.map (·.1)).map rwD) (ps.map (·.2))
  | [], _ => rfl
  | p :: ps, h => ⟨p.2, _, rfl, h p List.mem_cons_self, rpl_pairs fun q hq => h q (List.mem_cons_of_mem _ hq)⟩
theorem pairs_rpl {K : PySem.W.Frag} {T : Sto} {H : Hp} : ∀ {nss : List (List Int)} {xs : List V}, RpL K T H (nss.map rwD) xs → ∀ p ∈ nss.zip xs, Rp K T H (rwD p.1) p.2
  | [], _, _, p, hp => by simp at hp
  | n :: nss, _, h, p, hp => by
    obtain ⟨x, r, rfl, q, q2⟩ := h
    rcases List.mem_cons.mp hp with rfl | hp
    · exact q
    · exact pairs_rpl q2 p hp
theorem vals_of {us : List Value} : ∀ {bs : List (List Int × V)}, PySem.W.EachIs (fun (u : Value) (b : List Int × V) => RelV b.2 u) us bs → Vals (bs.map (·.2)) us := fun {bs} h => by
  induction h with
  | nil => exact .nil
  | cons r _ ih => exact .cons r ih
theorem c_sortedR (hu : X.A.units + 65 < cLine) : GC X (.builtin "sorted") cSortedR := fun pins s σ H vs us Q I r ⟨ds, S, F, R, w, r1, q, l⟩ => by
  unfold cSortedR at q
  split at q
  · rename_i d
    obtain ⟨nss, he, few, q⟩ := q
    obtain ⟨x, _, rfl, rx, rfl⟩ := r1
    obtain ⟨a, xs, rfl, hx, rl⟩ := rs_lst w rx he
    have len := rl.length
    rw [List.length_map] at len
    obtain ⟨its, rv, hl, hz⟩ := I.list (SqL.of hx)
    rw [Vals.ref1 r]
    have pr := pairs_rpl rl
    have e0 := pairs_is rv (nss := nss) len.symm
    have dps : ∀ p ∈ nss.zip xs, Dp X.K H p.2 (rowP p.1) := fun p hp => by
      have := dp_of _ 60 _ (pl_row p.1) (pr p hp)
      rwa [pyD_row] at this
    have er : PySem.W.EachIs (fun v b => ∃ as, Reads s.heap v (rowP b.1) as) its (nss.zip xs) := (PySem.W.each_mem e0).mono fun v b ⟨h1, h2⟩ => Dp.reads I _ _ _ (dps b h2) h1
    have bl : (nss.zip xs).length = nss.length := by rw [List.length_zip]; omega
    refine PySem.W.sorted_data (enc := fun b : List Int × V => rowP b.1) hl.isList e0 er (fun d hd d' hd' => ?_) (.inr fun d hd => ?_) (by rw [bl]; exact Nat.le_trans few (by decide)) (fun b _ => ?_) fun out hlen ho => ?_
    · obtain ⟨b, _, rfl⟩ := List.mem_map.mp hd
      obtain ⟨b', _, rfl⟩ := List.mem_map.mp hd'
      exact alike_row _ _
    · obtain ⟨b, _, rfl⟩ := List.mem_map.mp hd
      exact ⟨(fun z => nomatch z), (fun _ z => nomatch z)⟩
    · have := depth_row b.1
      show X.A.units + 2 + (rowP b.1).depth < cLine
      omega
    · rw [leRow_eq] at ho
      have vo := vals_of ho
      have perm := List.mergeSort_perm (nss.zip xs) leRow
      have hsorted : ((nss.zip xs).mergeSort leRow).Pairwise fun p q => leRow p q = true := List.pairwise_mergeSort (le := leRow) (fun a b c h1 h2 => decide_eq_true (List.le_trans (of_decide_eq_true (show decide (a.1 ≤ b.1) = true from h1)) (of_decide_eq_true (show decide (b.1 ≤ c.1) = true from h2)))) (fun a b => by
        show (decide (a.1 ≤ b.1) || decide (b.1 ≤ a.1)) = true
        rcases List.le_total a.1 b.1 with h | h
        · rw [decide_eq_true h]; rfl
        · rw [decide_eq_true h, Bool.or_true]) _
      generalize (nss.zip xs).mergeSort leRow = ms at *
      obtain ⟨ep, hat⟩ := PyProof.Rows.sortedAll_at s.heap its (List.toArray out)
      have fits : (ms.map (·.2)).length ≤ sizeLine := by
        rw [List.length_map, perm.length_eq, bl]
        exact Nat.le_trans few (by decide)
      have hp0 : H (s.heap.objs.size + 1) = none := I.hok.fresh (Nat.le_succ _)
      have J : Inv X pins σ (upd H (s.heap.objs.size + 1) (.lst (ms.map (·.2)))) { s with heap := PyProof.Rows.sortedAll s.heap its (List.toArray out) } := I.laid (t' := s.toks) (fun _ _ => PyProof.Rows.sortedAll_old) (Nat.le_succ _) ⟨fits, out, ep, vo, hat⟩
      refine ⟨.ref _, _, J, rfl, l _ _ _ _ (q (ms.map (·.1)) ?_ ?_) (Aft.new w hp0) (rp_newL w hp0 (rpl_pairs fun p hp => pr p (perm.subset hp)))⟩
      · have := perm.map (·.1)
        rw [List.map_fst_zip (by omega)] at this
        exact this
      · rw [List.pairwise_map]
        exact hsorted.imp fun h => of_decide_eq_true h
  · exact q.elim
end
end Gx

/-! G52: min(x), x a tuple of ints. -/
namespace Gx
open PySem PySem.Spec PyProof.Rows L2
theorem reads_ints {h : Heap} : ∀ {ns : List Int} {us : List Value}, Vals (ns.map V.int) us → ReadsAll h us (ns.map PyData.int) []
  | [], _, r => by cases r; exact .nil
  | n :: ns, _, r => by
    cases r with
    | cons a b =>
      obtain ⟨t, rfl⟩ := a
      exact .cons (as := []) (bs := []) (.int _ _) (reads_ints b)
theorem foldl_min : ∀ (ns : List Int) (n : Int), ns.foldl min n ∈ n :: ns ∧ ∀ y ∈ n :: ns, ns.foldl min n ≤ y
  | [], n => ⟨List.mem_cons_self, fun y hy => by rw [List.mem_singleton] at hy; subst hy; exact Int.le_refl _⟩
  | m :: ns, n => by
    obtain ⟨a, b⟩ := foldl_min ns (min n m)
    refine ⟨?_, fun y hy => ?_⟩
    · rw [List.foldl_cons]
      rcases List.mem_cons.mp a with e | e
      · rw [e]
        rcases Int.le_total n m with z | z
        · rw [Int.min_eq_left z]; exact List.mem_cons_self
        · rw [Int.min_eq_right z]; exact List.mem_cons_of_mem _ List.mem_cons_self
      · exact List.mem_cons_of_mem _ (List.mem_cons_of_mem _ e)
    · rw [List.foldl_cons]
      have h0 := b _ List.mem_cons_self
      rcases List.mem_cons.mp hy with rfl | hy
      · exact Int.le_trans h0 (Int.min_le_left _ _)
      · rcases List.mem_cons.mp hy with rfl | hy
        · exact Int.le_trans h0 (Int.min_le_right _ _)
        · exact b y (List.mem_cons_of_mem _ hy)
def cMinT : OL := fun ds S R => match ds with
  | [.tup es] => (match intsOf es with
    | some ns => (ns ≠ [] ∧ ns.length ≤ 1000) ∧ ∀ m, m ∈ ns → (∀ y, y ∈ ns → m ≤ y) → R (.int m) S
    | none => False)
  | _ => False
section
variable {X : Cx}
theorem c_minT (hc : X.calm = true) (hu : X.A.units + 65 < cLine) : GC X (.builtin "min") cMinT := fun pins s σ H vs us Q I r ⟨ds, S, F, R, w, r1, q, l⟩ => by
  unfold cMinT at q
  split at q
  · obtain ⟨x, _, rfl, rx, rfl⟩ := r1
    split at q
    · rename_i es ns he
      obtain ⟨a, xs, rfl, hs, rl⟩ := rx
      rw [intsOf_eq he] at rl
      rw [RpL.ints rl] at hs
      obtain ⟨its, rv, pl, _⟩ := I.tuple hs
      rw [Vals.ref1 r]
      cases ns with
      | nil => exact absurd rfl q.1.1
      | cons n ns =>
        have hr := reads_ints (h := s.heap) rv
        have dep : PyData.depthAll ((n :: ns).map PyData.int) = 0 := by
          have : ∀ ms : List Int, PyData.depthAll (ms.map PyData.int) = 0 := fun ms => by
            induction ms with
            | nil => rfl
            | cons m ms ih =>
              show max 0 (PyData.depthAll (ms.map PyData.int)) = 0
              rw [ih]; rfl
          exact this _
        refine PySem.W.min_tuple_data (x := .int n) (xs := ns.map .int) (I.ok.hd hc) pl hr ⟨fun x hx y hy => ?_, fun x hx => ?_⟩ (by have := dep; simp only [List.map_cons] at this; rw [this]; omega) fun i v h' tk bs hi rd hk => ?_
        · obtain ⟨i, _, rfl⟩ := List.mem_map.mp (show x ∈ (n :: ns).map PyData.int from hx)
          obtain ⟨j, _, rfl⟩ := List.mem_map.mp (show y ∈ (n :: ns).map PyData.int from hy)
          rfl
        · obtain ⟨i, _, rfl⟩ := List.mem_map.mp (show x ∈ (n :: ns).map PyData.int from hx)
          exact fun z => nomatch z
        · rw [PySem.W.minD_ints] at rd
          obtain ⟨m1, m2⟩ := foldl_min ns n
          cases rd
          exact ⟨.int _, H, I.kept hk, ⟨_, rfl⟩, l _ _ _ _ (q.2 _ m1 m2) (Aft.refl w) rfl⟩
    · exact q.elim
  · exact q.elim
end
end Gx

/-! Gx, data side 1: whole numbers, fractions. -/
namespace Gx
open PySem L2
theorem rs_plain {S : Sto} {d : D} (h : isPlainTop d = true) : rs S d = d := by cases d <;> first | rfl | cases h
theorem itemsOf_tup (ds : List D) : itemsOf (.tup ds) = some ds := rfl
theorem itemsOf_lst (ds : List D) : itemsOf (.lst ds) = some ds := rfl
theorem itemsOf_scr (ds : List D) : itemsOf (.scr ds) = some ds := rfl
theorem seqG_tup (S : Sto) (Z : List D → (Sto → Prop) → Sto → Prop) (ds : List D) : seqG S Z (.tup ds) = Z ds (fun _ => True) S := rfl
theorem seqG_lst (S : Sto) (Z : List D → (Sto → Prop) → Sto → Prop) (ds : List D) : seqG S Z (.lst ds) = Z ds (fun _ => True) S := rfl
theorem seqG_scr (S : Sto) (Z : List D → (Sto → Prop) → Sto → Prop) (ds : List D) : seqG S Z (.scr ds) = Z ds (fun _ => True) S := rfl
theorem seqG_ref {S : Sto} {p : Addr} {ds : List D} (h : S p = some (.lst ds)) (Z : List D → (Sto → Prop) → Sto → Prop) : seqG S Z (.ref p) = Z ds (fun S' => S' p = some (.lst ds)) S := by simp only [seqG, h]
theorem td_tup (ds : List D) : isTupD (.tup ds) = true := rfl
theorem td_lst (ds : List D) : isTupD (.lst ds) = false := rfl
theorem td_scr (ds : List D) : isTupD (.scr ds) = false := rfl
theorem cu_tup (lo hi : Option Int) (S : Sto) (R : QD) (ds : List D) : oCut lo hi S R (.tup ds) = R (.tup (cutD ds lo hi)) S := rfl
theorem cu_lst (lo hi : Option Int) (S : Sto) (R : QD) (ds : List D) : oCut lo hi S R (.lst ds) = R (.lst (cutD ds lo hi)) S := rfl
theorem cu_scr (lo hi : Option Int) (S : Sto) (R : QD) (ds : List D) : oCut lo hi S R (.scr ds) = R (.lst (cutD ds lo hi)) S := rfl
/-- the end of a def -/
abbrev Ed (R : QD) : EndG := { nx := fun _ S' => Fin R .non S', rt := Fin R }
theorem fin_of {R : QD} {d : D} {S : Sto} (h : R d S) : Fin R d S := Fin.plain h
/-- the law of a def: what it promises follows from its reading -/
def Law (n : Nat) (γ : OL) (body : ST) : Prop := ∀ ds S R, γ ds S R → body (Ed R) (startD n ds) S

/-! ### whole numbers, tuples -/
def isWh : D → Bool
  | .int _ => true
  | _ => false
def γ_is_whole : OL := fun ds S R => match ds with
  | [d] => isPlainTop d = true ∧ R (.bl (isWh d)) S
  | _ => False
def body_is_whole : ST := sRet (eAnd (eCall cIsi (aCons (eVar 0) (aCons (eC (.ty "int")) (aNil)))) (eNot (eCall cIsi (aCons (eVar 0) (aCons (eC (.ty "bool")) (aNil))))))
local macro_rules | `(tactic| simp_arith [$xs,*]) => `(tactic| try simp only [eVar, eC, eBin, eUn, tBl, tAnd', tOr', tNot', eAnd, eOr, eNot, eIf, aNil, aCons, eTup, eLst, eLstM, eCall, eCallK, pick, sNext, sSeq, sBreak, sCont, sDrop, sRet, sRetN, sIf, sNever, gNm, gsNil, gsCons, gTupl, gSubs, sAsg, sPar, sPar3, sFor, iSeq, seqG_tup, seqG_lst, seqG_scr, iRange1, iRange2, iEnumG, iZipG, td_tup, td_lst, td_scr, eLc, eLcM, tYes', pNone, pSome, eSl, cu_tup, cu_lst, cu_scr, eMt, eMt0, mAppend, isL, rs_non, rs_bl, rs_int, rs_str, rs_tup, rs_lst', rs_scr, itemsOf_tup, itemsOf_lst, itemsOf_scr, oI, oI0, oSub, oFdiv, oMod, oPow, oShl, oShr, oAnd, oOr, oXor, oLt, oLe, oGt, oGe, oNeg, oIsN, oNotN, Gx.isNon, oAdd, oAdd', oMul, oMul', oMulM, oEq, oNe, oEqS, oNeS, oIn, oNin, eChain, oIx, oSet, cLen, cList, cListM, cTuple, cSum, cAll, cAny, cInt, cAbs, cMax2, cMin2, cDivmod, cGcd, cIsi, cRepr, lstInts, lstBls, startD, wipeD, List.map_cons, List.map_nil, List.length_cons, List.length_nil, List.cons_append, List.nil_append, List.replicate_succ, List.replicate_zero, List.set_cons_succ, List.set_cons_zero, List.getElem?_cons_succ, List.getElem?_cons_zero, List.filterMap_cons_some, List.filterMap_nil, Nat.reduceAdd, Nat.reduceSub, Nat.sub_self, Nat.reduceLT, Nat.reduceMul, Nat.zero_add, Nat.add_zero, if_true, if_false, and_true, true_and, and_false, false_and, or_true, true_or, or_false, false_or, not_true_eq_false, not_false_eq_true, Bool.not_true, Bool.not_false, Bool.false_eq_true, ite_true, ite_false, reduceIte, reduceCtorEq, eq_self, $xs,*])
theorem law_is_whole : Law 1 γ_is_whole body_is_whole := by
  intro ds S R h
  unfold γ_is_whole at h
  split at h
  · rename_i d
    unfold body_is_whole
    simp_arith [rs_plain h.1, h.1, List.mem_cons, String.reduceEq]
    have q := fin_of h.2
    cases d <;> first | (simpa [isiD, isWh] using q) | (exact nomatch h.1)
  · exact h.elim
/-- a whole number from lo up to hi -/
def isBw (lo hi : Int) : D → Bool
  | .int i => decide (lo ≤ i) && decide (i ≤ hi)
  | _ => false
def γ_is_between : OL := fun ds S R => match ds with
  | [d, .int lo, .int hi] => isPlainTop d = true ∧ R (.bl (isBw lo hi d)) S
  | _ => False
def body_is_between (γ_is_whole : OL) : ST := sRet (eAnd (eCall γ_is_whole (aCons (eVar 0) (aNil))) (eChain oLe oLe (eVar 1) (eVar 0) (eVar 2)))
theorem law_is_between : Law 3 γ_is_between (body_is_between γ_is_whole) := by
  intro ds S R h
  unfold γ_is_between at h
  split at h
  · rename_i d lo hi
    unfold body_is_between γ_is_whole
    simp_arith [h.1]
    have q := fin_of h.2
    cases d with
    | int i =>
      simp only [isWh, isBw] at q ⊢
      by_cases a : lo ≤ i
      · simpa [a] using q
      · simpa [a] using q
    | _ => first | (simpa [isWh, isBw] using q) | (exact nomatch h.1)
  · exact h.elim
def isTp (n : Int) : D → Bool
  | .tup ds => decide ((ds.length : Int) = n)
  | _ => false
theorem eqD_int (i j : Int) : eqD (.int i) (.int j) = decide (i = j) := by
  show (i == j) = decide (i = j)
  by_cases h : i = j
  · subst h; simp
  · simp [h]
theorem pl_int {n : Nat} {i : Int} : pl n (.int i) = true := by cases n <;> rfl
def γ_is_tuple_of : OL := fun ds S R => match ds with
  | [d, .int n] => isPlainTop d = true ∧ R (.bl (isTp n d)) S
  | _ => False
def body_is_tuple_of : ST := sRet (eAnd (eCall cIsi (aCons (eVar 0) (aCons (eC (.ty "tuple")) (aNil)))) (eBin oEq (eCall cLen (aCons (eVar 0) (aNil))) (eVar 1)))
theorem law_is_tuple_of : Law 2 γ_is_tuple_of body_is_tuple_of := by
  intro ds S R h
  unfold γ_is_tuple_of at h
  split at h
  · rename_i d n
    unfold body_is_tuple_of
    simp_arith [rs_plain h.1, h.1, List.mem_cons, String.reduceEq]
    have q := fin_of h.2
    cases d with
    | tup ds =>
      simp only [isTp] at q
      simp_arith [isiD, beq_self_eq_true, pl_int, eqD_int, List.mem_cons, String.reduceEq]
      exact q
    | _ => first | (simpa [isiD, isTp] using q) | (exact nomatch h.1)
  · exact h.elim

/-! ### fractions -/
def encR (q : Rat) : D := .tup [.int q.num, .int q.den]
theorem encR_inj {a b : Rat} : encR a = encR b ↔ a = b := by
  refine ⟨fun h => ?_, fun h => by rw [h]⟩
  simp only [encR, D.tup.injEq, List.cons.injEq, D.int.injEq, and_true] at h
  exact Rat.ext h.1 (by have := h.2; omega)
/-- whether a value is a fraction -/
def isFr : D → Bool
  | .tup [.int n, .int m] => decide (0 < m) && decide (Nat.gcd n.natAbs m.natAbs = 1)
  | _ => false
theorem isFr_enc (q : Rat) : isFr (encR q) = true := by
  have h1 := q.den_pos
  have h2 : Nat.gcd q.num.natAbs q.den = 1 := q.reduced
  simp [isFr, encR, h1, h2]
theorem isFr_of {d : D} (h : isFr d = true) : ∃ q : Rat, d = encR q := by
  unfold isFr at h
  split at h
  · rename_i n m
    simp only [Bool.and_eq_true, decide_eq_true_eq] at h
    refine ⟨⟨n, m.toNat, by omega, ?_⟩, ?_⟩
    · show Nat.gcd n.natAbs m.toNat = 1
      have : m.natAbs = m.toNat := by omega
      rw [← this]; exact h.2
    · simp only [encR, D.tup.injEq, List.cons.injEq, D.int.injEq, and_true, true_and]
      omega
  · cases h
def γ_is_ratio : OL := fun ds S R => match ds with
  | [d] => isPlainTop d = true ∧ (∀ es, d = .tup es → ∀ e ∈ es, isPlainTop e = true) ∧ R (.bl (isFr d)) S
  | _ => False
def body_is_ratio (γ_is_tuple_of γ_is_whole : OL) : ST := sSeq (sIf (tOr' (tNot' (tBl (eCall γ_is_tuple_of (aCons (eVar 0) (aCons (eC (.int 2)) (aNil)))))) (tOr' (tNot' (tBl (eCall γ_is_whole (aCons (eBin oIx (eVar 0) (eC (.int 0))) (aNil))))) (tNot' (tBl (eCall γ_is_whole (aCons (eBin oIx (eVar 0) (eC (.int 1))) (aNil))))))) (sRet (eC (.bl false))) (sNext))
  (sRet (eAnd (eBin oGt (eBin oIx (eVar 0) (eC (.int 1))) (eC (.int 0))) (eBin oEq (eCall cGcd (aCons (eBin oIx (eVar 0) (eC (.int 0))) (aCons (eBin oIx (eVar 0) (eC (.int 1))) (aNil)))) (eC (.int 1)))))
theorem atI_0 {α : Type} {x : α} {xs : List α} : L2.atI (x :: xs) 0 = some x := by
  have := L2.atI_nat (xs := x :: xs) (j := 0) (v := x) rfl
  simpa using this
theorem atI_1 {α : Type} {x y : α} {xs : List α} : L2.atI (x :: y :: xs) 1 = some y := by
  have := L2.atI_nat (xs := x :: y :: xs) (j := 1) (v := y) rfl
  simpa using this
theorem atI_2 {α : Type} {x y z : α} {xs : List α} : L2.atI (x :: y :: z :: xs) 2 = some z := by
  have := L2.atI_nat (xs := x :: y :: z :: xs) (j := 2) (v := z) rfl
  simpa using this
theorem natcast_eq_one {a b : Nat} : decide (((Nat.gcd a b : Nat) : Int) = 1) = decide (Nat.gcd a b = 1) := by
  by_cases h : Nat.gcd a b = 1
  · simp [h]
  · have : ¬ ((Nat.gcd a b : Nat) : Int) = 1 := by omega
    simp [h, this]
theorem law_is_ratio : Law 1 γ_is_ratio (body_is_ratio γ_is_tuple_of γ_is_whole) := by
  intro ds S R h
  unfold γ_is_ratio at h
  split at h
  · rename_i d
    obtain ⟨h1, h2, h3⟩ := h
    unfold body_is_ratio γ_is_tuple_of γ_is_whole
    have q := fin_of h3
    by_cases hd : ∃ x y, d = .tup [x, y]
    · obtain ⟨x, y, rfl⟩ := hd
      have px := h2 _ rfl x (by simp)
      have py := h2 _ rfl y (by simp)
      simp_arith [h1, px, py, isTp, rs_plain h1, atI_0, atI_1, Int.cast_ofNat_Int, decide_true]
      cases x with
      | int n =>
        cases y with
        | int m =>
          simp_arith [isWh, pl_int, eqD_int, natcast_eq_one]
          simp only [isFr] at q
          by_cases a : 0 < m
          · simpa [a] using q
          · simpa [a] using q
        | _ => first | (simpa [isWh, isFr] using q) | (exact nomatch py)
      | _ => first | (simpa [isWh, isFr] using q) | (exact nomatch px)
    · have e1 : isTp 2 d = false := by
        cases d with
        | tup es =>
          match es, hd with
          | [], _ => rfl
          | [_], _ => rfl
          | [x, y], hd => exact absurd ⟨x, y, rfl⟩ hd
          | _ :: _ :: _ :: es, _ =>
            simp only [isTp, List.length_cons, decide_eq_false_iff_not]
            omega
        | _ => rfl
      have e2 : isFr d = false := by
        unfold isFr
        split
        · exact absurd ⟨_, _, rfl⟩ hd
        · rfl
      rw [e2] at q
      simp_arith [h1, e1]
      exact q
  · exact h.elim
/-- the fraction of two whole numbers -/
theorem divInt_parts {a b : Int} (hb : b ≠ 0) (g : Int) (hg : g = if 0 < b then (Nat.gcd a.natAbs b.natAbs : Int) else -(Nat.gcd a.natAbs b.natAbs : Int)) :
    a.fdiv g = (Rat.divInt a b).num ∧ b.fdiv g = ((Rat.divInt a b).den : Int) ∧ g ≠ 0 ∧ g.natAbs ≤ b.natAbs := by
  have hp : 0 < Nat.gcd a.natAbs b.natAbs := Nat.gcd_pos_of_pos_right _ (by omega)
  have hgc : Int.gcd b a = Nat.gcd a.natAbs b.natAbs := by rw [Int.gcd, Nat.gcd_comm]
  have ha : ((Nat.gcd a.natAbs b.natAbs : Nat) : Int) ∣ a := Int.ofNat_dvd_left.mpr (Nat.gcd_dvd_left _ _)
  have hbd : ((Nat.gcd a.natAbs b.natAbs : Nat) : Int) ∣ b := Int.ofNat_dvd_left.mpr (Nat.gcd_dvd_right _ _)
  have hle : Nat.gcd a.natAbs b.natAbs ≤ b.natAbs := Nat.gcd_le_right _ (by omega)
  obtain ⟨x, hx⟩ := ha
  obtain ⟨y, hy⟩ := hbd
  generalize hG : Nat.gcd a.natAbs b.natAbs = G at *
  have hG0 : (G : Int) ≠ 0 := by omega
  rw [Rat.num_divInt, Rat.den_divInt, if_neg hb, hgc]
  by_cases h : 0 < b
  · rw [if_pos h] at hg
    subst hg
    refine ⟨?_, ?_, hG0, by omega⟩
    · rw [Int.sign_eq_one_of_pos h, Int.one_mul, hx, Int.mul_comm, Int.mul_fdiv_cancel _ hG0, Int.mul_ediv_cancel _ hG0]
    · have e : (b.natAbs : Int) = b := by omega
      rw [Int.natCast_ediv, e, hy, Int.mul_comm, Int.mul_fdiv_cancel _ hG0, Int.mul_ediv_cancel _ hG0]
  · rw [if_neg h] at hg
    subst hg
    have hb' : b < 0 := by omega
    refine ⟨?_, ?_, by omega, by omega⟩
    · rw [Int.sign_eq_neg_one_of_neg hb']
      have e : a = (-x) * (-(G : Int)) := by rw [hx]; rw [Int.neg_mul_neg, Int.mul_comm]
      have e2 : -1 * a = (-x) * (G : Int) := by rw [hx, Int.neg_mul, Int.one_mul, Int.neg_mul, Int.mul_comm]
      rw [e2, Int.mul_ediv_cancel _ hG0]
      conv => lhs; rw [e]
      exact Int.mul_fdiv_cancel _ (by omega)
    · have e : (b.natAbs : Int) = -b := by omega
      have e1 : b = (-y) * (-(G : Int)) := by rw [hy]; rw [Int.neg_mul_neg, Int.mul_comm]
      have e2 : -b = (-y) * (G : Int) := by rw [hy, Int.neg_mul, Int.mul_comm]
      rw [Int.natCast_ediv, e, e2, Int.mul_ediv_cancel _ hG0]
      conv => lhs; rw [e1]
      exact Int.mul_fdiv_cancel _ (by omega)
theorem log2_le_of_le {a b : Nat} (h : a ≤ b) (hb : b < 2 ^ 9000) : a.log2 < 9000 := by
  by_cases z : a = 0
  · subst z; decide
  · exact (Nat.log2_lt z).mpr (by omega)
def γ_ratio : OL := fun ds S R => match ds with
  | [.int a, .int b] => (b ≠ 0 ∧ b.natAbs < 2 ^ 9000) ∧ R (encR (Rat.divInt a b)) S
  | _ => False
def body_ratio : ST := sSeq (sAsg (eIf (tBl (eBin oGt (eVar 1) (eC (.int 0)))) (eCall cGcd (aCons (eVar 0) (aCons (eVar 1) (aNil)))) (eUn oNeg (eCall cGcd (aCons (eVar 0) (aCons (eVar 1) (aNil)))))) (gNm 2))
  (sRet (eTup (aCons (eBin oFdiv (eVar 0) (eVar 2)) (aCons (eBin oFdiv (eVar 1) (eVar 2)) (aNil)))))
theorem law_ratio : Law 3 γ_ratio body_ratio := by
  intro ds S R h
  unfold γ_ratio at h
  split at h
  · rename_i a b
    obtain ⟨⟨hb, hb9⟩, h⟩ := h
    obtain ⟨q1, q2, q3, q4⟩ := divInt_parts (a := a) hb _ rfl
    have q := fin_of h
    unfold encR at q
    rw [← q1, ← q2] at q
    have dv := log2_le_of_le q4 hb9
    unfold body_ratio
    by_cases z : 0 < b
    · rw [if_pos z] at q q3 q4 dv
      simp_arith [z, decide_true]
      exact ⟨⟨q3, dv⟩, ⟨q3, dv⟩, by decide, q⟩
    · rw [if_neg z] at q q3 q4 dv
      simp_arith [z, decide_false]
      exact ⟨⟨q3, dv⟩, ⟨q3, dv⟩, by decide, q⟩
  · exact h.elim

/-! ### sizes -/
/-- few figures: the upper number below 2 ^ a, the lower one below 2 ^ b -/
def Sz (a b : Nat) (q : Rat) : Prop := q.num.natAbs < 2 ^ a ∧ q.den < 2 ^ b
theorem Sz.mono {a b c d : Nat} {q : Rat} (h : Sz a b q) (h1 : a ≤ c := by decide) (h2 : b ≤ d := by decide) : Sz c d q :=
  ⟨Nat.lt_of_lt_of_le h.1 (Nat.pow_le_pow_right (by decide) h1), Nat.lt_of_lt_of_le h.2 (Nat.pow_le_pow_right (by decide) h2)⟩
theorem pow2_le {a b : Nat} (h : a ≤ b) : 2 ^ a ≤ 2 ^ b := Nat.pow_le_pow_right (by decide) h
theorem mul_lt2 {x y a b : Nat} (h : x < 2 ^ a) (h' : y < 2 ^ b) : x * y < 2 ^ (a + b) := by
  rw [Nat.pow_add]
  exact Nat.mul_lt_mul'' h h'
/-- what a reduced fraction of a / b needs -/
theorem sz_divInt {n m : Int} {a b : Nat} (h1 : n.natAbs < 2 ^ a) (h2 : m.natAbs < 2 ^ b) (hm : m ≠ 0) : Sz a b (Rat.divInt n m) := by
  have e1 := Rat.num_divInt n m
  have e2 := Rat.den_divInt n m
  rw [if_neg hm] at e2
  refine ⟨?_, ?_⟩
  · rw [e1]
    refine Nat.lt_of_le_of_lt ?_ h1
    rw [Int.natAbs_ediv_of_dvd, Int.natAbs_mul]
    · have : m.sign.natAbs = 1 := by
        rcases Int.lt_trichotomy m 0 with h | h | h
        · rw [Int.sign_eq_neg_one_of_neg h]; rfl
        · exact absurd h hm
        · rw [Int.sign_eq_one_of_pos h]; rfl
      rw [this, Nat.one_mul]
      exact Nat.div_le_self _ _
    · exact Int.dvd_trans (Int.gcd_dvd_right _ _) (Int.dvd_mul_left _ _)
  · rw [e2]
    exact Nat.lt_of_le_of_lt (Nat.div_le_self _ _) h2
/-- numbers that the laws reckon with -/
abbrev Big (q : Rat) : Prop := Sz 400000 4000 q
theorem Big.mul_ok {p q : Rat} (h : Big p) (h' : Big q) : MulOk p.num q.den ∧ MulOk q.num p.den ∧ MulOk p.den q.den ∧ MulOk p.num q.num ∧ MulOk p.den q.num :=
  ⟨.of h.1 (by rw [Int.natAbs_natCast]; exact h'.2), .of h'.1 (by rw [Int.natAbs_natCast]; exact h.2), .of (by rw [Int.natAbs_natCast]; exact h.2) (by rw [Int.natAbs_natCast]; exact h'.2), .of h.1 h'.1, .of (by rw [Int.natAbs_natCast]; exact h.2) h'.1⟩
theorem den_prod {p q : Rat} (h : Big p) (h' : Big q) : ((p.den : Int) * (q.den : Int)) ≠ 0 ∧ ((p.den : Int) * (q.den : Int)).natAbs < 2 ^ 9000 := by
  have hp := p.den_pos
  have hq := q.den_pos
  have h1 := Nat.mul_pos hp hq
  have h2 := mul_lt2 h.2 h'.2
  have h3 := pow2_le (show 4000 + 4000 ≤ 9000 by decide)
  have e : ((p.den : Int) * (q.den : Int)).natAbs = p.den * q.den := by rw [Int.natAbs_mul]; rfl
  refine ⟨?_, by omega⟩
  intro z
  rw [z] at e
  have e : 0 = p.den * q.den := e
  omega
/-! the operations -/
def γ_plus : OL := fun ds S R => ∃ p q : Rat, ds = [encR p, encR q] ∧ (Big p ∧ Big q) ∧ R (encR (p + q)) S
def body_plus (γ_ratio : OL) : ST := sRet (eCall γ_ratio (aCons (eBin oAdd (eBin oMul (eBin oIx (eVar 0) (eC (.int 0))) (eBin oIx (eVar 1) (eC (.int 1)))) (eBin oMul (eBin oIx (eVar 1) (eC (.int 0))) (eBin oIx (eVar 0) (eC (.int 1))))) (aCons (eBin oMul (eBin oIx (eVar 0) (eC (.int 1))) (eBin oIx (eVar 1) (eC (.int 1)))) (aNil))))
theorem add_divInt (p q : Rat) : Rat.divInt (p.num * q.den + q.num * p.den) ((p.den : Int) * q.den) = p + q := by
  rw [Rat.add_def', ← Rat.divInt_ofNat, Int.natCast_mul]
theorem div_divInt (p q : Rat) : Rat.divInt (p.num * q.den) ((p.den : Int) * q.num) = p / q := by
  rw [Rat.div_def, Rat.inv_def, ← Rat.divInt_mul_divInt, Rat.num_divInt_den]
theorem law_plus : Law 2 γ_plus (body_plus γ_ratio) := by
  intro ds S R ⟨p, q, e, ⟨hp, hq⟩, h⟩
  subst e
  obtain ⟨m1, m2, m3, _⟩ := hp.mul_ok hq
  unfold body_plus encR γ_ratio
  simp_arith [atI_0, atI_1]
  refine ⟨m1, m2, m3, den_prod hp hq, ?_⟩
  rw [add_divInt]
  exact fin_of h
/-- the divisor of at most some thousand figures, not 0 -/
def γ_over : OL := fun ds S R => ∃ p q : Rat, ds = [encR p, encR q] ∧ (Big p ∧ Big q ∧ q ≠ 0 ∧ Sz 4000 400000 q) ∧ R (encR (p / q)) S
def body_over (γ_ratio : OL) : ST := sRet (eCall γ_ratio (aCons (eBin oMul (eBin oIx (eVar 0) (eC (.int 0))) (eBin oIx (eVar 1) (eC (.int 1)))) (aCons (eBin oMul (eBin oIx (eVar 0) (eC (.int 1))) (eBin oIx (eVar 1) (eC (.int 0)))) (aNil))))
theorem law_over : Law 2 γ_over (body_over γ_ratio) := by
  intro ds S R ⟨p, q, e, ⟨hp, hq, h0, hs⟩, h⟩
  subst e
  obtain ⟨m1, _, _, _, m5⟩ := hp.mul_ok hq
  unfold body_over encR γ_ratio
  simp_arith [atI_0, atI_1]
  have hn : q.num ≠ 0 := fun z => h0 (Rat.num_eq_zero.mp z)
  have hp' := p.den_pos
  refine ⟨m1, m5, ⟨Int.mul_ne_zero (by omega) hn, ?_⟩, ?_⟩
  · rw [Int.natAbs_mul, Int.natAbs_natCast]
    have h2 := mul_lt2 hp.2 hs.1
    have h3 := pow2_le (show 4000 + 4000 ≤ 9000 by decide)
    omega
  · rw [div_divInt]
    exact fin_of h
def γ_is_less : OL := fun ds S R => ∃ p q : Rat, ds = [encR p, encR q] ∧ (Big p ∧ Big q) ∧ R (.bl (decide (p < q))) S
def body_is_less : ST := sRet (eBin oLt (eBin oMul (eBin oIx (eVar 0) (eC (.int 0))) (eBin oIx (eVar 1) (eC (.int 1)))) (eBin oMul (eBin oIx (eVar 1) (eC (.int 0))) (eBin oIx (eVar 0) (eC (.int 1)))))
theorem law_is_less : Law 2 γ_is_less body_is_less := by
  intro ds S R ⟨p, q, e, ⟨hp, hq⟩, h⟩
  subst e
  obtain ⟨m1, m2, _⟩ := hp.mul_ok hq
  unfold body_is_less encR
  simp_arith [atI_0, atI_1]
  refine ⟨m1, m2, ?_⟩
  have e : decide (p.num * (q.den : Int) < q.num * (p.den : Int)) = decide (p < q) := by
    by_cases z : p < q
    · rw [decide_eq_true z, decide_eq_true ((Rat.lt_iff p q).mp z)]
    · rw [decide_eq_false z, decide_eq_false (fun y => z ((Rat.lt_iff p q).mpr y))]
  rw [e]
  exact fin_of h
end Gx

/-! Gx, data side 2: comprehensions and loops; the laws' own draws. -/
namespace Gx
open PySem L2
local macro_rules | `(tactic| simp_arith [$xs,*]) => `(tactic| try simp only [eVar, eC, eBin, eUn, tBl, tAnd', tOr', tNot', eAnd, eOr, eNot, eIf, aNil, aCons, eTup, eLst, eLstM, eCall, eCallK, pick, sNext, sSeq, sBreak, sCont, sDrop, sRet, sRetN, sIf, sNever, gNm, gsNil, gsCons, gTupl, gSubs, sAsg, sPar, sPar3, sFor, iSeq, seqG_tup, seqG_lst, seqG_scr, iRange1, iRange2, iEnumG, iZipG, td_tup, td_lst, td_scr, eLc, eLcM, tYes', pNone, pSome, eSl, cu_tup, cu_lst, cu_scr, eMt, eMt0, mAppend, isL, rs_non, rs_bl, rs_int, rs_str, rs_tup, rs_lst', rs_scr, itemsOf_tup, itemsOf_lst, itemsOf_scr, oI, oI0, oSub, oFdiv, oMod, oPow, oShl, oShr, oAnd, oOr, oXor, oLt, oLe, oGt, oGe, oNeg, oIsN, oNotN, Gx.isNon, oAdd, oAdd', oMul, oMul', oMulM, oEq, oNe, oEqS, oNeS, oIn, oNin, eChain, oIx, oSet, cLen, cList, cListM, cTuple, cSum, cAll, cAny, cInt, cAbs, cMax2, cMin2, cDivmod, cGcd, cIsi, cRepr, lstInts, lstBls, startD, wipeD, List.map_cons, List.map_nil, List.length_cons, List.length_nil, List.cons_append, List.nil_append, List.replicate_succ, List.replicate_zero, List.set_cons_succ, List.set_cons_zero, List.getElem?_cons_succ, List.getElem?_cons_zero, List.filterMap_cons_some, List.filterMap_nil, Nat.reduceAdd, Nat.reduceSub, Nat.sub_self, Nat.reduceLT, Nat.reduceMul, Nat.zero_add, Nat.add_zero, if_true, if_false, and_true, true_and, and_false, false_and, or_true, true_or, or_false, false_or, not_true_eq_false, not_false_eq_true, Bool.not_true, Bool.not_false, Bool.false_eq_true, ite_true, ite_false, reduceIte, reduceCtorEq, eq_self, $xs,*])

/-! ### comprehensions -/
section
variable {g : TG'} {tt : TT'} {te : ET} {gd : Sto → Prop} {vs : List Nat} {τ : Tau} {Z : List D → Sto → Prop} {S : Sto}
theorem cmp_map (f : D → D) : ∀ (items acc : List D), (∀ x ∈ items, ∀ Q : QD, Q (f x) S → g x (wipeD τ vs) S fun τ2 S2 => te τ2 S2 Q) → gd S → acc.length + items.length ≤ sizeLine → Z (acc ++ items.map f) S → cmpG g tYes' te gd vs τ Z items acc S
  | [], acc, _, hg, _, h => ⟨hg, by simpa using h⟩
  | x :: xs, acc, hel, hg, hz, h => by
    refine ⟨hg, ?_⟩
    have hx := hel x List.mem_cons_self (fun y S4 => acc.length < sizeLine ∧ cmpG g tYes' te gd vs τ Z xs (acc ++ [y]) S4) ⟨by rw [List.length_cons] at hz; omega, cmp_map f xs (acc ++ [f x]) (fun y hy => hel y (List.mem_cons_of_mem _ hy)) hg (by rw [List.length_append, List.length_singleton]; rw [List.length_cons] at hz; omega) (by simpa using h)⟩
    simpa only [tYes', if_true] using hx
end
theorem rngD_map : ∀ (n : Nat) (lo : Int), rngD lo n = (List.range n).map fun i : Nat => D.int (lo + i)
  | 0, _ => rfl
  | n + 1, lo => by
    rw [List.range_succ_eq_map, List.map_cons, List.map_map]
    show D.int lo :: rngD (lo + 1) n = _
    rw [rngD_map n (lo + 1)]
    congr 1
    · simp
    · apply List.map_congr_left
      intro i _
      show D.int (lo + 1 + i) = D.int (lo + ((i + 1 : Nat) : Int))
      congr 1
      omega
theorem rngD_zero (n : Nat) : rngD 0 n = (List.range n).map fun i : Nat => D.int (i : Int) := by
  rw [rngD_map]
  apply List.map_congr_left
  intro i _
  show D.int (0 + (i : Int)) = D.int i
  rw [Int.zero_add]
theorem zipD_map {α β : Type} (f : α → D) (g : β → D) : ∀ (xs : List α) (ys : List β), zipD (xs.map f) (ys.map g) = (List.zip xs ys).map fun p => .tup [f p.1, g p.2]
  | [], _ => by simp [zipD]
  | _ :: _, [] => by simp [zipD]
  | x :: xs, y :: ys => by
    simp only [List.map_cons, zipD, List.zip_cons_cons]
    rw [zipD_map f g xs ys]
theorem enumD_map {α : Type} (f : α → D) : ∀ (xs : List α) (k : Nat), enumD k (xs.map f) = (xs.zipIdx k).map fun p => .tup [.int p.2, f p.1]
  | [], _ => rfl
  | x :: xs, k => by
    have ih := enumD_map f xs (k + 1)
    show D.tup [.int k, f x] :: enumD ((k : Int) + 1) (xs.map f) = _
    rw [List.zipIdx_cons, List.map_cons]
    congr 1

theorem enumD_map0 {α : Type} (f : α → D) (xs : List α) : enumD 0 (xs.map f) = xs.zipIdx.map fun p => .tup [.int p.2, f p.1] := enumD_map f xs 0
/-! ### a store's change at one place -/
/-- all but what stands at p is as it was -/
def But (p : Addr) (S S' : Sto) : Prop := ∀ b, b ≠ p → S' b = S b
theorem But.refl {p : Addr} {S : Sto} : But p S S := fun _ _ => rfl
theorem But.trans {p : Addr} {S S1 S2 : Sto} (a : But p S S1) (b : But p S1 S2) : But p S S2 := fun c h => (b c h).trans (a c h)
theorem But.up {p : Addr} {S : Sto} {o : SO} : But p S (up S p o) := fun _ h => up_ne h
/-- a well stands at p -/
def Well (p : Addr) (S : Sto) : Prop := ∃ a m c : Int, S p = some (.lst [.int a, .int m, .int c])
/-- something was drawn from the well at p -/
structure Drw (p : Addr) (S S' : Sto) : Prop where
  but : But p S S'
  well : Well p S'
theorem Drw.trans {p : Addr} {S S1 S2 : Sto} (a : Drw p S S1) (b : Drw p S1 S2) : Drw p S S2 := ⟨a.but.trans b.but, b.well⟩
theorem Drw.refl {p : Addr} {S : Sto} (h : Well p S) : Drw p S S := ⟨.refl, h⟩
/-! ### draws -/
/-- a number from 0 to few - 1 -/
def γ_draw : OL := fun ds S R => ∃ (p : Addr) (few : Int), ds = [.ref p, .int few] ∧ Well p S ∧ (0 < few ∧ few < 1073741824) ∧ ∀ r S', 0 ≤ r → r < few → Drw p S S' → R (.int r) S'
def body_draw : ST := sSeq (sIf (tBl (eBin oGt (eBin oIx (eVar 0) (eC (.int 0))) (eC (.int 0)))) (sSeq (sAsg (eCall cDivmod (aCons (eBin oIx (eVar 0) (eC (.int 0))) (aCons (eVar 1) (aNil)))) (gTupl 2 (gsCons (gSubs (eVar 0) (eC (.int 0)) oSet) (gsCons (gNm 3) (gsNil)))))
  (sRet (eVar 3))) (sNext))
  (sSeq (sAsg (eBin oAdd (eBin oIx (eVar 0) (eC (.int 2))) (eC (.int 1))) (gSubs (eVar 0) (eC (.int 2)) oSet))
  (sSeq (sAsg (eBin oMod (eCall cInt (aCons (eBin oAdd (eBin oMul (eBin oIx (eVar 0) (eC (.int 1))) (eC (.int 48271))) (eBin oMul (eC (.int 15017)) (eBin oIx (eVar 0) (eC (.int 2))))) (aNil))) (eC (.int 2147483489))) (gNm 2))
  (sSeq (sAsg (eBin oMod (eCall cInt (aCons (eBin oAdd (eBin oMul (eVar 2) (eBin oAdd (eBin oMod (eCall cInt (aCons (eVar 2) (aNil))) (eC (.int 5003))) (eC (.int 20021)))) (eBin oIx (eVar 0) (eC (.int 2)))) (aNil))) (eC (.int 2147483489))) (gSubs (eVar 0) (eC (.int 1)) oSet))
  (sRet (eBin oMod (eCall cInt (aCons (eBin oFdiv (eBin oIx (eVar 0) (eC (.int 1))) (eC (.int 1009))) (aNil))) (eVar 1))))))
theorem ixN_0 {n : Nat} : ixN (n + 1) 0 = some 0 := by unfold ixN; rw [if_pos (by omega), if_pos (by omega)]; rfl
theorem ixN_1 {n : Nat} : ixN (n + 2) 1 = some 1 := by unfold ixN; rw [if_pos (by omega), if_pos (by omega)]; rfl
theorem ixN_2 {n : Nat} : ixN (n + 3) 2 = some 2 := by unfold ixN; rw [if_pos (by omega), if_pos (by omega)]; rfl
theorem ixN_30 : ixN 3 0 = some 0 := ixN_0
theorem ixN_31 : ixN 3 1 = some 1 := ixN_1
theorem ixN_32 : ixN 3 2 = some 2 := ixN_2
theorem fmod_lo (a : Int) {b : Int} (h : 0 < b) : 0 ≤ a.fmod b := Int.fmod_nonneg_of_pos _ h
theorem fmod_hi (a : Int) {b : Int} (h : 0 < b) : a.fmod b < b := Int.fmod_lt_of_pos _ h
theorem law_draw : Law 4 γ_draw body_draw := by
  intro ds S R ⟨p, few, e, ⟨a, m, c, hw⟩, ⟨h0, h1⟩, h⟩
  subst e
  unfold body_draw
  by_cases z : 0 < a
  · simp_arith [rs_ref hw, hw, atI_0, z, decide_true, ixN_30]
    refine ⟨⟨h0, h1⟩, fin_of (h _ _ (Int.emod_nonneg _ (by omega)) (Int.emod_lt_of_pos _ h0) ⟨.up, ?_⟩)⟩
    exact ⟨_, _, _, up_same⟩
  · simp_arith [rs_ref hw, hw, atI_0, atI_2, z, decide_false, ixN_32, rs_ref up_same, up_same, atI_1, ixN_31, ixN_30, up_up]
    refine ⟨.right (by decide) (by decide), .left (by decide) (by decide), by decide, by decide, .right ?_ ?_, by decide, ⟨by decide, by decide⟩, by omega, fin_of (h _ _ (fmod_lo _ h0) (fmod_hi _ h0) ⟨.up, ?_⟩)⟩
    · have := fmod_lo ((m * 48271 + 15017 * (c + 1)).fmod 2147483489) (b := 5003) (by decide)
      omega
    · have := fmod_hi ((m * 48271 + 15017 * (c + 1)).fmod 2147483489) (b := 5003) (by decide)
      omega
    · exact ⟨_, _, _, up_same⟩
/-- one of some things -/
def γ_one : OL := fun ds S R => ∃ (p : Addr) (d : D) (es : List D), ds = [.ref p, d] ∧ itemsOf d = some es ∧ Well p S ∧ (0 < es.length ∧ es.length < 1073741824) ∧ ∀ e S', e ∈ es → Drw p S S' → R e S'
def body_one (γ_draw : OL) : ST := sRet (eBin oIx (eVar 1) (eCall γ_draw (aCons (eVar 0) (aCons (eCall cLen (aCons (eVar 1) (aNil))) (aNil)))))
theorem itemsOf_top {d : D} {es : List D} (h : itemsOf d = some es) : isPlainTop d = true := by cases d <;> first | rfl | cases h
theorem law_one : Law 2 γ_one (body_one γ_draw) := by
  intro ds S R ⟨p, d, es, e, hd, hw, ⟨h0, h1⟩, h⟩
  subst e
  have ht := itemsOf_top hd
  have hr : ∀ S, rs S d = d := fun S => rs_plain ht
  unfold body_one γ_draw
  simp only [sRet, eBin, eVar, eCall, aCons, aNil, startD, List.map_cons, List.map_nil, List.length_cons, List.length_nil, Nat.zero_add, Nat.reduceAdd, Nat.sub_self, List.replicate_zero, List.cons_append, List.nil_append, List.getElem?_cons_succ, List.getElem?_cons_zero, cLen, hr, hd, oIx]
  refine ⟨p, _, rfl, hw, ⟨by omega, by omega⟩, fun r S' r0 r1 dr => ?_⟩
  obtain ⟨n, rfl⟩ := Int.eq_ofNat_of_zero_le r0
  have hn : n < es.length := by omega
  simp only [hr, hd, L2.atI_nat (List.getElem?_eq_getElem hn)]
  exact fin_of (h _ _ (List.getElem_mem hn) dr)
/-- where the draws of one lap come from -/
def γ_well : OL := fun ds S R => ∃ (ns : List Int) (lap : Int), ds = [.scr (ns.map .int), .int lap] ∧ 0 ≤ lap ∧ ∀ p S', S p = none → But p S S' → Well p S' → R (.ref p) S'
def body_well (c : Int) : ST := sSeq (sAsg (eBin oAdd (eC (.int c)) (eBin oMul (eC (.int 7919)) (eVar 1))) (gNm 2))
  (sSeq (sFor (iSeq (eSl (eVar 0) (pNone) (pSome (eC (.int 10))))) (gNm 3) (sAsg (eBin oMod (eCall cInt (aCons (eBin oAdd (eBin oAdd (eBin oMul (eVar 2) (eC (.int 52361))) (eBin oMul (eBin oMod (eCall cInt (aCons (eVar 3) (aNil))) (eC (.int 2147483489))) (eC (.int 7)))) (eC (.int 19))) (aNil))) (eC (.int 2147483489))) (gNm 2)))
  (sSeq (sAsg (eIf (tBl (eBin oLt (eVar 1) (eCall cLen (aCons (eVar 0) (aNil))))) (eCall cInt (aCons (eBin oIx (eVar 0) (eVar 1)) (aNil))) (eC (.int 0))) (gNm 4))
  (sSeq (sAsg (eBin oMod (eCall cInt (aCons (eBin oAdd (eBin oAdd (eBin oMul (eVar 2) (eC (.int 47))) (eBin oMul (eBin oMod (eCall cInt (aCons (eVar 4) (aNil))) (eC (.int 2147483489))) (eC (.int 30109)))) (eC (.int 5))) (aNil))) (eC (.int 2147483489))) (gNm 2))
  (sRet (eLstM (aCons (eIf (tOr' (tBl (eBin oLt (eVar 4) (eC (.int 0)))) (tBl (eBin oGe (eVar 4) (eBin oPow (eC (.int 10)) (eC (.int 14)))))) (eCall cAbs (aCons (eVar 4) (aNil))) (eC (.int 0))) (aCons (eVar 2) (aCons (eC (.int 0)) (aNil)))))))))
theorem cutD_map (ns : List Int) (lo hi : Option Int) : ∃ ms : List Int, cutD (ns.map D.int) lo hi = ms.map D.int := by
  unfold cutD
  exact ⟨_, by rw [← List.map_drop, ← List.map_take]⟩
theorem well_loop (x0 x1 : Option D) (G : EndG) (S : Sto) (h : ∀ (i : Int) x3, G.nx [x0, x1, some (.int i), x3, none] S) : ∀ (ms : List Int) (i : Int) x3,
    forG (gNm 3) (sAsg (eBin oMod (eCall cInt (aCons (eBin oAdd (eBin oAdd (eBin oMul (eVar 2) (eC (.int 52361))) (eBin oMul (eBin oMod (eCall cInt (aCons (eVar 3) (aNil))) (eC (.int 2147483489))) (eC (.int 7)))) (eC (.int 19))) (aNil))) (eC (.int 2147483489))) (gNm 2)) (fun _ => True) (ms.map D.int) G [x0, x1, some (.int i), x3, none] S
  | [], i, x3 => ⟨trivial, h i x3⟩
  | m :: ms, i, x3 => by
    refine ⟨trivial, ?_⟩
    simp_arith []
    exact ⟨.right (by decide) (by decide), by decide, .right (by decide) (by decide), by decide, well_loop x0 x1 G S h ms _ _⟩
theorem law_well (c : Int) : Law 5 γ_well (body_well c) := by
  intro ds S R ⟨ns, lap, e, hl, h⟩
  subst e
  unfold body_well
  simp_arith []
  refine ⟨.left (by decide) (by decide), ?_⟩
  obtain ⟨ms, em⟩ := cutD_map ns none (some 10)
  rw [em]
  refine well_loop _ _ _ _ (fun i x3 => ?_) ms _ _
  have fin : ∀ (a b : Int) (p : Addr), S p = none → Fin R (.ref p) (up S p (.lst [.int a, .int b, .int 0])) := fun a b p hp => fin_of (h p _ hp .up ⟨_, _, _, up_same⟩)
  have key : ∀ own : Int, MulOk i 47 ∧ (2147483489 : Int) ≠ 0 ∧ MulOk (own.fmod 2147483489) 30109 ∧ (2147483489 : Int) ≠ 0 := fun own => ⟨.right (by decide) (by decide), by decide, .right (by decide) (by decide), by decide⟩
  have cp : PowOk 10 14 := .of 4 (by decide) (by decide) (by decide)
  by_cases z : lap < (ns.length : Int)
  · obtain ⟨n, rfl⟩ := Int.eq_ofNat_of_zero_le hl
    have hn : n < ns.length := by omega
    have ha : L2.atI (ns.map D.int) (n : Int) = some (.int ns[n]) := L2.atI_nat (by rw [List.getElem?_map, List.getElem?_eq_getElem hn]; rfl)
    simp_arith [List.length_map, z, decide_true, ha]
    refine ⟨(key ns[n]).1, by decide, (key ns[n]).2.2.1, by decide, ?_⟩
    by_cases z1 : ns[n] < 0
    · simp_arith [z1, decide_true]
      exact ⟨by decide, fun p hp => fin _ _ p hp⟩
    · simp_arith [z1, decide_false]
      refine ⟨cp, ?_⟩
      by_cases z2 : (10 : Int) ^ (14 : Int).toNat ≤ ns[n]
      · simp_arith [z2, decide_true]
        exact ⟨by decide, fun p hp => fin _ _ p hp⟩
      · simp_arith [z2, decide_false]
        exact ⟨by decide, fun p hp => fin _ _ p hp⟩
  · simp_arith [List.length_map, z, decide_false]
    refine ⟨(key 0).1, by decide, (key 0).2.2.1, by decide, ?_⟩
    refine ⟨cp, ?_⟩
    by_cases z2 : (10 : Int) ^ (14 : Int).toNat ≤ 0
    · simp_arith [z2, decide_true]
      exact ⟨by decide, fun p hp => fin _ _ p hp⟩
    · simp_arith [z2, decide_false]
      exact ⟨by decide, fun p hp => fin _ _ p hp⟩
end Gx

/-! Gx, data side 3: bounds of fractions, sums, Euclid's loop. -/
namespace Gx
open PySem L2
local macro_rules | `(tactic| simp_arith [$xs,*]) => `(tactic| try simp only [eVar, eC, eBin, eUn, tBl, tAnd', tOr', tNot', eAnd, eOr, eNot, eIf, aNil, aCons, eTup, eLst, eLstM, eCall, eCallK, pick, sNext, sSeq, sBreak, sCont, sDrop, sRet, sRetN, sIf, sNever, gNm, gsNil, gsCons, gTupl, gSubs, sAsg, sPar, sPar3, sFor, iSeq, seqG_tup, seqG_lst, seqG_scr, iRange1, iRange2, iEnumG, iZipG, td_tup, td_lst, td_scr, eLc, eLcM, tYes', pNone, pSome, eSl, cu_tup, cu_lst, cu_scr, eMt, eMt0, mAppend, isL, rs_non, rs_bl, rs_int, rs_str, rs_tup, rs_lst', rs_scr, itemsOf_tup, itemsOf_lst, itemsOf_scr, oI, oI0, oSub, oFdiv, oMod, oPow, oShl, oShr, oAnd, oOr, oXor, oLt, oLe, oGt, oGe, oNeg, oIsN, oNotN, Gx.isNon, oAdd, oAdd', oMul, oMul', oMulM, oEq, oNe, oEqS, oNeS, oIn, oNin, eChain, oIx, oSet, cLen, cList, cListM, cTuple, cSum, cAll, cAny, cInt, cAbs, cMax2, cMin2, cDivmod, cGcd, cIsi, cRepr, lstInts, lstBls, startD, wipeD, List.map_cons, List.map_nil, List.length_cons, List.length_nil, List.cons_append, List.nil_append, List.replicate_succ, List.replicate_zero, List.set_cons_succ, List.set_cons_zero, List.getElem?_cons_succ, List.getElem?_cons_zero, List.filterMap_cons_some, List.filterMap_nil, Nat.reduceAdd, Nat.reduceSub, Nat.sub_self, Nat.reduceLT, Nat.reduceMul, Nat.zero_add, Nat.add_zero, if_true, if_false, and_true, true_and, and_false, false_and, or_true, true_or, or_false, false_or, not_true_eq_false, not_false_eq_true, Bool.not_true, Bool.not_false, Bool.false_eq_true, ite_true, ite_false, reduceIte, reduceCtorEq, eq_self, $xs,*])

/-- up to A in size, the lower number below 2 ^ b -/
def Bd (A b : Nat) (q : Rat) : Prop := q.num.natAbs ≤ A * q.den ∧ q.den < 2 ^ b
theorem Bd.mono {A B b c : Nat} {q : Rat} (h : Bd A b q) (h1 : A ≤ B) (h2 : b ≤ c) : Bd B c q :=
  ⟨Nat.le_trans h.1 (Nat.mul_le_mul_right _ h1), Nat.lt_of_lt_of_le h.2 (pow2_le h2)⟩
theorem divInt_cross {n m : Int} (hm : m ≠ 0) : (Rat.divInt n m).num * m = n * (Rat.divInt n m).den := by
  have h := Rat.num_divInt_den (Rat.divInt n m)
  exact (Rat.divInt_eq_divInt_iff (by have := (Rat.divInt n m).den_pos; omega) hm).mp h
theorem bd_divInt {n : Int} {m A b : Nat} (hm : 0 < m) (h1 : n.natAbs ≤ A * m) (h2 : m < 2 ^ b) : Bd A b (Rat.divInt n m) := by
  have hc := divInt_cross (n := n) (m := m) (by omega)
  refine ⟨?_, ?_⟩
  · have e : (Rat.divInt n m).num.natAbs * m = n.natAbs * (Rat.divInt n m).den := by
      have := congrArg Int.natAbs hc
      rw [Int.natAbs_mul, Int.natAbs_mul] at this
      exact this
    refine Nat.le_of_mul_le_mul_right (c := m) ?_ hm
    rw [e]
    calc n.natAbs * (Rat.divInt n m).den ≤ A * m * (Rat.divInt n m).den := Nat.mul_le_mul_right _ h1
      _ = A * (Rat.divInt n m).den * m := by rw [Nat.mul_assoc, Nat.mul_assoc, Nat.mul_comm m]
  · exact (sz_divInt (a := n.natAbs) (b := b) Nat.lt_two_pow_self (by rw [Int.natAbs_natCast]; exact h2) (by omega)).2
theorem bd_add {p q : Rat} {A B b c : Nat} (h : Bd A b p) (h' : Bd B c q) : Bd (A + B) (b + c) (p + q) := by
  rw [Rat.add_def', ← Rat.divInt_ofNat]
  have hp := p.den_pos
  have hq := q.den_pos
  refine bd_divInt (Nat.mul_pos hp hq) ?_ (mul_lt2 h.2 h'.2)
  have e1 : (p.num * (q.den : Int)).natAbs = p.num.natAbs * q.den := by rw [Int.natAbs_mul]; rfl
  have e2 : (q.num * (p.den : Int)).natAbs = q.num.natAbs * p.den := by rw [Int.natAbs_mul]; rfl
  have h1 := Nat.mul_le_mul_right q.den h.1
  have h2 := Nat.mul_le_mul_right p.den h'.1
  have h3 := Int.natAbs_add_le (p.num * (q.den : Int)) (q.num * (p.den : Int))
  rw [e1, e2] at h3
  have h4 : (A + B) * (p.den * q.den) = A * p.den * q.den + B * q.den * p.den := by
    rw [Nat.add_mul, Nat.mul_assoc A, Nat.mul_assoc B, Nat.mul_comm q.den]
  omega
theorem bd_mul {p q : Rat} {A B b c : Nat} (h : Bd A b p) (h' : Bd B c q) : Bd (A * B) (b + c) (p * q) := by
  rw [Rat.mul_def', ← Rat.divInt_ofNat]
  refine bd_divInt (Nat.mul_pos p.den_pos q.den_pos) ?_ (mul_lt2 h.2 h'.2)
  rw [Int.natAbs_mul]
  have := Nat.mul_le_mul h.1 h'.1
  have e : A * B * (p.den * q.den) = A * p.den * (B * q.den) := by
    rw [Nat.mul_assoc, Nat.mul_assoc, ← Nat.mul_assoc B, Nat.mul_comm B, Nat.mul_assoc p.den]
  omega
theorem Bd.sz {A b a c : Nat} {q : Rat} (h : Bd A b q) (hA : A < 2 ^ a) (hc : a + b ≤ c := by decide) : Sz c b q :=
  ⟨Nat.lt_of_le_of_lt h.1 (Nat.lt_of_lt_of_le (mul_lt2 hA h.2) (pow2_le hc)), h.2⟩
theorem Bd.big {A b a : Nat} {q : Rat} (h : Bd A b q) (hA : A < 2 ^ a) (h1 : a + b ≤ 400000 := by decide) (h2 : b ≤ 4000 := by decide) : Big q := (h.sz (c := a + b) hA (Nat.le_refl _)).mono h1 h2
theorem bd_zero : Bd 0 1 0 := ⟨by decide, by decide⟩
/-! ### sums -/
def sumR (qs : List Rat) : Rat := qs.foldl (· + ·) 0
theorem foldl_add (qs : List Rat) : ∀ a : Rat, qs.foldl (· + ·) a = a + sumR qs := by
  induction qs with
  | nil => intro a; show a = a + 0; rw [Rat.add_zero]
  | cons q qs ih =>
    intro a
    show qs.foldl (· + ·) (a + q) = a + qs.foldl (· + ·) (0 + q)
    rw [ih, ih (0 + q), Rat.zero_add, Rat.add_assoc]
theorem sumR_nil : sumR [] = 0 := rfl
theorem sumR_cons (q : Rat) (qs : List Rat) : sumR (q :: qs) = q + sumR qs := by
  show qs.foldl (· + ·) (0 + q) = _
  rw [foldl_add, Rat.zero_add]
theorem sumR_append (ps qs : List Rat) : sumR (ps ++ qs) = sumR ps + sumR qs := by
  unfold sumR
  rw [List.foldl_append, foldl_add]
  rfl
theorem bd_sum {A b : Nat} : ∀ {qs : List Rat}, (∀ q ∈ qs, Bd A b q) → Bd (qs.length * A) (qs.length * b + 1) (sumR qs)
  | [], _ => by rw [sumR_nil, List.length_nil, Nat.zero_mul, Nat.zero_mul]; exact bd_zero
  | q :: qs, h => by
    rw [sumR_cons]
    have ih := bd_sum (qs := qs) fun x hx => h x (List.mem_cons_of_mem _ hx)
    refine (bd_add (h q List.mem_cons_self) ih).mono ?_ ?_
    · rw [List.length_cons, Nat.succ_mul]; omega
    · rw [List.length_cons, Nat.succ_mul]; omega
/-- at most sixteen fractions of some size -/
def γ_total : OL := fun ds S R => ∃ qs : List Rat, ds = [.lst (qs.map encR)] ∧ (qs.length ≤ 16 ∧ ∀ q ∈ qs, Bd (2 ^ 100000) 200 q) ∧ R (encR (sumR qs)) S
def body_total (γ_plus : OL) (d_ZERO : D) : ST := sSeq (sAsg (eC d_ZERO) (gNm 1))
  (sSeq (sFor (iSeq (eVar 0)) (gNm 2) (sAsg (eCall γ_plus (aCons (eVar 1) (aCons (eVar 2) (aNil)))) (gNm 1)))
  (sRet (eVar 1)))
theorem total_big {qs ps rs : List Rat} (e : qs = ps ++ rs) (hl : qs.length ≤ 16) (hb : ∀ q ∈ qs, Bd (2 ^ 100000) 200 q) : Big (sumR ps) := by
  have hp : ps.length ≤ 16 := by have := congrArg List.length e; rw [List.length_append] at this; omega
  have h := bd_sum (qs := ps) (A := 2 ^ 100000) (b := 200) fun x hx => hb x (by rw [e]; exact List.mem_append_left _ hx)
  have h1 : ps.length * 2 ^ 100000 ≤ 2 ^ 100004 := by
    have : 2 ^ 100004 = 16 * 2 ^ 100000 := by rw [show 100004 = 4 + 100000 from rfl, Nat.pow_add]
    rw [this]
    exact Nat.mul_le_mul_right _ hp
  have h2 : ps.length * 200 + 1 ≤ 3201 := by omega
  exact (h.mono h1 h2).big (a := 100005) (Nat.pow_lt_pow_right (by decide) (by decide))
theorem total_loop {qs : List Rat} (hl : qs.length ≤ 16) (hb : ∀ q ∈ qs, Bd (2 ^ 100000) 200 q) (x0 : Option D) (G : EndG) (S : Sto) (h : ∀ x2, G.nx [x0, some (encR (sumR qs)), x2] S) : ∀ (rs ps : List Rat) x2, qs = ps ++ rs →
    forG (gNm 2) (sAsg (eCall γ_plus (aCons (eVar 1) (aCons (eVar 2) (aNil)))) (gNm 1)) (fun _ => True) (rs.map encR) G [x0, some (encR (sumR ps)), x2] S
  | [], ps, x2, e => ⟨trivial, by rw [List.append_nil] at e; subst e; exact h x2⟩
  | q :: rs, ps, x2, e => by
    refine ⟨trivial, ?_⟩
    have e' : qs = (ps ++ [q]) ++ rs := by rw [e, List.append_assoc]; rfl
    have b1 := total_big e hl hb
    have bq : Big q := (hb q (by rw [e]; simp)).big (a := 100001) (Nat.pow_lt_pow_right (by decide) (by decide))
    unfold γ_plus
    simp_arith []
    refine ⟨_, _, rfl, ⟨b1, bq⟩, ?_⟩
    have es : sumR ps + q = sumR (ps ++ [q]) := by rw [sumR_append, sumR_cons, sumR_nil, Rat.add_zero]
    rw [es]
    exact total_loop hl hb x0 G S h rs (ps ++ [q]) _ e'
theorem enc_zero : D.tup [.int 0, .int 1] = encR 0 := rfl
theorem law_total : Law 3 γ_total (body_total γ_plus (.tup [.int 0, .int 1])) := by
  intro ds S R ⟨qs, e, ⟨hl, hb⟩, h⟩
  subst e
  unfold body_total
  simp_arith []
  rw [enc_zero]
  refine total_loop hl hb _ _ _ (fun x2 => ?_) qs [] _ rfl
  simp_arith []
  exact fin_of h

/-! ### Euclid's loop -/
def body_lean : ST := sSeq (sPar 2 3 (aCons (eCall cAbs (aCons (eVar 0) (aNil))) (aCons (eCall cAbs (aCons (eVar 1) (aNil))) (aNil))))
  (sSeq (sWh (tBl (eBin oGt (eVar 3) (eC (.int 0)))) (sPar 2 3 (aCons (eVar 3) (aCons (eBin oMod (eCall cInt (aCons (eVar 2) (aNil))) (eVar 3)) (aNil)))))
  (sSeq (sAsg (eIf (tBl (eBin oGt (eVar 1) (eC (.int 0)))) (eVar 2) (eBin oSub (eC (.int 0)) (eVar 2))) (gNm 2))
  (sRet (eTup (aCons (eBin oFdiv (eVar 0) (eVar 2)) (aCons (eBin oFdiv (eVar 1) (eVar 2)) (aNil)))))))
theorem euclid (x0 x1 : Option D) (G : EndG) (S : Sto) : ∀ (b a : Nat), (G.nx [x0, x1, some (.int (Nat.gcd a b : Nat)), some (.int 0)] S) →
    ∃ n, whG (tBl (eBin oGt (eVar 3) (eC (.int 0)))) (sPar 2 3 (aCons (eVar 3) (aCons (eBin oMod (eCall cInt (aCons (eVar 2) (aNil))) (eVar 3)) (aNil)))) n G [x0, x1, some (.int a), some (.int b)] S := by
  intro b
  induction b using Nat.strongRecOn with
  | _ b ih =>
    intro a h
    by_cases z : b = 0
    · subst z
      refine ⟨1, ?_⟩
      unfold whG
      simp_arith [Int.ofNat_eq_natCast, Int.cast_ofNat_Int, Int.lt_irrefl, decide_false]
      rw [Nat.gcd_zero_right] at h
      exact h
    · have hlt : a % b < b := Nat.mod_lt _ (by omega)
      have h' : G.nx [x0, x1, some (.int (Nat.gcd b (a % b) : Nat)), some (.int 0)] S := by
        have e : Nat.gcd b (a % b) = Nat.gcd a b := by rw [Nat.gcd_comm b, ← Nat.gcd_rec, Nat.gcd_comm]
        rw [e]
        exact h
      obtain ⟨n, q⟩ := ih (a % b) hlt b h'
      refine ⟨n + 1, ?_⟩
      unfold whG
      have hb : (0 : Int) < (b : Int) := by omega
      simp_arith [hb, decide_true]
      refine ⟨by omega, ?_⟩
      rw [Int.fmod_eq_emod_of_nonneg _ (by omega), ← Int.natCast_emod]
      exact q
/-- the fraction of two whole numbers, the lower one not 0 -/
theorem law_lean : Law 4 γ_ratio body_lean := by
  intro ds S R h
  unfold γ_ratio at h
  split at h
  · rename_i a b
    obtain ⟨⟨hb, hb9⟩, h⟩ := h
    unfold body_lean
    simp_arith []
    have ea : ∀ i : Int, (if i < 0 then -i else i) = (i.natAbs : Int) := fun i => by split <;> omega
    rw [ea, ea]
    refine euclid _ _ _ _ _ _ ?_
    obtain ⟨q1, q2, q3, q4⟩ := divInt_parts (a := a) hb _ rfl
    have q := fin_of h
    unfold encR at q
    rw [← q1, ← q2] at q
    have dv := log2_le_of_le q4 hb9
    by_cases z : 0 < b
    · rw [if_pos z] at q q3 q4 dv
      simp_arith [z, decide_true]
      exact ⟨⟨q3, dv⟩, ⟨q3, dv⟩, by decide, q⟩
    · rw [if_neg z] at q q3 q4 dv
      simp_arith [z, decide_false, Int.zero_sub]
      exact ⟨⟨q3, dv⟩, ⟨q3, dv⟩, by decide, q⟩
  · exact h.elim
end Gx

/-! Gx, data side 4: nets and states. -/
namespace Gx
open PySem L2
local macro_rules | `(tactic| simp_arith [$xs,*]) => `(tactic| try simp only [eVar, eC, eBin, eUn, tBl, tAnd', tOr', tNot', eAnd, eOr, eNot, eIf, aNil, aCons, eTup, eLst, eLstM, eCall, eCallK, pick, sNext, sSeq, sBreak, sCont, sDrop, sRet, sRetN, sIf, sNever, gNm, gsNil, gsCons, gTupl, gSubs, sAsg, sPar, sPar3, sFor, iSeq, seqG_tup, seqG_lst, seqG_scr, iRange1, iRange2, iEnumG, iZipG, td_tup, td_lst, td_scr, eLc, eLcM, tYes', pNone, pSome, eSl, cu_tup, cu_lst, cu_scr, eMt, eMt0, mAppend, isL, rs_non, rs_bl, rs_int, rs_str, rs_tup, rs_lst', rs_scr, itemsOf_tup, itemsOf_lst, itemsOf_scr, oI, oI0, oSub, oFdiv, oMod, oPow, oShl, oShr, oAnd, oOr, oXor, oLt, oLe, oGt, oGe, oNeg, oIsN, oNotN, Gx.isNon, oAdd, oAdd', oMul, oMul', oMulM, oEq, oNe, oEqS, oNeS, oIn, oNin, eChain, oIx, oSet, cLen, cList, cListM, cTuple, cSum, cAll, cAny, cInt, cAbs, cMax2, cMin2, cDivmod, cGcd, cIsi, cRepr, lstInts, lstBls, startD, wipeD, List.map_cons, List.map_nil, List.length_cons, List.length_nil, List.cons_append, List.nil_append, List.replicate_succ, List.replicate_zero, List.set_cons_succ, List.set_cons_zero, List.getElem?_cons_succ, List.getElem?_cons_zero, List.filterMap_cons_some, List.filterMap_nil, Nat.reduceAdd, Nat.reduceSub, Nat.sub_self, Nat.reduceLT, Nat.reduceMul, Nat.zero_add, Nat.add_zero, if_true, if_false, and_true, true_and, and_false, false_and, or_true, true_or, or_false, false_or, not_true_eq_false, not_false_eq_true, Bool.not_true, Bool.not_false, Bool.false_eq_true, ite_true, ite_false, reduceIte, reduceCtorEq, eq_self, $xs,*])

/-! ### plain data -/
theorem pl_top {n : Nat} {d : D} (h : pl n d = true) : isPlainTop d = true := by
  cases d <;> cases n <;> first | rfl | exact nomatch h
theorem pl_up : ∀ (n : Nat) (d : D), pl n d = true → pl (n + 1) d = true
  | n, .non, _ => rfl
  | n, .bl _, _ => rfl
  | n, .int _, _ => rfl
  | 0, .str _, h => h
  | n + 1, .str _, h => h
  | n + 1, .tup ds, h => by
    have h : ds.all (pl n) = true := h
    show ds.all (pl (n + 1)) = true
    rw [List.all_eq_true] at h ⊢
    exact fun x hx => pl_up n x (h x hx)
  | n + 1, .lst ds, h => by
    have h : ds.all (pl n) = true := h
    show ds.all (pl (n + 1)) = true
    rw [List.all_eq_true] at h ⊢
    exact fun x hx => pl_up n x (h x hx)
  | n + 1, .scr ds, h => by
    have h : ds.all (pl n) = true := h
    show ds.all (pl (n + 1)) = true
    rw [List.all_eq_true] at h ⊢
    exact fun x hx => pl_up n x (h x hx)
  | 0, .tup _, h => nomatch h
  | 0, .lst _, h => nomatch h
  | 0, .scr _, h => nomatch h
  | 0, .ref _, h => nomatch h
  | n + 1, .ref _, h => nomatch h
  | 0, .ty _, h => nomatch h
  | n + 1, .ty _, h => nomatch h
  | 0, .rng _ _, h => nomatch h
  | 0, .fn _ _ _ _ _ _, h => nomatch h
  | 0, .exd _ _ _ _ _, h => nomatch h
  | n + 1, .rng _ _, h => nomatch h
  | n + 1, .fn _ _ _ _ _ _, h => nomatch h
  | n + 1, .exd _ _ _ _ _, h => nomatch h
theorem pl_tup {n : Nat} {ds : List D} (h : pl (n + 1) (.tup ds) = true) : ∀ x ∈ ds, pl (n + 1) x = true := by
  have h : ds.all (pl n) = true := h
  rw [List.all_eq_true] at h
  exact fun x hx => pl_up n x (h x hx)
theorem pl_of_tup {n : Nat} {ds : List D} (h : ∀ x ∈ ds, pl n x = true) : pl (n + 1) (.tup ds) = true := by
  show ds.all (pl n) = true
  rw [List.all_eq_true]
  exact h
theorem pl_mono {n m : Nat} {d : D} (h : pl n d = true) (hm : n ≤ m) : pl m d = true := by
  induction hm with
  | refl => exact h
  | step _ ih => exact pl_up _ _ ih
theorem lstBls_map {α : Type} (xs : List α) (p : α → Bool) : blsOf (xs.map fun x => D.bl (p x)) = some (xs.map p) := by
  rw [← blsOf_map (xs.map p), List.map_map]; rfl
/-- all() of a comprehension -/
theorem all_lc {g : TG'} {te : ET} {gd : Sto → Prop} {vs : List Nat} {τ : Tau} {S : Sto} {R : QD} (p : D → Bool) (items : List D) (hel : ∀ x ∈ items, ∀ Q : QD, Q (.bl (p x)) S → g x (wipeD τ vs) S fun τ2 S2 => te τ2 S2 Q)
    (hg : gd S) (hz : items.length ≤ sizeLine) (h : R (.bl (items.all p)) S) : cmpG g tYes' te gd vs τ (fun acc S2 => cAll [.lst acc] S2 R) items [] S := by
  refine cmp_map (fun x => .bl (p x)) items [] hel hg (by simpa using hz) ?_
  show cAll [.lst ([] ++ items.map fun x => D.bl (p x))] S R
  rw [List.nil_append]
  unfold cAll lstBls
  simp only [rs_lst']
  rw [lstBls_map]
  show R (.bl ((items.map p).all id)) S
  rw [List.all_map]
  exact h
/-! ### rows and nets -/
def encRow (r : List Rat) : D := .tup (r.map encR)
def isRowD (n : Int) : D → Bool
  | .tup es => decide ((es.length : Int) = n) && es.all isFr
  | _ => false
theorem isRowD_tup (n : Int) (es : List D) : isRowD n (.tup es) = (decide ((es.length : Int) = n) && es.all isFr) := rfl
theorem isRow_enc (r : List Rat) : isRowD r.length (encRow r) = true := by
  unfold isRowD encRow
  simp [isFr_enc]
theorem isRow_of {n : Int} {d : D} (h : isRowD n d = true) : ∃ r, d = encRow r ∧ (r.length : Int) = n := by
  unfold isRowD at h
  split at h
  · rename_i es
    rw [Bool.and_eq_true, decide_eq_true_eq, List.all_eq_true] at h
    obtain ⟨h1, h2⟩ := h
    have : ∃ r : List Rat, es = r.map encR := by
      clear h1
      induction es with
      | nil => exact ⟨[], rfl⟩
      | cons x xs ih =>
        obtain ⟨r, hr⟩ := ih fun y hy => h2 y (List.mem_cons_of_mem _ hy)
        obtain ⟨q, hq⟩ := isFr_of (h2 x List.mem_cons_self)
        exact ⟨q :: r, by rw [hr, hq]; rfl⟩
    obtain ⟨r, rfl⟩ := this
    exact ⟨r, rfl, by simpa using h1⟩
  · cases h
def γ_is_row : OL := fun ds S R => match ds with
  | [d, .int n] => (pl 60 d = true ∧ n ≤ 1000) ∧ R (.bl (isRowD n d)) S
  | _ => False
def body_is_row (γ_is_tuple_of γ_is_ratio : OL) : ST := sRet (eAnd (eCall γ_is_tuple_of (aCons (eVar 0) (aCons (eVar 1) (aNil)))) (eCall cAll (aCons (eLc (iSeq (eVar 0)) (gNm 2) (tYes') (eCall γ_is_ratio (aCons (eVar 2) (aNil))) [2]) (aNil))))
theorem sz1000 {n : Nat} (h : n ≤ 1000) : n ≤ sizeLine := Nat.le_trans h (by decide)
theorem law_is_row : Law 3 γ_is_row (body_is_row γ_is_tuple_of γ_is_ratio) := by
  intro ds S R h
  unfold γ_is_row at h
  split at h
  · rename_i d n
    obtain ⟨⟨h1, hn⟩, h2⟩ := h
    have q := fin_of h2
    unfold body_is_row γ_is_tuple_of γ_is_ratio
    simp only [sRet, eAnd, eCall, aCons, aNil, eVar, startD, List.map_cons, List.map_nil, List.length_cons, List.length_nil, Nat.zero_add, Nat.reduceAdd, Nat.reduceSub, List.replicate_succ, List.replicate_zero, List.cons_append, List.nil_append, List.getElem?_cons_zero, List.getElem?_cons_succ, eLc, iSeq]
    refine ⟨pl_top h1, ?_⟩
    by_cases z : isTp n d = true
    · rw [z, if_pos rfl]
      cases d with
      | tup es =>
        have hes : (es.length : Int) = n := of_decide_eq_true z
        unfold seqG
        refine all_lc isFr es (fun x hx Q hq => ?_) trivial (sz1000 (by omega)) ?_
        · have px := pl_tup h1 x hx
          simp_arith [wipeD]
          refine ⟨pl_top px, ?_, hq⟩
          rintro es' rfl e he
          exact pl_top (pl_tup px e he)
        · rw [isRowD_tup, decide_eq_true hes, Bool.true_and] at q
          exact q
      | _ => exact nomatch z
    · rw [if_neg z]
      have : isRowD n d = false := by
        cases d with
        | tup es =>
          have : ¬ ((es.length : Int) = n) := fun y => z (decide_eq_true y)
          rw [isRowD_tup, decide_eq_false this, Bool.false_and]
        | _ => rfl
      rw [this] at q
      have z' : isTp n d = false := by simpa using z
      first | exact q | (rw [z']; exact q)
  · exact h.elim
/-! ### equal data of one kind -/
mutual
def cl : D → Bool
  | .non => true
  | .int _ => true
  | .str _ => true
  | .tup ds => clL ds
  | _ => false
def clL : List D → Bool
  | [] => true
  | d :: ds => cl d && clL ds
end
mutual
theorem eqD_cl : ∀ d e : D, cl d = true → cl e = true → (eqD d e = true ↔ d = e)
  | .non, .non, _, _ => ⟨fun _ => rfl, fun _ => rfl⟩
  | .int i, .int j, _, _ => by
    show (i == j) = true ↔ _
    rw [beq_iff_eq, D.int.injEq]
  | .str i, .str j, _, _ => by
    show (i == j) = true ↔ _
    rw [beq_iff_eq, D.str.injEq]
  | .tup ds, .tup es, h, h' => by
    show PyData.eqvAll (pyDL ds) (pyDL es) = true ↔ _
    rw [eqD_clL ds es h h', D.tup.injEq]
  | .non, .int _, _, _ => ⟨(nomatch ·), (nomatch ·)⟩
  | .non, .str _, _, _ => ⟨(nomatch ·), (nomatch ·)⟩
  | .non, .tup _, _, _ => ⟨(nomatch ·), (nomatch ·)⟩
  | .int _, .non, _, _ => ⟨(nomatch ·), (nomatch ·)⟩
  | .int _, .str _, _, _ => ⟨(nomatch ·), (nomatch ·)⟩
  | .int _, .tup _, _, _ => ⟨(nomatch ·), (nomatch ·)⟩
  | .str _, .non, _, _ => ⟨(nomatch ·), (nomatch ·)⟩
  | .str _, .int _, _, _ => ⟨(nomatch ·), (nomatch ·)⟩
  | .str _, .tup _, _, _ => ⟨(nomatch ·), (nomatch ·)⟩
  | .tup _, .non, _, _ => ⟨(nomatch ·), (nomatch ·)⟩
  | .tup _, .int _, _, _ => ⟨(nomatch ·), (nomatch ·)⟩
  | .tup _, .str _, _, _ => ⟨(nomatch ·), (nomatch ·)⟩
theorem eqD_clL : ∀ ds es : List D, clL ds = true → clL es = true → (PyData.eqvAll (pyDL ds) (pyDL es) = true ↔ ds = es)
  | [], [], _, _ => ⟨fun _ => rfl, fun _ => rfl⟩
  | [], _ :: _, _, _ => ⟨(nomatch ·), (nomatch ·)⟩
  | _ :: _, [], _, _ => ⟨(nomatch ·), (nomatch ·)⟩
  | d :: ds, e :: es, h, h' => by
    have h : (cl d && clL ds) = true := h
    have h' : (cl e && clL es) = true := h'
    rw [Bool.and_eq_true] at h h'
    show (PyData.eqv (pyD d) (pyD e) && PyData.eqvAll (pyDL ds) (pyDL es)) = true ↔ _
    rw [Bool.and_eq_true, eqD_clL ds es h.2 h'.2, List.cons.injEq]
    exact and_congr_left' (eqD_cl d e h.1 h'.1)
end
theorem eqD_dec [DecidableEq α] {f : α → D} (inj : ∀ x y, f x = f y ↔ x = y) (hc : ∀ x, cl (f x) = true) (x y : α) : eqD (f x) (f y) = decide (x = y) := by
  have h := (eqD_cl _ _ (hc x) (hc y)).trans (inj x y)
  by_cases z : x = y
  · rw [decide_eq_true z, h.mpr z]
  · rw [decide_eq_false z]
    cases e : eqD (f x) (f y) with
    | false => rfl
    | true => exact absurd (h.mp e) z
theorem cl_map {f : α → D} (h : ∀ x, cl (f x) = true) : ∀ xs : List α, clL (xs.map f) = true
  | [] => rfl
  | x :: xs => by
    show (cl (f x) && clL (xs.map f)) = true
    rw [h x, cl_map h xs]; rfl
theorem map_inj {f : α → D} (h : ∀ x y, f x = f y ↔ x = y) : ∀ xs ys : List α, xs.map f = ys.map f ↔ xs = ys
  | [], [] => ⟨fun _ => rfl, fun _ => rfl⟩
  | [], _ :: _ => ⟨(nomatch ·), (nomatch ·)⟩
  | _ :: _, [] => ⟨(nomatch ·), (nomatch ·)⟩
  | x :: xs, y :: ys => by rw [List.map_cons, List.map_cons, List.cons.injEq, List.cons.injEq, h, map_inj h]
theorem cl_encR (q : Rat) : cl (encR q) = true := rfl
theorem eqD_encR (p q : Rat) : eqD (encR p) (encR q) = decide (p = q) := eqD_dec (fun _ _ => encR_inj) cl_encR p q
/-! ### comprehensions over things that are laid as data -/
section
variable {α : Type} {g : TG'} {tt : TT'} {te : ET} {gd : Sto → Prop} {vs : List Nat} {τ : Tau} {Z : List D → Sto → Prop} {S : Sto}
theorem lc_map (enc f : α → D) : ∀ (xs : List α) (acc : List D), (∀ x ∈ xs, ∀ Q : QD, Q (f x) S → g (enc x) (wipeD τ vs) S fun τ2 S2 => te τ2 S2 Q) → gd S → acc.length + xs.length ≤ sizeLine → Z (acc ++ xs.map f) S → cmpG g tYes' te gd vs τ Z (xs.map enc) acc S
  | [], acc, _, hg, _, h => ⟨hg, by simpa using h⟩
  | x :: xs, acc, hel, hg, hz, h => by
    refine ⟨hg, ?_⟩
    have hx := hel x List.mem_cons_self (fun y S4 => acc.length < sizeLine ∧ cmpG g tYes' te gd vs τ Z (xs.map enc) (acc ++ [y]) S4) ⟨by rw [List.length_cons] at hz; omega, lc_map enc f xs (acc ++ [f x]) (fun y hy => hel y (List.mem_cons_of_mem _ hy)) hg (by rw [List.length_append, List.length_singleton]; rw [List.length_cons] at hz; omega) (by simpa using h)⟩
    simpa only [tYes', if_true] using hx
theorem lc_filter (enc : α → D) (p : α → Bool) (f : α → D) : ∀ (xs : List α) (acc : List D), (∀ x ∈ xs, ∀ (Y : QD) (N : Sto → Prop), (p x = true → Y (f x) S) → (p x = false → N S) → g (enc x) (wipeD τ vs) S fun τ2 S2 => tt τ2 S2 fun b S3 => if b = true then te τ2 S3 Y else N S3) →
    gd S → acc.length + xs.length ≤ sizeLine → Z (acc ++ (xs.filter p).map f) S → cmpG g tt te gd vs τ Z (xs.map enc) acc S
  | [], acc, _, hg, _, h => ⟨hg, by simpa using h⟩
  | x :: xs, acc, hel, hg, hz, h => by
    refine ⟨hg, ?_⟩
    rw [List.length_cons] at hz
    refine hel x List.mem_cons_self _ _ (fun e => ⟨by omega, ?_⟩) fun e => ?_
    · refine lc_filter enc p f xs (acc ++ [f x]) (fun y hy => hel y (List.mem_cons_of_mem _ hy)) hg (by rw [List.length_append, List.length_singleton]; omega) ?_
      rw [List.filter_cons_of_pos e] at h
      simpa using h
    · refine lc_filter enc p f xs acc (fun y hy => hel y (List.mem_cons_of_mem _ hy)) hg (by omega) ?_
      rw [List.filter_cons_of_neg (by simp [e])] at h
      exact h
/-- over 0 .. n - 1 -/
theorem rng_map (f : Nat → D) (n : Nat) (hel : ∀ i, i < n → ∀ Q : QD, Q (f i) S → g (.int i) (wipeD τ vs) S fun τ2 S2 => te τ2 S2 Q) (hg : gd S) (hz : n ≤ sizeLine) (h : Z ((List.range n).map f) S) : cmpG g tYes' te gd vs τ Z (rngD 0 n) [] S := by
  rw [rngD_zero]
  exact lc_map (fun i : Nat => .int (i : Int)) f (List.range n) [] (fun i hi => hel i (List.mem_range.mp hi)) hg (by simpa using hz) (by simpa using h)
theorem rng_filter (p : Nat → Bool) (f : Nat → D) (n : Nat) (hel : ∀ i, i < n → ∀ (Y : QD) (N : Sto → Prop), (p i = true → Y (f i) S) → (p i = false → N S) → g (.int i) (wipeD τ vs) S fun τ2 S2 => tt τ2 S2 fun b S3 => if b = true then te τ2 S3 Y else N S3)
    (hg : gd S) (hz : n ≤ sizeLine) (h : Z (((List.range n).filter p).map f) S) : cmpG g tt te gd vs τ Z (rngD 0 n) [] S := by
  rw [rngD_zero]
  exact lc_filter (fun i : Nat => .int (i : Int)) p f (List.range n) [] (fun i hi => hel i (List.mem_range.mp hi)) hg (by simpa using hz) (by simpa using h)
end
/-- an element by its index -/
theorem atI_map {α : Type} {f : α → D} {xs : List α} {i : Nat} (h : i < xs.length) : L2.atI (xs.map f) (i : Int) = some (f xs[i]) := L2.atI_nat (by rw [List.getElem?_map, List.getElem?_eq_getElem h]; rfl)
theorem atI_mapD {α : Type} {f : α → D} {xs : List α} {i : Nat} (z : α) (h : i < xs.length) : L2.atI (xs.map f) (i : Int) = some (f (xs.getD i z)) := by
  rw [atI_map h, List.getD_eq_getElem?_getD, List.getElem?_eq_getElem h]; rfl
end Gx

/-! Gx, data side 5: nets and states. -/
namespace Gx
open PySem L2
local macro_rules | `(tactic| simp_arith [$xs,*]) => `(tactic| try simp only [eVar, eC, eBin, eUn, tBl, tAnd', tOr', tNot', eAnd, eOr, eNot, eIf, aNil, aCons, eTup, eLst, eLstM, eCall, eCallK, pick, sNext, sSeq, sBreak, sCont, sDrop, sRet, sRetN, sIf, sNever, gNm, gsNil, gsCons, gTupl, gSubs, sAsg, sPar, sPar3, sFor, iSeq, seqG_tup, seqG_lst, seqG_scr, iRange1, iRange2, iEnumG, iZipG, td_tup, td_lst, td_scr, eLc, eLcM, tYes', pNone, pSome, eSl, cu_tup, cu_lst, cu_scr, eMt, eMt0, mAppend, isL, rs_non, rs_bl, rs_int, rs_str, rs_tup, rs_lst', rs_scr, itemsOf_tup, itemsOf_lst, itemsOf_scr, oI, oI0, oSub, oFdiv, oMod, oPow, oShl, oShr, oAnd, oOr, oXor, oLt, oLe, oGt, oGe, oNeg, oIsN, oNotN, Gx.isNon, oAdd, oAdd', oMul, oMul', oMulM, oEq, oNe, oEqS, oNeS, oIn, oNin, eChain, oIx, oSet, cLen, cList, cListM, cTuple, cSum, cAll, cAny, cInt, cAbs, cMax2, cMin2, cDivmod, cGcd, cIsi, cRepr, lstInts, lstBls, startD, wipeD, List.map_cons, List.map_nil, List.length_cons, List.length_nil, List.cons_append, List.nil_append, List.replicate_succ, List.replicate_zero, List.set_cons_succ, List.set_cons_zero, List.getElem?_cons_succ, List.getElem?_cons_zero, List.filterMap_cons_some, List.filterMap_nil, Nat.reduceAdd, Nat.reduceSub, Nat.sub_self, Nat.reduceLT, Nat.reduceMul, Nat.zero_add, Nat.add_zero, if_true, if_false, and_true, true_and, and_false, false_and, or_true, true_or, or_false, false_or, not_true_eq_false, not_false_eq_true, Bool.not_true, Bool.not_false, Bool.false_eq_true, ite_true, ite_false, reduceIte, reduceCtorEq, eq_self, $xs,*])

/-! ### nets -/
structure Net where
  ws : List (List Rat)
  ms : List Rat
def Net.n (N : Net) : Nat := N.ms.length
def encW (ws : List (List Rat)) : D := .tup (ws.map encRow)
def encN (N : Net) : D := .tup [encW N.ws, encRow N.ms]
def wrow (N : Net) (i : Nat) : List Rat := N.ws.getD i []
def wt (N : Net) (i j : Nat) : Rat := (wrow N i).getD j 0
def mk' (N : Net) (i : Nat) : Rat := N.ms.getD i 0
structure Net.Ok (N : Net) : Prop where
  pos : 1 ≤ N.n
  few : N.n ≤ 8
  sq : N.ws.length = N.n
  row : ∀ r ∈ N.ws, r.length = N.n
  dia : ∀ i, i < N.n → wt N i i = 0
theorem pl_encR (q : Rat) : pl 1 (encR q) = true := rfl
theorem pl_encRow (r : List Rat) : pl 2 (encRow r) = true := pl_of_tup fun x hx => by
  obtain ⟨q, _, rfl⟩ := List.mem_map.mp hx
  exact pl_encR q
theorem pl_encN (N : Net) : pl 4 (encN N) = true := pl_of_tup fun x hx => by
  simp only [List.mem_cons, List.not_mem_nil, or_false] at hx
  rcases hx with rfl | rfl
  · exact pl_of_tup fun x hx => by
      obtain ⟨q, _, rfl⟩ := List.mem_map.mp hx
      exact pl_encRow q
  · exact pl_mono (pl_encRow _) (by decide)
def nth (ds : List D) (i : Nat) : D := ds.getD i .non
def cellD (rows : List D) (i : Nat) : D := match nth rows i with
  | .tup es => nth es i
  | _ => .non
def isNetD : D → Bool
  | .tup [.tup rows, m] => (decide (1 ≤ (rows.length : Int)) && decide ((rows.length : Int) ≤ 8)) && (rows.all (isRowD rows.length) && isRowD rows.length m && (List.range rows.length).all fun i => eqD (cellD rows i) (encR 0))
  | _ => false
theorem isNetD_tup (rows : List D) (m : D) : isNetD (.tup [.tup rows, m]) = ((decide (1 ≤ (rows.length : Int)) && decide ((rows.length : Int) ≤ 8)) && (rows.all (isRowD rows.length) && isRowD rows.length m && (List.range rows.length).all fun i => eqD (cellD rows i) (encR 0))) := rfl
theorem cellD_enc {ws : List (List Rat)} {n i : Nat} (hl : ws.length = n) (hr : ∀ r ∈ ws, r.length = n) (hi : i < n) : cellD (ws.map encRow) i = encR ((ws.getD i []).getD i 0) := by
  have h1 : i < ws.length := by omega
  unfold cellD nth
  rw [List.getD_eq_getElem?_getD, List.getElem?_map, List.getElem?_eq_getElem h1]
  have h2 := hr ws[i] (List.getElem_mem h1)
  show nth (ws[i].map encR) i = _
  unfold nth
  rw [List.getD_eq_getElem?_getD, List.getElem?_map, List.getElem?_eq_getElem (by omega)]
  simp only [List.getD_eq_getElem?_getD]
  rw [List.getElem?_eq_getElem h1, Option.getD_some, List.getElem?_eq_getElem (by omega)]
  rfl
theorem rows_of {n : Int} : ∀ {es : List D}, es.all (isRowD n) = true → ∃ ws : List (List Rat), es = ws.map encRow ∧ ∀ r ∈ ws, (r.length : Int) = n
  | [], _ => ⟨[], rfl, fun _ h => nomatch h⟩
  | e :: es, h => by
    rw [List.all_cons, Bool.and_eq_true] at h
    obtain ⟨r, rfl, hr⟩ := isRow_of h.1
    obtain ⟨ws, rfl, hw⟩ := rows_of h.2
    refine ⟨r :: ws, rfl, fun x hx => ?_⟩
    rcases List.mem_cons.mp hx with rfl | hx
    · exact hr
    · exact hw x hx
theorem isNet_enc {N : Net} (h : N.Ok) : isNetD (encN N) = true := by
  have hs := h.sq
  have hn : N.n = N.ms.length := rfl
  unfold encN encW
  rw [isNetD_tup, List.length_map]
  simp only [Bool.and_eq_true, decide_eq_true_eq, List.all_eq_true]
  have := h.pos
  have := h.few
  refine ⟨⟨by omega, by omega⟩, ⟨fun x hx => ?_, ?_⟩, fun i hi => ?_⟩
  · obtain ⟨r, hr, rfl⟩ := List.mem_map.mp hx
    rw [hs, ← h.row r hr]
    exact isRow_enc r
  · rw [hs]; exact isRow_enc N.ms
  · rw [cellD_enc hs (fun r hr => h.row r hr) (by have := List.mem_range.mp hi; omega), eqD_encR, decide_eq_true_eq]
    exact h.dia i (by have := List.mem_range.mp hi; omega)
def γ_is_net_by : OL := fun ds S R => match ds with
  | [d] => pl 60 d = true ∧ R (.bl (isNetD d)) S
  | _ => False
def body_is_net_by (γ_is_tuple_of γ_is_row : OL) (d_MOST_CELLS d_ZERO : D) : ST := sSeq (sIf (tOr' (tNot' (tBl (eCall γ_is_tuple_of (aCons (eVar 0) (aCons (eC (.int 2)) (aNil)))))) (tOr' (tNot' (tBl (eCall cIsi (aCons (eBin oIx (eVar 0) (eC (.int 0))) (aCons (eC (.ty "tuple")) (aNil)))))) (tNot' (tBl (eChain oLe oLe (eC (.int 1)) (eCall cLen (aCons (eBin oIx (eVar 0) (eC (.int 0))) (aNil))) (eC d_MOST_CELLS)))))) (sRet (eC (.bl false))) (sNext))
  (sSeq (sAsg (eCall cLen (aCons (eBin oIx (eVar 0) (eC (.int 0))) (aNil))) (gNm 1))
  (sSeq (sIf (tOr' (tNot' (tBl (eCall cAll (aCons (eLc (iSeq (eBin oIx (eVar 0) (eC (.int 0)))) (gNm 3) (tYes') (eCall γ_is_row (aCons (eVar 3) (aCons (eVar 1) (aNil)))) [3]) (aNil))))) (tNot' (tBl (eCall γ_is_row (aCons (eBin oIx (eVar 0) (eC (.int 1))) (aCons (eVar 1) (aNil))))))) (sRet (eC (.bl false))) (sNext))
  (sRet (eCall cAll (aCons (eLc (iRange1 (aCons (eVar 1) (aNil))) (gNm 2) (tYes') (eBin oEq (eBin oIx (eBin oIx (eBin oIx (eVar 0) (eC (.int 0))) (eVar 2)) (eVar 2)) (eC d_ZERO)) [2]) (aNil))))))
theorem law_is_net_by : Law 4 γ_is_net_by (body_is_net_by γ_is_tuple_of γ_is_row (.int 8) (.tup [.int 0, .int 1])) := by
  intro ds S R h
  unfold γ_is_net_by at h
  split at h
  · rename_i d
    obtain ⟨h1, h2⟩ := h
    have q := fin_of h2
    unfold body_is_net_by γ_is_tuple_of γ_is_row
    by_cases z : ∃ rows m, d = .tup [.tup rows, m]
    · obtain ⟨rows, m, rfl⟩ := z
      have p0 := pl_tup h1 (.tup rows) (by simp)
      have p1 := pl_tup h1 m (by simp)
      rw [isNetD_tup] at q
      have e2 : isTp 2 (.tup [.tup rows, m]) = true := rfl
      simp_arith [pl_top h1, e2, atI_0, isPlainTop, List.mem_cons, String.reduceEq, isiD, beq_self_eq_true]
      by_cases a : (1 : Int) ≤ rows.length
      · by_cases b : (rows.length : Int) ≤ 8
        · simp only [a, b, decide_true, Bool.true_and] at q
          simp_arith [a, b, decide_true]
          refine cmp_map (fun x => .bl (isRowD rows.length x)) rows [] (fun x hx Q hq => ?_) trivial (sz1000 (by rw [List.length_nil]; omega)) ?_
          · simp_arith [wipeD]
            exact ⟨⟨pl_tup p0 x hx, by omega⟩, hq⟩
          · simp_arith [lstBls_map, List.all_map, Function.id_comp]
            by_cases c : rows.all (isRowD rows.length) = true
            · simp only [c, Bool.true_and] at q
              simp_arith [c, atI_1]
              refine ⟨⟨p1, by omega⟩, ?_⟩
              by_cases e : isRowD rows.length m = true
              · simp only [e, Bool.true_and] at q
                simp_arith [e]
                refine ⟨⟨by omega, by omega⟩, ?_⟩
                obtain ⟨ws, rfl, hw⟩ := rows_of c
                rw [List.length_map] at *
                rw [Int.toNat_natCast]
                refine rng_map (fun i => .bl (eqD (cellD (ws.map encRow) i) (encR 0))) _ (fun i hi Q hq => ?_) trivial (sz1000 (by omega)) ?_
                · have hrow := hw (ws.getD i []) (by rw [List.getD_eq_getElem?_getD, List.getElem?_eq_getElem hi]; exact List.getElem_mem hi)
                  have g1 : L2.atI (ws.map encRow) (i : Int) = some (encRow (ws.getD i [])) := atI_mapD [] hi
                  have g2 : L2.atI ((ws.getD i []).map encR) (i : Int) = some (encR ((ws.getD i []).getD i 0)) := atI_mapD 0 (by omega)
                  have hc := cellD_enc (ws := ws) (n := ws.length) (i := i) rfl (fun r hr => by have := hw r hr; omega) hi
                  rw [hc] at hq
                  simp_arith [wipeD, atI_0, g1, encRow, g2, encR]
                  exact ⟨⟨pl_mono (pl_encR _) (by decide), rfl⟩, hq⟩
                · simp_arith [lstBls_map, List.all_map, Function.id_comp]
                  exact q
              · have e : isRowD rows.length m = false := by simpa using e
                simp only [e, Bool.false_and] at q
                simp_arith [e]
                exact q
            · have c : rows.all (isRowD rows.length) = false := by simpa using c
              simp only [c, Bool.false_and] at q
              simp_arith [c]
              exact q
        · simp only [b, decide_false, Bool.false_and, Bool.and_false] at q
          simp_arith [a, b, decide_true, decide_false]
          exact q
      · simp only [a, decide_false, Bool.false_and] at q
        simp_arith [a, decide_false]
        exact q
    · have e : isNetD d = false := by
        unfold isNetD
        split
        · exact absurd ⟨_, _, rfl⟩ z
        · rfl
      rw [e] at q
      simp_arith [pl_top h1]
      by_cases e2 : isTp 2 d = true
      · cases d with
        | tup es =>
          match es, e2, z, h1, q with
          | [x, y], e2, z, h1, q =>
            have px := pl_top (pl_tup h1 x (by simp))
            simp_arith [e2, atI_0, rs_plain px, px, List.mem_cons, String.reduceEq]
            have e3 : isiD "tuple" x = false := by
              cases x with
              | tup rows => exact absurd ⟨_, _, rfl⟩ z
              | _ => first | rfl | exact nomatch px
            simp_arith [e3]
            exact q
          | [], e2, _, _, _ => exact nomatch e2
          | [_], e2, _, _, _ => exact nomatch e2
          | _ :: _ :: _ :: es, e2, _, _, _ => simp only [isTp, decide_eq_true_eq, List.length_cons] at e2; omega
        | _ => exact nomatch e2
      · have e2 : isTp 2 d = false := by simpa using e2
        simp_arith [e2]
        exact q
  · exact h.elim
def γ_many_cells : OL := fun ds S R => ∃ N : Net, ds = [encN N] ∧ R (.int (N.n : Nat)) S
def body_many_cells : ST := sRet (eCall cLen (aCons (eBin oIx (eVar 0) (eC (.int 1))) (aNil)))
theorem law_many_cells : Law 1 γ_many_cells body_many_cells := by
  intro ds S R ⟨N, e, h⟩
  subst e
  unfold body_many_cells encN encRow
  simp_arith [atI_1, List.length_map]
  exact fin_of h

/-! ### states -/
def bit (b : Bool) : Int := if b then 1 else 0
def encB (b : Bool) : D := .int (bit b)
def encS (s : List Bool) : D := .tup (s.map encB)
theorem bit_inj (a b : Bool) : bit a = bit b ↔ a = b := by cases a <;> cases b <;> simp [bit]
theorem encB_inj (a b : Bool) : encB a = encB b ↔ a = b := by
  unfold encB
  rw [D.int.injEq]
  exact bit_inj a b
theorem encS_inj (a b : List Bool) : encS a = encS b ↔ a = b := by
  unfold encS
  rw [D.tup.injEq]
  exact map_inj encB_inj a b
theorem cl_encS (s : List Bool) : cl (encS s) = true := cl_map (fun _ => rfl) s
theorem pl_encS (s : List Bool) : pl 1 (encS s) = true := pl_of_tup fun x hx => by
  obtain ⟨q, _, rfl⟩ := List.mem_map.mp hx
  rfl
def isStD (n : Nat) : D → Bool
  | .tup es => decide ((es.length : Int) = n) && es.all (isBw 0 1)
  | _ => false
theorem isStD_tup (n : Nat) (es : List D) : isStD n (.tup es) = (decide ((es.length : Int) = n) && es.all (isBw 0 1)) := rfl
theorem isBw_bit (b : Bool) : isBw 0 1 (encB b) = true := by cases b <;> rfl
theorem isSt_enc {n : Nat} {s : List Bool} (h : s.length = n) : isStD n (encS s) = true := by
  unfold encS
  rw [isStD_tup, List.length_map, h, decide_eq_true rfl, Bool.true_and, List.all_eq_true]
  intro x hx
  obtain ⟨b, _, rfl⟩ := List.mem_map.mp hx
  exact isBw_bit b
def γ_is_state_by : OL := fun ds S R => ∃ (N : Net) (d : D), ds = [encN N, d] ∧ (N.n ≤ 8 ∧ pl 60 d = true) ∧ R (.bl (isStD N.n d)) S
def body_is_state_by (γ_is_tuple_of γ_many_cells γ_is_between : OL) : ST := sRet (eAnd (eCall γ_is_tuple_of (aCons (eVar 1) (aCons (eCall γ_many_cells (aCons (eVar 0) (aNil))) (aNil)))) (eCall cAll (aCons (eLc (iSeq (eVar 1)) (gNm 2) (tYes') (eCall γ_is_between (aCons (eVar 2) (aCons (eC (.int 0)) (aCons (eC (.int 1)) (aNil))))) [2]) (aNil))))
theorem law_is_state_by : Law 3 γ_is_state_by (body_is_state_by γ_is_tuple_of γ_many_cells γ_is_between) := by
  intro ds S R ⟨N, d, e, ⟨h8, h1⟩, h2⟩
  subst e
  have q := fin_of h2
  unfold body_is_state_by γ_is_tuple_of γ_many_cells γ_is_between
  simp_arith []
  refine ⟨N, rfl, pl_top h1, ?_⟩
  by_cases z : isTp (N.n : Nat) d = true
  · cases d with
    | tup es =>
      have hes : (es.length : Int) = (N.n : Nat) := of_decide_eq_true z
      rw [isStD_tup, decide_eq_true hes, Bool.true_and] at q
      simp_arith [z]
      refine cmp_map (fun x => .bl (isBw 0 1 x)) es [] (fun x hx Q hq => ?_) trivial (sz1000 (by rw [List.length_nil]; omega)) ?_
      · simp_arith [wipeD]
        exact ⟨pl_top (pl_tup h1 x hx), hq⟩
      · simp_arith [lstBls_map, List.all_map, Function.id_comp]
        exact q
    | _ => exact nomatch z
  · have z' : isTp (N.n : Nat) d = false := by simpa using z
    have : isStD N.n d = false := by
      cases d with
      | tup es =>
        have : ¬ ((es.length : Int) = (N.n : Nat)) := fun y => z (decide_eq_true y)
        rw [isStD_tup, decide_eq_false this, Bool.false_and]
      | _ => rfl
    rw [this] at q
    simp_arith [z']
    exact q
/-- numbers of cells; some states -/
def encI (ns : List Nat) : D := .tup (ns.map fun i : Nat => .int (i : Int))
def encSs (ss : List (List Bool)) : D := .tup (ss.map encS)
/-! ### what the readings ask of them -/
section
variable {S : Sto} {N : Net} {ws : List (List Rat)} {r : List Rat} {q : Rat} {b : List Bool} {Z : List D → (Sto → Prop) → Sto → Prop}
theorem rs_N : rs S (encN N) = encN N := rfl
theorem rs_W : rs S (encW ws) = encW ws := rfl
theorem rs_Row : rs S (encRow r) = encRow r := rfl
theorem rs_R : rs S (encR q) = encR q := rfl
theorem rs_S : rs S (encS b) = encS b := rfl
theorem rs_B {x : Bool} : rs S (encB x) = encB x := rfl
theorem it_N : itemsOf (encN N) = some [encW N.ws, encRow N.ms] := rfl
theorem it_W : itemsOf (encW ws) = some (ws.map encRow) := rfl
theorem it_Row : itemsOf (encRow r) = some (r.map encR) := rfl
theorem it_R : itemsOf (encR q) = some [.int q.num, .int q.den] := rfl
theorem it_S : itemsOf (encS b) = some (b.map encB) := rfl
theorem sq_W : seqG S Z (encW ws) = Z (ws.map encRow) (fun _ => True) S := rfl
theorem sq_Row : seqG S Z (encRow r) = Z (r.map encR) (fun _ => True) S := rfl
theorem sq_S : seqG S Z (encS b) = Z (b.map encB) (fun _ => True) S := rfl
theorem rs_I {ns : List Nat} : rs S (encI ns) = encI ns := rfl
theorem it_I {ns : List Nat} : itemsOf (encI ns) = some (ns.map fun i : Nat => .int (i : Int)) := rfl
theorem sq_I {ns : List Nat} : seqG S Z (encI ns) = Z (ns.map fun i : Nat => .int (i : Int)) (fun _ => True) S := rfl
theorem td_I {ns : List Nat} : isTupD (encI ns) = true := rfl
theorem rs_Ss {ns : List (List Bool)} : rs S (encSs ns) = encSs ns := rfl
theorem it_Ss {ns : List (List Bool)} : itemsOf (encSs ns) = some (ns.map encS) := rfl
theorem sq_Ss {ns : List (List Bool)} : seqG S Z (encSs ns) = Z (ns.map encS) (fun _ => True) S := rfl
theorem td_Ss {ns : List (List Bool)} : isTupD (encSs ns) = true := rfl
theorem td_N : isTupD (encN N) = true := rfl
theorem td_W : isTupD (encW ws) = true := rfl
theorem td_Row : isTupD (encRow r) = true := rfl
theorem td_S : isTupD (encS b) = true := rfl
end
section
variable {S : Sto} {R : QD} {lo hi : Option Int}
theorem cu_S {s : List Bool} : oCut lo hi S R (encS s) = R (.tup (cutD (s.map encB) lo hi)) S := rfl
theorem cu_W {s : List (List Rat)} : oCut lo hi S R (encW s) = R (.tup (cutD (s.map encRow) lo hi)) S := rfl
theorem cu_Row {s : List Rat} : oCut lo hi S R (encRow s) = R (.tup (cutD (s.map encR) lo hi)) S := rfl
end
end Gx

/-! Gx, data side 6: what a cell hears, what the cells want. -/
namespace Gx
open PySem L2
local macro_rules | `(tactic| simp_arith [$xs,*]) => `(tactic| try simp only [eVar, eC, eBin, eUn, tBl, tAnd', tOr', tNot', eAnd, eOr, eNot, eIf, aNil, aCons, eTup, eLst, eLstM, eCall, eCallK, pick, sNext, sSeq, sBreak, sCont, sDrop, sRet, sRetN, sIf, sNever, gNm, gsNil, gsCons, gTupl, gSubs, sAsg, sPar, sPar3, sFor, iSeq, seqG_tup, seqG_lst, seqG_scr, iRange1, iRange2, iEnumG, iZipG, td_tup, td_lst, td_scr, eLc, eLcM, tYes', pNone, pSome, eSl, cu_tup, cu_lst, cu_scr, eMt, eMt0, mAppend, isL, rs_non, rs_bl, rs_int, rs_str, rs_tup, rs_lst', rs_scr, itemsOf_tup, itemsOf_lst, itemsOf_scr, oI, oI0, oSub, oFdiv, oMod, oPow, oShl, oShr, oAnd, oOr, oXor, oLt, oLe, oGt, oGe, oNeg, oIsN, oNotN, Gx.isNon, oAdd, oAdd', oMul, oMul', oMulM, oEq, oNe, oEqS, oNeS, oIn, oNin, eChain, oIx, oSet, cLen, cList, cListM, cTuple, cSum, cAll, cAny, cInt, cAbs, cMax2, cMin2, cDivmod, cGcd, cIsi, cRepr, lstInts, lstBls, startD, wipeD, List.map_cons, List.map_nil, List.length_cons, List.length_nil, List.cons_append, List.nil_append, List.replicate_succ, List.replicate_zero, List.set_cons_succ, List.set_cons_zero, List.getElem?_cons_succ, List.getElem?_cons_zero, List.filterMap_cons_some, List.filterMap_nil, Nat.reduceAdd, Nat.reduceSub, Nat.sub_self, Nat.reduceLT, Nat.reduceMul, Nat.zero_add, Nat.add_zero, if_true, if_false, and_true, true_and, and_false, false_and, or_true, true_or, or_false, false_or, not_true_eq_false, not_false_eq_true, Bool.not_true, Bool.not_false, Bool.false_eq_true, ite_true, ite_false, reduceIte, reduceCtorEq, eq_self, $xs,*])
local macro_rules | `(tactic| simp_arith! [$xs,*]) => `(tactic| try simp only [eVar, eC, eBin, eUn, tBl, tAnd', tOr', tNot', eAnd, eOr, eNot, eIf, aNil, aCons, eTup, eLst, eLstM, eCall, eCallK, pick, sNext, sSeq, sBreak, sCont, sDrop, sRet, sRetN, sIf, sNever, gNm, gsNil, gsCons, gTupl, gSubs, sAsg, sPar, sPar3, sFor, iSeq, seqG_tup, seqG_lst, seqG_scr, iRange1, iRange2, iEnumG, iZipG, td_tup, td_lst, td_scr, eLc, eLcM, tYes', pNone, pSome, eSl, cu_tup, cu_lst, cu_scr, eMt, eMt0, mAppend, isL, rs_non, rs_bl, rs_int, rs_str, rs_tup, rs_lst', rs_scr, itemsOf_tup, itemsOf_lst, itemsOf_scr, oI, oI0, oSub, oFdiv, oMod, oPow, oShl, oShr, oAnd, oOr, oXor, oLt, oLe, oGt, oGe, oNeg, oIsN, oNotN, Gx.isNon, oAdd, oAdd', oMul, oMul', oMulM, oEq, oNe, oEqS, oNeS, oIn, oNin, eChain, oIx, oSet, cLen, cList, cListM, cTuple, cSum, cAll, cAny, cInt, cAbs, cMax2, cMin2, cDivmod, cGcd, cIsi, cRepr, lstInts, lstBls, startD, wipeD, List.map_cons, List.map_nil, List.length_cons, List.length_nil, List.cons_append, List.nil_append, List.replicate_succ, List.replicate_zero, List.set_cons_succ, List.set_cons_zero, List.getElem?_cons_succ, List.getElem?_cons_zero, List.filterMap_cons_some, List.filterMap_nil, Nat.reduceAdd, Nat.reduceSub, Nat.sub_self, Nat.reduceLT, Nat.reduceMul, Nat.zero_add, Nat.add_zero, if_true, if_false, and_true, true_and, and_false, false_and, or_true, true_or, or_false, false_or, not_true_eq_false, not_false_eq_true, Bool.not_true, Bool.not_false, Bool.false_eq_true, ite_true, ite_false, reduceIte, reduceCtorEq, eq_self, rs_N, rs_W, rs_Row, rs_S, rs_R, rs_B, it_N, it_W, it_Row, it_S, it_R, sq_W, sq_Row, sq_S, td_N, td_W, td_Row, td_S, rs_I, it_I, sq_I, td_I, rs_Ss, it_Ss, sq_Ss, td_Ss, cu_S, cu_W, cu_Row, atI_0, atI_1, $xs,*])

/-! ### states by their numbers -/
def stateOf (n k : Nat) : List Bool := (List.range n).map fun i => k.testBit i
theorem stateOf_length (n k : Nat) : (stateOf n k).length = n := by unfold stateOf; simp
def allS (n : Nat) : List (List Bool) := (List.range (2 ^ n)).map (stateOf n)
theorem bit_testBit (k i : Nat) : (k : Int) / 2 ^ i % 2 = bit (k.testBit i) := by
  have h : k.testBit i = decide (k / 2 ^ i % 2 = 1) := Nat.testBit_eq_decide_div_mod_eq
  have e : (k : Int) / 2 ^ i % 2 = ((k / 2 ^ i % 2 : Nat) : Int) := by
    rw [Int.natCast_emod, Int.natCast_ediv, ← PySem.W.kbt_cast]; rfl
  rw [e, h]
  rcases Nat.mod_two_eq_zero_or_one (k / 2 ^ i) with z | z <;> rw [z] <;> rfl
theorem encS_of (n k : Nat) : encS (stateOf n k) = .tup ((List.range n).map fun i => encB (k.testBit i)) := by
  unfold encS stateOf
  rw [List.map_map]; rfl
def γ_state_by : OL := fun ds S R => ∃ n k : Nat, ds = [.int n, .int k] ∧ n ≤ 1000 ∧ R (encS (stateOf n k)) S
def body_state_by : ST := sRet (eCall cTuple (aCons (eLc (iRange1 (aCons (eVar 0) (aNil))) (gNm 2) (tYes') (eBin oAnd (eBin oShr (eVar 1) (eVar 2)) (eC (.int 1))) [2]) (aNil)))
theorem law_state_by : Law 3 γ_state_by body_state_by := by
  intro ds S R ⟨n, k, e, hn, h⟩
  subst e
  have q := fin_of h
  unfold body_state_by
  simp_arith []
  refine ⟨⟨by omega, by omega⟩, ?_⟩
  rw [Int.toNat_natCast]
  refine rng_map (fun i => encB (k.testBit i)) n (fun i hi Q hq => ?_) trivial (sz1000 hn) ?_
  · have e : Builtin.bitAnd ((k : Int) / 2 ^ i) 1 = bit (k.testBit i) := by rw [PyProof.Rows.bitAnd_m1, bit_testBit]
    simp_arith [wipeD, Int.toNat_natCast, e]
    exact ⟨by omega, hq⟩
  · rw [encS_of] at q
    exact q
def γ_all_states : OL := fun ds S R => ∃ N : Net, ds = [encN N] ∧ N.n ≤ 8 ∧ R (.lst ((allS N.n).map encS)) S
def body_all_states (γ_many_cells γ_state_by : OL) : ST := sRet (eLc (iRange1 (aCons (eBin oShl (eC (.int 1)) (eCall γ_many_cells (aCons (eVar 0) (aNil)))) (aNil))) (gNm 1) (tYes') (eCall γ_state_by (aCons (eCall γ_many_cells (aCons (eVar 0) (aNil))) (aCons (eVar 1) (aNil)))) [1])
theorem pow8 {n : Nat} (h : n ≤ 8) : 2 ^ n ≤ 256 := Nat.pow_le_pow_right (by decide) h
theorem shl_one {n : Nat} : (1 : Int) * 2 ^ ((n : Int).toNat) = ((2 ^ n : Nat) : Int) := by rw [Int.toNat_natCast, Int.one_mul, PySem.W.kbt_cast]
theorem law_all_states : Law 2 γ_all_states (body_all_states γ_many_cells γ_state_by) := by
  intro ds S R ⟨N, e, hn, h⟩
  subst e
  have q := fin_of h
  have p8 := pow8 hn
  unfold body_all_states γ_many_cells γ_state_by
  simp_arith [shl_one]
  refine ⟨N, rfl, ⟨by omega, by omega, by decide⟩, ⟨Int.le_trans (by decide) (Int.natCast_nonneg (2 ^ N.n)), Int.lt_of_le_of_lt (Int.ofNat_le.mpr p8) (by decide)⟩, ?_⟩
  rw [Int.toNat_natCast]
  refine rng_map (fun i => encS (stateOf N.n i)) _ (fun i hi Q hq => ?_) trivial (sz1000 (by omega)) ?_
  · simp_arith [wipeD]
    exact ⟨N, rfl, _, _, rfl, by omega, hq⟩
  · unfold allS at q
    rw [List.map_map] at q
    exact q

/-! ### what a cell hears -/
def pickW (ws : List Rat) (s : List Bool) : List Rat := ((List.zip ws s).filter (·.2)).map (·.1)
def hear (N : Net) (i : Nat) (s : List Bool) : Rat := sumR (pickW (wrow N i) s)
/-- few figures -/
def SmB (A b : Nat) (N : Net) : Prop := (∀ r ∈ N.ws, ∀ q ∈ r, Bd A b q) ∧ ∀ q ∈ N.ms, Bd A b q
abbrev Sm (N : Net) : Prop := SmB (2 ^ 50000) 200 N
theorem SmB.mono {A b B c : Nat} {N : Net} (h : SmB A b N) (h1 : A ≤ B) (h2 : b ≤ c) : SmB B c N := ⟨fun r hr q hq => (h.1 r hr q hq).mono h1 h2, fun q hq => (h.2 q hq).mono h1 h2⟩
theorem SmB.sm {a b : Nat} {N : Net} (h : SmB (2 ^ a) b N) (h1 : a ≤ 50000 := by decide) (h2 : b ≤ 200 := by decide) : Sm N := h.mono (pow2_le h1) h2
theorem pickW_mem {ws : List Rat} {s : List Bool} {q : Rat} (h : q ∈ pickW ws s) : q ∈ ws := by
  unfold pickW at h
  obtain ⟨p, hp, rfl⟩ := List.mem_map.mp h
  exact (List.of_mem_zip (List.mem_filter.mp hp).1).1
theorem pickW_length {ws : List Rat} {s : List Bool} : (pickW ws s).length ≤ ws.length := by
  unfold pickW
  rw [List.length_map]
  refine Nat.le_trans (List.length_filter_le _ _) ?_
  rw [List.length_zip]
  exact Nat.min_le_left _ _
theorem wrow_mem {N : Net} {i : Nat} (h : i < N.ws.length) : wrow N i ∈ N.ws := by
  unfold wrow
  rw [List.getD_eq_getElem?_getD, List.getElem?_eq_getElem h]
  exact List.getElem_mem h
theorem mk_mem {N : Net} {i : Nat} (h : i < N.n) : mk' N i ∈ N.ms := by
  unfold mk'
  rw [List.getD_eq_getElem?_getD, List.getElem?_eq_getElem h]
  exact List.getElem_mem h
theorem Net.Ok.wrow {N : Net} (h : N.Ok) {i : Nat} (hi : i < N.n) : (wrow N i).length = N.n := h.row _ (wrow_mem (by rw [h.sq]; exact hi))
theorem hear_bd {A b : Nat} {N : Net} (h : N.Ok) (sm : SmB A b N) {i : Nat} (hi : i < N.n) (s : List Bool) : Bd (8 * A) (8 * b + 1) (hear N i s) := by
  have hl : (pickW (wrow N i) s).length ≤ 8 := Nat.le_trans pickW_length (by rw [h.wrow hi]; exact h.few)
  have hb := bd_sum (qs := pickW (wrow N i) s) (A := A) (b := b) fun q hq => sm.1 _ (wrow_mem (by rw [h.sq]; exact hi)) q (pickW_mem hq)
  exact hb.mono (Nat.mul_le_mul_right _ hl) (Nat.add_le_add_right (Nat.mul_le_mul_right _ hl) 1)
theorem eight_pow {a : Nat} : 8 * 2 ^ a < 2 ^ (a + 4) := by
  rw [Nat.pow_add]
  have := Nat.two_pow_pos a
  omega
theorem hear_big {N : Net} (h : N.Ok) (sm : Sm N) {i : Nat} (hi : i < N.n) (s : List Bool) : Big (hear N i s) := (hear_bd h sm hi s).big (a := 50004) eight_pow
theorem mk_big {N : Net} (sm : Sm N) {i : Nat} (hi : i < N.n) : Big (mk' N i) := (sm.2 _ (mk_mem hi)).big (a := 50001) (Nat.pow_lt_pow_right (by decide) (by decide))
def γ_heard_by : OL := fun ds S R => ∃ (N : Net) (i : Nat) (s : List Bool), ds = [encN N, .int i, encS s] ∧ (N.Ok ∧ Sm N ∧ i < N.n ∧ s.length = N.n) ∧ R (encR (hear N i s)) S
def body_heard_by (γ_total : OL) : ST := sRet (eCall γ_total (aCons (eLc (iZipG (aCons (eBin oIx (eBin oIx (eVar 0) (eC (.int 0))) (eVar 1)) (aCons (eVar 2) (aNil)))) (gTupl 2 (gsCons (gNm 3) (gsCons (gNm 4) (gsNil)))) (tBl (eBin oEq (eVar 4) (eC (.int 1)))) (eVar 3) [3, 4]) (aNil)))
theorem eqD_bit (b : Bool) : eqD (.int (bit b)) (.int 1) = b := by cases b <;> rfl
theorem ix_row {N : Net} (h : N.Ok) {i : Nat} (hi : i < N.n) : L2.atI (N.ws.map encRow) (i : Int) = some (encRow (wrow N i)) := atI_mapD [] (by rw [h.sq]; exact hi)
theorem ix_mark {N : Net} {i : Nat} (hi : i < N.n) : L2.atI (N.ms.map encR) (i : Int) = some (encR (mk' N i)) := atI_mapD 0 hi
theorem law_heard_by : Law 5 γ_heard_by (body_heard_by γ_total) := by
  intro ds S R ⟨N, i, s, e, ⟨ok, sm, hi, hs⟩, h⟩
  subst e
  have q := fin_of h
  have g1 := ix_row ok hi
  have hw := ok.wrow hi
  have h8 := ok.few
  unfold body_heard_by γ_total
  simp_arith! [g1, zipD_map]
  refine lc_filter (fun p : Rat × Bool => .tup [encR p.1, encB p.2]) (fun p => p.2) (fun p => encR p.1) (List.zip (wrow N i) s) [] (fun x hx Y M hy hn => ?_) trivial (sz1000 (by rw [List.length_zip, List.length_nil]; omega)) ?_
  · simp_arith [wipeD, encB, pl_int, eqD_bit]
    split
    · rename_i z; exact hy z
    · rename_i z; exact hn (by simpa using z)
  · refine ⟨pickW (wrow N i) s, ?_, ⟨?_, fun q hq => ?_⟩, q⟩
    · unfold pickW
      rw [List.map_map]; rfl
    · have := pickW_length (ws := wrow N i) (s := s)
      omega
    · exact (sm.1 _ (wrow_mem (by rw [ok.sq]; exact hi)) q (pickW_mem hq)).mono (Nat.pow_le_pow_right (by decide) (by decide)) (by decide)

/-! ### what the cells want -/
def wants (N : Net) (s : List Bool) : List Bool := (List.range N.n).map fun i => decide (mk' N i < hear N i s)
theorem wants_length (N : Net) (s : List Bool) : (wants N s).length = N.n := by unfold wants; simp
def γ_wanted_by : OL := fun ds S R => ∃ (N : Net) (s : List Bool), ds = [encN N, encS s] ∧ (N.Ok ∧ Sm N ∧ s.length = N.n) ∧ R (encS (wants N s)) S
def body_wanted_by (γ_many_cells γ_is_less γ_heard_by : OL) : ST := sRet (eCall cTuple (aCons (eLc (iRange1 (aCons (eCall γ_many_cells (aCons (eVar 0) (aNil))) (aNil))) (gNm 2) (tYes') (eIf (tBl (eCall γ_is_less (aCons (eBin oIx (eBin oIx (eVar 0) (eC (.int 1))) (eVar 2)) (aCons (eCall γ_heard_by (aCons (eVar 0) (aCons (eVar 2) (aCons (eVar 1) (aNil))))) (aNil))))) (eC (.int 1)) (eC (.int 0))) [2]) (aNil)))
theorem law_wanted_by : Law 3 γ_wanted_by (body_wanted_by γ_many_cells γ_is_less γ_heard_by) := by
  intro ds S R ⟨N, s, e, ⟨ok, sm, hs⟩, h⟩
  subst e
  have q := fin_of h
  have h8 := ok.few
  unfold body_wanted_by γ_many_cells γ_is_less γ_heard_by
  simp_arith []
  refine ⟨N, rfl, ⟨by omega, by omega⟩, ?_⟩
  rw [Int.toNat_natCast]
  refine rng_map (fun i => encB (decide (mk' N i < hear N i s))) _ (fun i hi Q hq => ?_) trivial (sz1000 (by omega)) ?_
  · have g := ix_mark hi
    simp_arith! [wipeD, g]
    refine ⟨N, i, s, rfl, ⟨ok, sm, hi, hs⟩, _, _, rfl, ⟨mk_big sm hi, hear_big ok sm hi s⟩, ?_⟩
    unfold encB bit at hq
    split
    · rename_i z; rw [z] at hq; exact hq
    · rename_i z
      have z : decide (mk' N i < hear N i s) = false := by simpa using z
      rw [z] at hq; exact hq
  · unfold encS wants at q
    rw [List.map_map] at q
    exact q
end Gx

/-! Gx, data side 7: movers, moves, rests. -/
namespace Gx
open PySem L2
local macro_rules | `(tactic| simp_arith [$xs,*]) => `(tactic| try simp only [eVar, eC, eBin, eUn, tBl, tAnd', tOr', tNot', eAnd, eOr, eNot, eIf, aNil, aCons, eTup, eLst, eLstM, eCall, eCallK, pick, sNext, sSeq, sBreak, sCont, sDrop, sRet, sRetN, sIf, sNever, gNm, gsNil, gsCons, gTupl, gSubs, sAsg, sPar, sPar3, sFor, iSeq, seqG_tup, seqG_lst, seqG_scr, iRange1, iRange2, iEnumG, iZipG, td_tup, td_lst, td_scr, eLc, eLcM, tYes', pNone, pSome, eSl, cu_tup, cu_lst, cu_scr, eMt, eMt0, mAppend, isL, rs_non, rs_bl, rs_int, rs_str, rs_tup, rs_lst', rs_scr, itemsOf_tup, itemsOf_lst, itemsOf_scr, oI, oI0, oSub, oFdiv, oMod, oPow, oShl, oShr, oAnd, oOr, oXor, oLt, oLe, oGt, oGe, oNeg, oIsN, oNotN, Gx.isNon, oAdd, oAdd', oMul, oMul', oMulM, oEq, oNe, oEqS, oNeS, oIn, oNin, eChain, oIx, oSet, cLen, cList, cListM, cTuple, cSum, cAll, cAny, cInt, cAbs, cMax2, cMin2, cDivmod, cGcd, cIsi, cRepr, lstInts, lstBls, startD, wipeD, List.map_cons, List.map_nil, List.length_cons, List.length_nil, List.cons_append, List.nil_append, List.replicate_succ, List.replicate_zero, List.set_cons_succ, List.set_cons_zero, List.getElem?_cons_succ, List.getElem?_cons_zero, List.filterMap_cons_some, List.filterMap_nil, Nat.reduceAdd, Nat.reduceSub, Nat.sub_self, Nat.reduceLT, Nat.reduceMul, Nat.zero_add, Nat.add_zero, if_true, if_false, and_true, true_and, and_false, false_and, or_true, true_or, or_false, false_or, not_true_eq_false, not_false_eq_true, Bool.not_true, Bool.not_false, Bool.false_eq_true, ite_true, ite_false, reduceIte, reduceCtorEq, eq_self, $xs,*])
local macro_rules | `(tactic| simp_arith! [$xs,*]) => `(tactic| try simp only [eVar, eC, eBin, eUn, tBl, tAnd', tOr', tNot', eAnd, eOr, eNot, eIf, aNil, aCons, eTup, eLst, eLstM, eCall, eCallK, pick, sNext, sSeq, sBreak, sCont, sDrop, sRet, sRetN, sIf, sNever, gNm, gsNil, gsCons, gTupl, gSubs, sAsg, sPar, sPar3, sFor, iSeq, seqG_tup, seqG_lst, seqG_scr, iRange1, iRange2, iEnumG, iZipG, td_tup, td_lst, td_scr, eLc, eLcM, tYes', pNone, pSome, eSl, cu_tup, cu_lst, cu_scr, eMt, eMt0, mAppend, isL, rs_non, rs_bl, rs_int, rs_str, rs_tup, rs_lst', rs_scr, itemsOf_tup, itemsOf_lst, itemsOf_scr, oI, oI0, oSub, oFdiv, oMod, oPow, oShl, oShr, oAnd, oOr, oXor, oLt, oLe, oGt, oGe, oNeg, oIsN, oNotN, Gx.isNon, oAdd, oAdd', oMul, oMul', oMulM, oEq, oNe, oEqS, oNeS, oIn, oNin, eChain, oIx, oSet, cLen, cList, cListM, cTuple, cSum, cAll, cAny, cInt, cAbs, cMax2, cMin2, cDivmod, cGcd, cIsi, cRepr, lstInts, lstBls, startD, wipeD, List.map_cons, List.map_nil, List.length_cons, List.length_nil, List.cons_append, List.nil_append, List.replicate_succ, List.replicate_zero, List.set_cons_succ, List.set_cons_zero, List.getElem?_cons_succ, List.getElem?_cons_zero, List.filterMap_cons_some, List.filterMap_nil, Nat.reduceAdd, Nat.reduceSub, Nat.sub_self, Nat.reduceLT, Nat.reduceMul, Nat.zero_add, Nat.add_zero, if_true, if_false, and_true, true_and, and_false, false_and, or_true, true_or, or_false, false_or, not_true_eq_false, not_false_eq_true, Bool.not_true, Bool.not_false, Bool.false_eq_true, ite_true, ite_false, reduceIte, reduceCtorEq, eq_self, rs_N, rs_W, rs_Row, rs_S, rs_R, rs_B, it_N, it_W, it_Row, it_S, it_R, sq_W, sq_Row, sq_S, td_N, td_W, td_Row, td_S, rs_I, it_I, sq_I, td_I, rs_Ss, it_Ss, sq_Ss, td_Ss, cu_S, cu_W, cu_Row, atI_0, atI_1, $xs,*])

/-! ### slices -/
theorem cutD_to {ds : List D} {i : Nat} (h : i ≤ ds.length) : cutD ds none (some (i : Int)) = ds.take i := by
  unfold cutD
  rw [HT.sIx_none, HT.sIx_nat, List.drop_zero, Nat.min_eq_left h, Nat.sub_zero]
theorem cutD_from {ds : List D} {i : Nat} (h : i ≤ ds.length) : cutD ds (some (i : Int)) none = ds.drop i := by
  unfold cutD
  rw [HT.sIx_none, HT.sIx_nat, Nat.min_eq_left h]
  exact List.take_of_length_le (by rw [List.length_drop]; omega)
/-! ### movers -/
def movers (N : Net) (s : List Bool) : List Nat := (List.range N.n).filter fun i => (wants N s).getD i false != s.getD i false
theorem cl_encI (ns : List Nat) : cl (encI ns) = true := cl_map (fun _ => rfl) ns
theorem encI_inj (a b : List Nat) : encI a = encI b ↔ a = b := by
  unfold encI
  rw [D.tup.injEq]
  exact map_inj (fun x y => by rw [D.int.injEq]; omega) a b
theorem pl_encI (s : List Nat) : pl 1 (encI s) = true := pl_of_tup fun x hx => by
  obtain ⟨q, _, rfl⟩ := List.mem_map.mp hx
  rfl
theorem getD_eq {α : Type} {xs : List α} {i : Nat} {d : α} (h : i < xs.length) : xs.getD i d = xs[i] := by
  rw [List.getD_eq_getElem?_getD, List.getElem?_eq_getElem h]; rfl
/-! ### moves -/
/-! ### rests -/
def rest (N : Net) (s : List Bool) : Bool := decide (wants N s = s)
theorem pl_encS' (s : List Bool) : pl 60 (encS s) = true := pl_mono (pl_encS s) (by decide)
def rests (N : Net) : List (List Bool) := (allS N.n).filter (rest N)
theorem allS_mem {n : Nat} {s : List Bool} (h : s ∈ allS n) : s.length = n := by
  obtain ⟨k, _, rfl⟩ := List.mem_map.mp h
  exact stateOf_length n k
theorem allS_length (n : Nat) : (allS n).length = 2 ^ n := by unfold allS; simp
/-! ### what is asked of arguments -/
def γ_check_net : OL := fun ds S R => ∃ (N : Net), ds = [encN N] ∧ N.Ok ∧ R .non S
def body_check_net (γ_is_net_by : OL) : ST := sIf (tNot' (tBl (eCall γ_is_net_by (aCons (eVar 0) (aNil))))) (sNever) (sNext)
theorem pl_encN' (N : Net) : pl 60 (encN N) = true := pl_mono (pl_encN N) (by decide)
theorem law_check_net : Law 1 γ_check_net (body_check_net γ_is_net_by) := by
  intro ds S R ⟨N, e, ok, h⟩
  subst e
  have q := fin_of h
  unfold body_check_net γ_is_net_by
  simp_arith [isNet_enc ok, pl_encN']
  exact q
def γ_check_state : OL := fun ds S R => ∃ (N : Net) (s : List Bool), ds = [encN N, encS s] ∧ (N.n ≤ 8 ∧ s.length = N.n) ∧ R .non S
def body_check_state (γ_is_state_by : OL) : ST := sIf (tNot' (tBl (eCall γ_is_state_by (aCons (eVar 0) (aCons (eVar 1) (aNil)))))) (sNever) (sNext)
theorem law_check_state : Law 2 γ_check_state (body_check_state γ_is_state_by) := by
  intro ds S R ⟨N, s, e, ⟨h8, hs⟩, h⟩
  subst e
  have q := fin_of h
  unfold body_check_state γ_is_state_by
  simp_arith []
  refine ⟨N, _, rfl, ⟨h8, pl_encS' s⟩, ?_⟩
  simp_arith [isSt_enc hs]
  exact q
def γ_check_both : OL := fun ds S R => ∃ (N : Net) (s : List Bool), ds = [encN N, encS s] ∧ (N.Ok ∧ s.length = N.n) ∧ R .non S
def body_check_both (γ_check_net γ_check_state : OL) : ST := sSeq (sDrop (eCall γ_check_net (aCons (eVar 0) (aNil))))
  (sDrop (eCall γ_check_state (aCons (eVar 0) (aCons (eVar 1) (aNil)))))
theorem law_check_both : Law 2 γ_check_both (body_check_both γ_check_net γ_check_state) := by
  intro ds S R ⟨N, s, e, ⟨ok, hs⟩, h⟩
  subst e
  have q := fin_of h
  unfold body_check_both γ_check_net γ_check_state
  simp_arith []
  exact ⟨N, rfl, ok, N, s, rfl, ⟨ok.few, hs⟩, q⟩
/-! ### the functions -/
def body_wanted (γ_check_both γ_wanted_by : OL) : ST := sSeq (sDrop (eCall γ_check_both (aCons (eVar 0) (aCons (eVar 1) (aNil)))))
  (sRet (eCall γ_wanted_by (aCons (eVar 0) (aCons (eVar 1) (aNil)))))
theorem law_wanted : Law 2 γ_wanted_by (body_wanted γ_check_both γ_wanted_by) := by
  intro ds S R ⟨N, s, e, ns, h⟩
  subst e
  have q := fin_of h
  unfold body_wanted γ_check_both γ_wanted_by
  simp_arith []
  exact ⟨N, s, rfl, ⟨ns.1, ns.2.2⟩, N, s, rfl, ns, q⟩
theorem inD_map {α : Type} [DecidableEq α] {f : α → D} (h : ∀ x y, eqD (f x) (f y) = decide (x = y)) (x : α) (xs : List α) : inD (f x) (xs.map f) = decide (x ∈ xs) := by
  unfold inD
  rw [List.any_map]
  have : ((fun e => eqD e (f x)) ∘ f) = fun y => decide (y = x) := by funext y; exact h y x
  rw [this, Bool.eq_iff_iff, List.any_eq_true, decide_eq_true_eq]
  constructor
  · rintro ⟨y, hy, e⟩
    rw [decide_eq_true_eq] at e
    subst e; exact hy
  · exact fun hx => ⟨x, hx, decide_eq_true rfl⟩
theorem eqS_iff (a b : List Bool) : eqD (encS a) (encS b) = true ↔ a = b := (eqD_cl _ _ (cl_encS a) (cl_encS b)).trans (encS_inj a b)
theorem eqD_nat (a b : Nat) : eqD (.int a) (.int b) = decide (a = b) := eqD_dec (f := fun i : Nat => D.int (i : Int)) (fun x y => by rw [D.int.injEq]; omega) (fun _ => rfl) a b
end Gx

/-! Gx, data side 8: drawn nets. -/
namespace Gx
open PySem L2
local macro_rules | `(tactic| simp_arith [$xs,*]) => `(tactic| try simp only [eVar, eC, eBin, eUn, tBl, tAnd', tOr', tNot', eAnd, eOr, eNot, eIf, aNil, aCons, eTup, eLst, eLstM, eCall, eCallK, pick, sNext, sSeq, sBreak, sCont, sDrop, sRet, sRetN, sIf, sNever, gNm, gsNil, gsCons, gTupl, gSubs, sAsg, sPar, sPar3, sFor, iSeq, seqG_tup, seqG_lst, seqG_scr, iRange1, iRange2, iEnumG, iZipG, td_tup, td_lst, td_scr, eLc, eLcM, tYes', pNone, pSome, eSl, cu_tup, cu_lst, cu_scr, eMt, eMt0, mAppend, isL, rs_non, rs_bl, rs_int, rs_str, rs_tup, rs_lst', rs_scr, itemsOf_tup, itemsOf_lst, itemsOf_scr, oI, oI0, oSub, oFdiv, oMod, oPow, oShl, oShr, oAnd, oOr, oXor, oLt, oLe, oGt, oGe, oNeg, oIsN, oNotN, Gx.isNon, oAdd, oAdd', oMul, oMul', oMulM, oEq, oNe, oEqS, oNeS, oIn, oNin, eChain, oIx, oSet, cLen, cList, cListM, cTuple, cSum, cAll, cAny, cInt, cAbs, cMax2, cMin2, cDivmod, cGcd, cIsi, cRepr, lstInts, lstBls, startD, wipeD, List.map_cons, List.map_nil, List.length_cons, List.length_nil, List.cons_append, List.nil_append, List.replicate_succ, List.replicate_zero, List.set_cons_succ, List.set_cons_zero, List.getElem?_cons_succ, List.getElem?_cons_zero, List.filterMap_cons_some, List.filterMap_nil, Nat.reduceAdd, Nat.reduceSub, Nat.sub_self, Nat.reduceLT, Nat.reduceMul, Nat.zero_add, Nat.add_zero, if_true, if_false, and_true, true_and, and_false, false_and, or_true, true_or, or_false, false_or, not_true_eq_false, not_false_eq_true, Bool.not_true, Bool.not_false, Bool.false_eq_true, ite_true, ite_false, reduceIte, reduceCtorEq, eq_self, $xs,*])

/-! ### the store while a def draws -/
/-- what was there is there yet, the well at p drawn from -/
structure Ext (p : Addr) (S0 S : Sto) : Prop where
  of : ∀ b o, b ≠ p → S0 b = some o → S b = some o
  well : Well p S
/-- a list of the def's own -/
def Own (p : Addr) (S0 : Sto) (q : Addr) : Prop := S0 q = none ∧ q ≠ p
section
variable {p q : Addr} {S0 S S' : Sto} {o : SO}
theorem Ext.refl (h : Well p S) : Ext p S S := ⟨fun _ _ _ h => h, h⟩
theorem Ext.drw (e : Ext p S0 S) (d : Drw p S S') : Ext p S0 S' := ⟨fun b o h1 h2 => by rw [d.but b h1]; exact e.of b o h1 h2, d.well⟩
theorem Well.up {S : Sto} (h : Well p S) (hq : q ≠ p) : Well p (up S q o) := by
  obtain ⟨a, m, c, e⟩ := h
  exact ⟨a, m, c, by rw [up_ne (Ne.symm hq)]; exact e⟩
theorem Ext.set (e : Ext p S0 S) (h : Own p S0 q) : Ext p S0 (up S q o) := ⟨fun b o' h1 h2 => by
  have : b ≠ q := fun z => by rw [z, h.1] at h2; cases h2
  rw [up_ne this]; exact e.of b o' h1 h2, e.well.up h.2⟩
theorem Well.ne {S : Sto} (h : Well p S) (hq : S q = none) : q ≠ p := fun z => by
  obtain ⟨a, m, c, e⟩ := h
  rw [z, e] at hq; cases hq
theorem Ext.own (e : Ext p S0 S) (h : S q = none) : Own p S0 q := by
  have hp := e.well.ne h
  refine ⟨?_, hp⟩
  cases z : S0 q with
  | none => rfl
  | some o => rw [e.of q o hp z] at h; cases h
theorem Ext.new (e : Ext p S0 S) (h : S q = none) : Ext p S0 (up S q o) := e.set (e.own h)
theorem Ext.fin {R : QD} {d : D} (e : Ext p S0 S) (h : ∀ S', Drw p S0 S' → R d S') : Fin R d S := by
  refine ⟨fun b => if b = p then S p else S0 b, d, fun b o hb => ?_, .same d, h _ ⟨fun b hb => if_neg hb, ?_⟩⟩
  · by_cases z : b = p
    · subst z
      simpa using hb
    · simp only [if_neg z] at hb
      exact e.of b o z hb
  · obtain ⟨a, m, c, h⟩ := e.well
    exact ⟨a, m, c, by simpa using h⟩
theorem Drw.at (d : Drw p S S') (h : q ≠ p) : S' q = S q := d.but q h
end
/-- one statement at a time -/
theorem seqK {a b : ST} {G : EndG} {τ : Tau} {S : Sto} (h : ∀ k, k = b G → a { G with nx := k } τ S) : sSeq a b G τ S := h _ rfl
/-! ### tuples of constants -/
abbrev Kc (e : ET) (d : D) : Prop := ∀ (τ : Tau) (S : Sto) (Q : QD), Q d S → e τ S Q
abbrev KcA (u : AT) (ds : List D) : Prop := ∀ (τ : Tau) (S : Sto) (Q : List D → Sto → Prop), Q ds S → u τ S Q
theorem kc_c (d : D) : Kc (eC d) d := fun _ _ _ h => h
theorem kc_neg (i : Int) : Kc (eUn oNeg (eC (.int i))) (.int (-i)) := fun τ S Q h => by
  simp_arith []
  exact h
theorem kca_nil : KcA aNil [] := fun _ _ _ h => h
theorem kca_cons {e : ET} {u : AT} {d : D} {ds : List D} (h1 : Kc e d) (h2 : KcA u ds) : KcA (aCons e u) (d :: ds) := fun τ S Q h => h1 _ _ _ (h2 _ _ _ h)
theorem kc_tup {u : AT} {ds : List D} (h : KcA u ds) (hl : ds.length ≤ sizeLine := by decide) : Kc (eTup u) (.tup ds) := fun τ S Q q => h _ _ _ ⟨hl, q⟩
/-! ### drawn fractions -/
def bdD (A b : Nat) : D → Bool
  | .tup [.int n, .int m] => isFr (.tup [.int n, .int m]) && decide (n.natAbs ≤ A * m.natAbs) && decide (m.natAbs < 2 ^ b)
  | _ => false
theorem bdD_of {A b : Nat} {d : D} (h : bdD A b d = true) : ∃ q, d = encR q ∧ Bd A b q := by
  unfold bdD at h
  split at h
  · rename_i n m
    simp only [Bool.and_eq_true, decide_eq_true_eq] at h
    obtain ⟨⟨h1, h2⟩, h3⟩ := h
    obtain ⟨q, e⟩ := isFr_of h1
    refine ⟨q, e, ?_⟩
    simp only [encR, D.tup.injEq, List.cons.injEq, D.int.injEq, and_true] at e
    rw [e.1, e.2, Int.natAbs_natCast] at h2
    rw [e.2, Int.natAbs_natCast] at h3
    exact ⟨h2, h3⟩
  · cases h
def half : Rat := ⟨1, 2, by decide, by decide⟩
/-- a drawn fraction -/
def γ_frac (P : Rat → Prop) : OL := fun ds S R => ∃ p : Addr, ds = [.ref p] ∧ Well p S ∧ ∀ q S', P q → Drw p S S' → R (encR q) S'
/-! ### drawn nets -/
/-- the weights of one size, the marks of another one -/
structure Drn (P M : Rat → Prop) (N : Net) : Prop where
  w : ∀ r ∈ N.ws, ∀ q ∈ r, P q
  m : ∀ q ∈ N.ms, M q
def γ_net (P M : Rat → Prop) : OL := fun ds S R => ∃ (p : Addr) (n : Nat), ds = [.ref p, .int n] ∧ Well p S ∧ (1 ≤ n ∧ n ≤ 8) ∧ ∀ N S', N.Ok → N.n = n → Drn P M N → Drw p S S' → R (encN N) S'
/-- the rows that stand so far -/
structure NetAt (P M : Rat → Prop) (p p3 p4 : Addr) (n i : Nat) (S0 S : Sto) (ws : List (List Rat)) (ms : List Rat) : Prop where
  ext : Ext p S0 S
  rows : S p3 = some (.lst (ws.map encRow))
  marks : S p4 = some (.lst (ms.map encR))
  lw : ws.length = i
  lm : ms.length = i
  lr : ∀ r ∈ ws, r.length = n
  hp : ∀ r ∈ ws, ∀ q ∈ r, P q
  hm : ∀ q ∈ ms, M q
  dia : ∀ j, j < i → (ws.getD j []).getD j 0 = 0
theorem getD_snoc {α : Type} {xs : List α} {x d : α} {i j : Nat} (hl : xs.length = i) (hj : j < i + 1) : (xs ++ [x]).getD j d = if j < i then xs.getD j d else x := by
  rw [List.getD_eq_getElem?_getD, List.getD_eq_getElem?_getD]
  split
  · rw [List.getElem?_append_left (by omega)]
  · have : j = i := by omega
    subst this
    rw [List.getElem?_append_right (by omega), hl, Nat.sub_self]; rfl
end Gx

/-! Gx, data side 9: nets with scales. -/
namespace Gx
open PySem L2
local macro_rules | `(tactic| simp_arith [$xs,*]) => `(tactic| try simp only [eVar, eC, eBin, eUn, tBl, tAnd', tOr', tNot', eAnd, eOr, eNot, eIf, aNil, aCons, eTup, eLst, eLstM, eCall, eCallK, pick, sNext, sSeq, sBreak, sCont, sDrop, sRet, sRetN, sIf, sNever, gNm, gsNil, gsCons, gTupl, gSubs, sAsg, sPar, sPar3, sFor, iSeq, seqG_tup, seqG_lst, seqG_scr, iRange1, iRange2, iEnumG, iZipG, td_tup, td_lst, td_scr, eLc, eLcM, tYes', pNone, pSome, eSl, cu_tup, cu_lst, cu_scr, eMt, eMt0, mAppend, isL, rs_non, rs_bl, rs_int, rs_str, rs_tup, rs_lst', rs_scr, itemsOf_tup, itemsOf_lst, itemsOf_scr, oI, oI0, oSub, oFdiv, oMod, oPow, oShl, oShr, oAnd, oOr, oXor, oLt, oLe, oGt, oGe, oNeg, oIsN, oNotN, Gx.isNon, oAdd, oAdd', oMul, oMul', oMulM, oEq, oNe, oEqS, oNeS, oIn, oNin, eChain, oIx, oSet, cLen, cList, cListM, cTuple, cSum, cAll, cAny, cInt, cAbs, cMax2, cMin2, cDivmod, cGcd, cIsi, cRepr, lstInts, lstBls, startD, wipeD, List.map_cons, List.map_nil, List.length_cons, List.length_nil, List.cons_append, List.nil_append, List.replicate_succ, List.replicate_zero, List.set_cons_succ, List.set_cons_zero, List.getElem?_cons_succ, List.getElem?_cons_zero, List.filterMap_cons_some, List.filterMap_nil, Nat.reduceAdd, Nat.reduceSub, Nat.sub_self, Nat.reduceLT, Nat.reduceMul, Nat.zero_add, Nat.add_zero, if_true, if_false, and_true, true_and, and_false, false_and, or_true, true_or, or_false, false_or, not_true_eq_false, not_false_eq_true, Bool.not_true, Bool.not_false, Bool.false_eq_true, ite_true, ite_false, reduceIte, reduceCtorEq, eq_self, $xs,*])
local macro_rules | `(tactic| simp_arith! [$xs,*]) => `(tactic| try simp only [eVar, eC, eBin, eUn, tBl, tAnd', tOr', tNot', eAnd, eOr, eNot, eIf, aNil, aCons, eTup, eLst, eLstM, eCall, eCallK, pick, sNext, sSeq, sBreak, sCont, sDrop, sRet, sRetN, sIf, sNever, gNm, gsNil, gsCons, gTupl, gSubs, sAsg, sPar, sPar3, sFor, iSeq, seqG_tup, seqG_lst, seqG_scr, iRange1, iRange2, iEnumG, iZipG, td_tup, td_lst, td_scr, eLc, eLcM, tYes', pNone, pSome, eSl, cu_tup, cu_lst, cu_scr, eMt, eMt0, mAppend, isL, rs_non, rs_bl, rs_int, rs_str, rs_tup, rs_lst', rs_scr, itemsOf_tup, itemsOf_lst, itemsOf_scr, oI, oI0, oSub, oFdiv, oMod, oPow, oShl, oShr, oAnd, oOr, oXor, oLt, oLe, oGt, oGe, oNeg, oIsN, oNotN, Gx.isNon, oAdd, oAdd', oMul, oMul', oMulM, oEq, oNe, oEqS, oNeS, oIn, oNin, eChain, oIx, oSet, cLen, cList, cListM, cTuple, cSum, cAll, cAny, cInt, cAbs, cMax2, cMin2, cDivmod, cGcd, cIsi, cRepr, lstInts, lstBls, startD, wipeD, List.map_cons, List.map_nil, List.length_cons, List.length_nil, List.cons_append, List.nil_append, List.replicate_succ, List.replicate_zero, List.set_cons_succ, List.set_cons_zero, List.getElem?_cons_succ, List.getElem?_cons_zero, List.filterMap_cons_some, List.filterMap_nil, Nat.reduceAdd, Nat.reduceSub, Nat.sub_self, Nat.reduceLT, Nat.reduceMul, Nat.zero_add, Nat.add_zero, if_true, if_false, and_true, true_and, and_false, false_and, or_true, true_or, or_false, false_or, not_true_eq_false, not_false_eq_true, Bool.not_true, Bool.not_false, Bool.false_eq_true, ite_true, ite_false, reduceIte, reduceCtorEq, eq_self, rs_N, rs_W, rs_Row, rs_S, rs_R, rs_B, it_N, it_W, it_Row, it_S, it_R, sq_W, sq_Row, sq_S, td_N, td_W, td_Row, td_S, rs_I, it_I, sq_I, td_I, rs_Ss, it_Ss, sq_Ss, td_Ss, cu_S, cu_W, cu_Row, atI_0, atI_1, $xs,*])

/-! ### rows that change -/
structure RowsAt (p : Addr) (S0 : Sto) (qs : List Addr) (S : Sto) (ws : List (List Rat)) : Prop where
  len : qs.length = ws.length
  nd : qs.Nodup
  row : ∀ i, i < qs.length → S (qs.getD i 0) = some (.lst ((ws.getD i []).map encR))
  own : ∀ q ∈ qs, Own p S0 q
theorem getD_mem {α : Type} {xs : List α} {i : Nat} {d : α} (h : i < xs.length) : xs.getD i d ∈ xs := by
  rw [getD_eq h]
  exact List.getElem_mem h
theorem nodup_ne {qs : List Addr} (h : qs.Nodup) {i j : Nat} (hi : i < qs.length) (hj : j < qs.length) (n : i ≠ j) : qs.getD i 0 ≠ qs.getD j 0 := by
  rw [getD_eq hi, getD_eq hj]
  intro e
  exact n ((List.getElem_inj h).mp e)
theorem getD_set {α : Type} {xs : List α} {i j : Nat} {x d : α} (h : i < xs.length) : (xs.set i x).getD j d = if i = j then x else xs.getD j d := by
  rw [List.getD_eq_getElem?_getD, List.getD_eq_getElem?_getD, List.getElem?_set]
  by_cases z : i = j
  · subst z
    rw [if_pos rfl, if_pos h, if_pos rfl]; rfl
  · rw [if_neg z, if_neg z]
theorem RowsAt.same {p : Addr} {S0 S S' : Sto} {qs : List Addr} {ws : List (List Rat)} (a : RowsAt p S0 qs S ws) (h : ∀ q ∈ qs, S' q = S q) : RowsAt p S0 qs S' ws :=
  ⟨a.len, a.nd, fun i hi => by rw [h _ (getD_mem hi)]; exact a.row i hi, a.own⟩
theorem RowsAt.set {p : Addr} {S0 S : Sto} {qs : List Addr} {ws : List (List Rat)} (a : RowsAt p S0 qs S ws) {i : Nat} (hi : i < qs.length) (r : List Rat) :
    RowsAt p S0 qs (up S (qs.getD i 0) (.lst (r.map encR))) (ws.set i r) :=
  ⟨by rw [List.length_set]; exact a.len, a.nd, fun j hj => by
    rw [getD_set (by rw [← a.len]; exact hi)]
    by_cases z : i = j
    · subst z
      rw [if_pos rfl, up_same]
    · rw [if_neg z, up_ne (Ne.symm (nodup_ne a.nd hi hj z))]
      exact a.row j hj, a.own⟩
theorem RowsAt.zip {p : Addr} {S0 S : Sto} {qs : List Addr} {ws : List (List Rat)} (a : RowsAt p S0 qs S ws) {z : Addr × List Rat} (hz : z ∈ List.zip qs ws) : S z.1 = some (.lst (z.2.map encR)) := by
  obtain ⟨i, hi, e⟩ := List.getElem_of_mem hz
  have h := hi
  rw [List.length_zip] at h
  rw [List.getElem_zip] at e
  have := a.row i (by omega)
  rw [getD_eq (by omega), getD_eq (by omega)] at this
  rw [← e]
  exact this
def refs (qs : List Addr) : List D := qs.map .ref
/-! ### scales -/
/-- a scale: above 0, of few figures -/
structure Scl (q : Rat) : Prop where
  pos : 0 < q
  bd : Bd 3 2 q
  inv : Bd 2 2 q⁻¹
def sclD : D → Bool
  | .tup [.int n, .int m] => bdD 3 2 (.tup [.int n, .int m]) && (decide (0 < n) && decide (n < 4)) && decide (m ≤ 2 * n)
  | _ => false
theorem sclD_of {d : D} (h : sclD d = true) : ∃ q, d = encR q ∧ Scl q := by
  unfold sclD at h
  split at h
  · rename_i n m
    simp only [Bool.and_eq_true, decide_eq_true_eq] at h
    obtain ⟨⟨h1, h2, h6⟩, h3⟩ := h
    obtain ⟨q, e, hb⟩ := bdD_of h1
    refine ⟨q, e, ?_, hb, ?_⟩
    all_goals simp only [encR, D.tup.injEq, List.cons.injEq, D.int.injEq, and_true] at e
    · rw [Rat.lt_iff, ← e.1]
      show (0 : Int) * _ < n * ((1 : Nat) : Int)
      omega
    · have hp : 0 < q.num := by rw [← e.1]; exact h2
      have hn : q.num ≠ 0 := by omega
      unfold Bd
      rw [Rat.num_inv, Rat.den_inv, if_neg hn, Int.sign_eq_one_of_pos hp, Int.one_mul, Int.natAbs_natCast]
      have h4 := hb.1
      have h5 := hb.2
      rw [e.1, e.2] at h3
      rw [e.1] at h6
      refine ⟨by omega, ?_⟩
      omega
  · cases h
/-- the weights below the diagonal so that scales are kept -/
def scW (N : Net) (sc : List Rat) (i j : Nat) : Rat := sc.getD j 0 * wt N j i / sc.getD i 0
/-- how far the rows are led on -/
structure Led (N : Net) (sc : List Rat) (a t : Nat) (ws : List (List Rat)) : Prop where
  lw : ws.length = N.n
  lr : ∀ r ∈ ws, r.length = N.n
  val : ∀ i j, i < N.n → j < N.n → (ws.getD i []).getD j 0 = if (i < a ∧ j < i) ∨ (i = a ∧ j < t) then scW N sc i j else wt N i j
theorem Led.row {N : Net} {sc : List Rat} {a t : Nat} {ws : List (List Rat)} (l : Led N sc a t ws) {i : Nat} (hi : i < N.n) : (ws.getD i []).length = N.n := l.lr _ (getD_mem (by rw [l.lw]; exact hi))
theorem Led.next {N : Net} {sc : List Rat} {a : Nat} {ws : List (List Rat)} (l : Led N sc a a ws) : Led N sc (a + 1) 0 ws :=
  ⟨l.lw, l.lr, fun i j hi hj => by
    rw [l.val i j hi hj]
    by_cases z : (i < a ∧ j < i) ∨ (i = a ∧ j < a)
    · rw [if_pos z, if_pos (by omega)]
    · rw [if_neg z, if_neg (by omega)]⟩
theorem Led.put {N : Net} {sc : List Rat} {a t : Nat} {ws : List (List Rat)} (l : Led N sc a t ws) (ha : a < N.n) (ht : t < a) : Led N sc a (t + 1) (ws.set a ((ws.getD a []).set t (scW N sc a t))) := by
  have hl := l.row ha
  refine ⟨by rw [List.length_set]; exact l.lw, fun r hr => ?_, fun i j hi hj => ?_⟩
  · rcases List.mem_or_eq_of_mem_set hr with hr | rfl
    · exact l.lr r hr
    · rw [List.length_set]; exact hl
  · rw [getD_set (by rw [l.lw]; exact ha)]
    by_cases z : a = i
    · subst z
      rw [if_pos rfl, getD_set (by omega)]
      by_cases y : t = j
      · subst y
        rw [if_pos rfl, if_pos (by omega)]
      · rw [if_neg y, l.val a j hi hj]
        by_cases x : (a < a ∧ j < a) ∨ (a = a ∧ j < t)
        · rw [if_pos x, if_pos (by omega)]
        · rw [if_neg x, if_neg (by omega)]
    · rw [if_neg z, l.val i j hi hj]
      by_cases x : (i < a ∧ j < i) ∨ (i = a ∧ j < t)
      · rw [if_pos x, if_pos (by omega)]
      · rw [if_neg x, if_neg (by omega)]
theorem lp_bd {q : Rat} {A b : Nat} (h : Bd A b q) (hA : A < 2 ^ 100 := by decide) (h2 : b ≤ 200 := by decide) : Big q := h.big (a := 100) hA (by omega) (by omega)
theorem Scl.ne {q : Rat} (h : Scl q) : q ≠ 0 := fun z => by have := h.pos; rw [z] at this; exact absurd this (by decide)
/-! ### one weight otherwise -/
section
variable {N : Net} {a t : Nat} {q : Rat}
end
end Gx

/-! Gx, data side 10: what the laws reckon of nets. -/
namespace Gx
open PySem L2
local macro_rules | `(tactic| simp_arith [$xs,*]) => `(tactic| try simp only [eVar, eC, eBin, eUn, tBl, tAnd', tOr', tNot', eAnd, eOr, eNot, eIf, aNil, aCons, eTup, eLst, eLstM, eCall, eCallK, pick, sNext, sSeq, sBreak, sCont, sDrop, sRet, sRetN, sIf, sNever, gNm, gsNil, gsCons, gTupl, gSubs, sAsg, sPar, sPar3, sFor, iSeq, seqG_tup, seqG_lst, seqG_scr, iRange1, iRange2, iEnumG, iZipG, td_tup, td_lst, td_scr, eLc, eLcM, tYes', pNone, pSome, eSl, cu_tup, cu_lst, cu_scr, eMt, eMt0, mAppend, isL, rs_non, rs_bl, rs_int, rs_str, rs_tup, rs_lst', rs_scr, itemsOf_tup, itemsOf_lst, itemsOf_scr, oI, oI0, oSub, oFdiv, oMod, oPow, oShl, oShr, oAnd, oOr, oXor, oLt, oLe, oGt, oGe, oNeg, oIsN, oNotN, Gx.isNon, oAdd, oAdd', oMul, oMul', oMulM, oEq, oNe, oEqS, oNeS, oIn, oNin, eChain, oIx, oSet, cLen, cList, cListM, cTuple, cSum, cAll, cAny, cInt, cAbs, cMax2, cMin2, cDivmod, cGcd, cIsi, cRepr, lstInts, lstBls, startD, wipeD, List.map_cons, List.map_nil, List.length_cons, List.length_nil, List.cons_append, List.nil_append, List.replicate_succ, List.replicate_zero, List.set_cons_succ, List.set_cons_zero, List.getElem?_cons_succ, List.getElem?_cons_zero, List.filterMap_cons_some, List.filterMap_nil, Nat.reduceAdd, Nat.reduceSub, Nat.sub_self, Nat.reduceLT, Nat.reduceMul, Nat.zero_add, Nat.add_zero, if_true, if_false, and_true, true_and, and_false, false_and, or_true, true_or, or_false, false_or, not_true_eq_false, not_false_eq_true, Bool.not_true, Bool.not_false, Bool.false_eq_true, ite_true, ite_false, reduceIte, reduceCtorEq, eq_self, $xs,*])
local macro_rules | `(tactic| simp_arith! [$xs,*]) => `(tactic| try simp only [eVar, eC, eBin, eUn, tBl, tAnd', tOr', tNot', eAnd, eOr, eNot, eIf, aNil, aCons, eTup, eLst, eLstM, eCall, eCallK, pick, sNext, sSeq, sBreak, sCont, sDrop, sRet, sRetN, sIf, sNever, gNm, gsNil, gsCons, gTupl, gSubs, sAsg, sPar, sPar3, sFor, iSeq, seqG_tup, seqG_lst, seqG_scr, iRange1, iRange2, iEnumG, iZipG, td_tup, td_lst, td_scr, eLc, eLcM, tYes', pNone, pSome, eSl, cu_tup, cu_lst, cu_scr, eMt, eMt0, mAppend, isL, rs_non, rs_bl, rs_int, rs_str, rs_tup, rs_lst', rs_scr, itemsOf_tup, itemsOf_lst, itemsOf_scr, oI, oI0, oSub, oFdiv, oMod, oPow, oShl, oShr, oAnd, oOr, oXor, oLt, oLe, oGt, oGe, oNeg, oIsN, oNotN, Gx.isNon, oAdd, oAdd', oMul, oMul', oMulM, oEq, oNe, oEqS, oNeS, oIn, oNin, eChain, oIx, oSet, cLen, cList, cListM, cTuple, cSum, cAll, cAny, cInt, cAbs, cMax2, cMin2, cDivmod, cGcd, cIsi, cRepr, lstInts, lstBls, startD, wipeD, List.map_cons, List.map_nil, List.length_cons, List.length_nil, List.cons_append, List.nil_append, List.replicate_succ, List.replicate_zero, List.set_cons_succ, List.set_cons_zero, List.getElem?_cons_succ, List.getElem?_cons_zero, List.filterMap_cons_some, List.filterMap_nil, Nat.reduceAdd, Nat.reduceSub, Nat.sub_self, Nat.reduceLT, Nat.reduceMul, Nat.zero_add, Nat.add_zero, if_true, if_false, and_true, true_and, and_false, false_and, or_true, true_or, or_false, false_or, not_true_eq_false, not_false_eq_true, Bool.not_true, Bool.not_false, Bool.false_eq_true, ite_true, ite_false, reduceIte, reduceCtorEq, eq_self, rs_N, rs_W, rs_Row, rs_S, rs_R, rs_B, it_N, it_W, it_Row, it_S, it_R, sq_W, sq_Row, sq_S, td_N, td_W, td_Row, td_S, rs_I, it_I, sq_I, td_I, rs_Ss, it_Ss, sq_Ss, td_Ss, cu_S, cu_W, cu_Row, atI_0, atI_1, $xs,*])

/-! ### heard -/
def pk (ps : List (Rat × Bool)) : List Rat := (ps.filter (·.2)).map (·.1)
theorem pk_snoc (ps : List (Rat × Bool)) (q : Rat) (b : Bool) : sumR (pk (ps ++ [(q, b)])) = if b = true then sumR (pk ps) + q else sumR (pk ps) := by
  unfold pk
  rw [List.filter_append, List.map_append]
  cases b
  · rw [if_neg (by decide)]
    simp
  · rw [if_pos rfl]
    have : List.map (fun x : Rat × Bool => x.1) (List.filter (fun x => x.2) [(q, true)]) = [q] := rfl
    rw [this, sumR_append, sumR_cons, sumR_nil, Rat.add_zero]
theorem pk_big {ps : List (Rat × Bool)} (hl : ps.length ≤ 8) (hb : ∀ x ∈ ps, Bd (2 ^ 50000) 200 x.1) : Big (sumR (pk ps)) := by
  have l : (pk ps).length ≤ 8 := by
    unfold pk
    rw [List.length_map]
    exact Nat.le_trans (List.length_filter_le _ _) hl
  have h := bd_sum (qs := pk ps) (A := 2 ^ 50000) (b := 200) fun q hq => by
    unfold pk at hq
    obtain ⟨x, hx, rfl⟩ := List.mem_map.mp hq
    exact hb x (List.mem_filter.mp hx).1
  exact (h.mono (Nat.mul_le_mul_right _ l) (Nat.add_le_add_right (Nat.mul_le_mul_right _ l) 1)).big (a := 50004) eight_pow
end Gx

set_option exponentiation.threshold 3000
/-! Gx, data side 11: what is told as text; rests and movers. -/
namespace Gx
open PySem L2

/-! ### repr -/
/-- of so many leaves at most -/
structure RP (k n : Nat) (d : D) : Prop where
  pl : pl k d = true
  ok : okL d = true
  sz : szD d ≤ n
theorem RP.rp {k n : Nat} {d : D} (h : RP k n d) (hk : k ≤ 60 := by decide) (hn : n ≤ 8000 := by decide) : rpOk d := ⟨pl_mono h.pl hk, h.ok, Nat.le_trans h.sz hn⟩
theorem RP.mono {k n k' n' : Nat} {d : D} (h : RP k n d) (hk : k ≤ k' := by decide) (hn : n ≤ n' := by decide) : RP k' n' d := ⟨pl_mono h.pl hk, h.ok, Nat.le_trans h.sz hn⟩
inductive RPs : Nat → Nat → List D → Prop
  | nil {k : Nat} : RPs k 0 []
  | cons {k a b : Nat} {d : D} {ds : List D} : RP k a d → RPs k b ds → RPs k (a + 1 + b) (d :: ds)
theorem RPs.all {k n : Nat} {ds : List D} (h : RPs k n ds) : ds.all (Gx.pl k) = true ∧ okLs ds = true ∧ szDs ds ≤ n := by
  induction h with
  | nil => exact ⟨rfl, rfl, Nat.le_refl _⟩
  | cons h1 _ ih =>
    obtain ⟨i1, i2, i3⟩ := ih
    refine ⟨?_, ?_, ?_⟩
    · rw [List.all_cons, h1.pl, i1]; rfl
    · show (okL _ && okLs _) = true
      rw [h1.ok, i2]; rfl
    · show szD _ + 1 + szDs _ ≤ _
      have := h1.sz
      omega
theorem RPs.lst {k n : Nat} {ds : List D} (h : RPs k n ds) : RP (k + 1) n (.lst ds) := ⟨h.all.1, h.all.2.1, h.all.2.2⟩
theorem RPs.tup {k n : Nat} {ds : List D} (h : RPs k n ds) : RP (k + 1) n (.tup ds) := ⟨h.all.1, h.all.2.1, h.all.2.2⟩
theorem RPs.map {α : Type} {k n : Nat} {f : α → D} : ∀ {xs : List α}, (∀ x ∈ xs, RP k n (f x)) → RPs k ((n + 1) * xs.length) (xs.map f)
  | [], _ => .nil
  | x :: xs, h => by
    have := RPs.cons (h x List.mem_cons_self) (RPs.map (xs := xs) fun y hy => h y (List.mem_cons_of_mem _ hy))
    rw [List.length_cons, Nat.mul_succ, Nat.add_comm]
    exact this
theorem log2_lt {a b : Nat} (hb : 0 < b) (h : a < 2 ^ b) : a.log2 < b := by
  by_cases z : a = 0
  · subst z; rw [Nat.log2_zero]; exact hb
  · exact (Nat.log2_lt z).mpr h
theorem rp_int {k : Nat} {i : Int} (h : i.natAbs < 2 ^ 1920) : RP k 0 (.int i) := ⟨pl_int, decide_eq_true (log2_lt (by decide) h), Nat.le_refl _⟩
theorem rp_S (s : List Bool) : RP 1 s.length (encS s) := by
  have := (RPs.map (k := 0) (n := 0) (f := encB) (xs := s) fun x _ => rp_int (by cases x <;> decide)).tup
  rw [Nat.zero_add, Nat.one_mul] at this
  exact this
theorem rp_Ss {n : Nat} {ss : List (List Bool)} (h : ∀ s ∈ ss, s.length ≤ n) : RP 2 ((n + 1) * ss.length) (encSs ss) :=
  (RPs.map (k := 1) (n := n) (f := encS) (xs := ss) fun x hx => ⟨(rp_S x).pl, (rp_S x).ok, Nat.le_trans (rp_S x).sz (h x hx)⟩).tup
theorem not_dec_self (x : Str) : (!decide (x = x)) = false := by rw [decide_eq_true rfl]; rfl

/-! ### rests have no movers -/
theorem fin_new {R : QD} {d : D} {S : Sto} {p : Addr} {o : SO} (hp : S p = none) (h : R d S) : Fin R d (up S p o) :=
  ⟨S, d, fun a o' e => by rw [up_ne (fun z => by rw [z, hp] at e; cases e)]; exact e, .same d, h⟩
end Gx

/-! Gx, data side 12: states by their numbers, there and back. -/
namespace Gx
open PySem L2
def numOf : List Bool → Nat
  | [] => 0
  | b :: s => (if b = true then 1 else 0) + 2 * numOf s
theorem numOf_cons (b : Bool) (s : List Bool) : numOf (b :: s) = (if b = true then 1 else 0) + 2 * numOf s := rfl
theorem numOf_lt : ∀ s : List Bool, numOf s < 2 ^ s.length
  | [] => by decide
  | b :: s => by
    have := numOf_lt s
    rw [List.length_cons, Nat.pow_succ]
    rw [numOf_cons]
    split <;> omega
theorem stateOf_succ (n k : Nat) : stateOf (n + 1) k = decide (k % 2 = 1) :: stateOf n (k / 2) := by
  unfold stateOf
  rw [List.range_succ_eq_map, List.map_cons, List.map_map, Nat.testBit_zero]
  congr 1
  apply List.map_congr_left
  intro i _
  exact Nat.testBit_succ k i
theorem numOf_stateOf : ∀ (n k : Nat), k < 2 ^ n → numOf (stateOf n k) = k
  | 0, k, h => by
    have : k = 0 := by rw [Nat.pow_zero] at h; omega
    subst this; rfl
  | n + 1, k, h => by
    rw [Nat.pow_succ] at h
    rw [stateOf_succ]
    have ih := numOf_stateOf n (k / 2) (by omega)
    rw [numOf_cons]
    rw [ih]
    by_cases z : k % 2 = 1
    · rw [if_pos (decide_eq_true z)]; omega
    · rw [if_neg (by simpa using z)]; omega
theorem stateOf_numOf : ∀ s : List Bool, stateOf s.length (numOf s) = s
  | [] => rfl
  | b :: s => by
    rw [List.length_cons, stateOf_succ]
    have e1 : numOf (b :: s) % 2 = if b = true then 1 else 0 := by
      rw [numOf_cons]
      split <;> omega
    have e2 : numOf (b :: s) / 2 = numOf s := by
      rw [numOf_cons]
      split <;> omega
    rw [e1, e2, stateOf_numOf s]
    cases b <;> rfl
/-- the sum of the powers of two of some cells -/
theorem sum_pows : ∀ (n : Nat) (p : Nat → Bool), ((((List.range n).filter p).map fun i : Nat => (2 : Int) ^ i).sum) = numOf ((List.range n).map p)
  | 0, p => rfl
  | n + 1, p => by
    have ih := sum_pows n (fun i => p (i + 1))
    rw [List.range_succ_eq_map, List.map_cons, List.map_map]
    have e : (List.filter p (0 :: List.map Nat.succ (List.range n))).map (fun i : Nat => (2 : Int) ^ i) = (if p 0 = true then [1] else []) ++ (((List.range n).filter fun i => p (i + 1)).map fun i : Nat => (2 : Int) * 2 ^ i) := by
      have e2 : (List.map Nat.succ (List.range n)).filter p = ((List.range n).filter fun i => p (i + 1)).map Nat.succ := by rw [List.filter_map]; rfl
      have e3 : ∀ l : List Nat, (l.map Nat.succ).map (fun i : Nat => (2 : Int) ^ i) = l.map fun i : Nat => (2 : Int) * 2 ^ i := fun l => by
        rw [List.map_map]
        apply List.map_congr_left
        intro i _
        show (2 : Int) ^ (i + 1) = 2 * 2 ^ i
        rw [Int.pow_succ, Int.mul_comm]
      by_cases z : p 0 = true
      · rw [List.filter_cons_of_pos z, List.map_cons, if_pos z, e2, e3]; rfl
      · rw [List.filter_cons_of_neg z, if_neg z, e2, e3]; rfl
    have dbl : ∀ l : List Nat, (l.map fun i : Nat => (2 : Int) * 2 ^ i).sum = 2 * (l.map fun i : Nat => (2 : Int) ^ i).sum := fun l => by
      induction l with
      | nil => rfl
      | cons x l ih => rw [List.map_cons, List.map_cons, List.sum_cons, List.sum_cons, ih]; omega
    rw [e, List.sum_append, dbl, ih]
    have e4 : ((p ∘ Nat.succ) : Nat → Bool) = fun i => p (i + 1) := rfl
    rw [e4]
    rw [numOf_cons]
    by_cases z : p 0 = true
    · rw [if_pos z, if_pos z]
      show (1 + 0 : Int) + _ = _
      omega
    · rw [if_neg z, if_neg z]
      show (0 : Int) + _ = _
      omega
end Gx

/-! Gx, data side 13: spares and lifted marks. -/
namespace Gx
open PySem L2
local macro_rules | `(tactic| simp_arith [$xs,*]) => `(tactic| try simp only [eVar, eC, eBin, eUn, tBl, tAnd', tOr', tNot', eAnd, eOr, eNot, eIf, aNil, aCons, eTup, eLst, eLstM, eCall, eCallK, pick, sNext, sSeq, sBreak, sCont, sDrop, sRet, sRetN, sIf, sNever, gNm, gsNil, gsCons, gTupl, gSubs, sAsg, sPar, sPar3, sFor, iSeq, seqG_tup, seqG_lst, seqG_scr, iRange1, iRange2, iEnumG, iZipG, td_tup, td_lst, td_scr, eLc, eLcM, tYes', pNone, pSome, eSl, cu_tup, cu_lst, cu_scr, eMt, eMt0, mAppend, isL, rs_non, rs_bl, rs_int, rs_str, rs_tup, rs_lst', rs_scr, itemsOf_tup, itemsOf_lst, itemsOf_scr, oI, oI0, oSub, oFdiv, oMod, oPow, oShl, oShr, oAnd, oOr, oXor, oLt, oLe, oGt, oGe, oNeg, oIsN, oNotN, Gx.isNon, oAdd, oAdd', oMul, oMul', oMulM, oEq, oNe, oEqS, oNeS, oIn, oNin, eChain, oIx, oSet, cLen, cList, cListM, cTuple, cSum, cAll, cAny, cInt, cAbs, cMax2, cMin2, cDivmod, cGcd, cIsi, cRepr, lstInts, lstBls, startD, wipeD, List.map_cons, List.map_nil, List.length_cons, List.length_nil, List.cons_append, List.nil_append, List.replicate_succ, List.replicate_zero, List.set_cons_succ, List.set_cons_zero, List.getElem?_cons_succ, List.getElem?_cons_zero, List.filterMap_cons_some, List.filterMap_nil, Nat.reduceAdd, Nat.reduceSub, Nat.sub_self, Nat.reduceLT, Nat.reduceMul, Nat.zero_add, Nat.add_zero, if_true, if_false, and_true, true_and, and_false, false_and, or_true, true_or, or_false, false_or, not_true_eq_false, not_false_eq_true, Bool.not_true, Bool.not_false, Bool.false_eq_true, ite_true, ite_false, reduceIte, reduceCtorEq, eq_self, $xs,*])
local macro_rules | `(tactic| simp_arith! [$xs,*]) => `(tactic| try simp only [eVar, eC, eBin, eUn, tBl, tAnd', tOr', tNot', eAnd, eOr, eNot, eIf, aNil, aCons, eTup, eLst, eLstM, eCall, eCallK, pick, sNext, sSeq, sBreak, sCont, sDrop, sRet, sRetN, sIf, sNever, gNm, gsNil, gsCons, gTupl, gSubs, sAsg, sPar, sPar3, sFor, iSeq, seqG_tup, seqG_lst, seqG_scr, iRange1, iRange2, iEnumG, iZipG, td_tup, td_lst, td_scr, eLc, eLcM, tYes', pNone, pSome, eSl, cu_tup, cu_lst, cu_scr, eMt, eMt0, mAppend, isL, rs_non, rs_bl, rs_int, rs_str, rs_tup, rs_lst', rs_scr, itemsOf_tup, itemsOf_lst, itemsOf_scr, oI, oI0, oSub, oFdiv, oMod, oPow, oShl, oShr, oAnd, oOr, oXor, oLt, oLe, oGt, oGe, oNeg, oIsN, oNotN, Gx.isNon, oAdd, oAdd', oMul, oMul', oMulM, oEq, oNe, oEqS, oNeS, oIn, oNin, eChain, oIx, oSet, cLen, cList, cListM, cTuple, cSum, cAll, cAny, cInt, cAbs, cMax2, cMin2, cDivmod, cGcd, cIsi, cRepr, lstInts, lstBls, startD, wipeD, List.map_cons, List.map_nil, List.length_cons, List.length_nil, List.cons_append, List.nil_append, List.replicate_succ, List.replicate_zero, List.set_cons_succ, List.set_cons_zero, List.getElem?_cons_succ, List.getElem?_cons_zero, List.filterMap_cons_some, List.filterMap_nil, Nat.reduceAdd, Nat.reduceSub, Nat.sub_self, Nat.reduceLT, Nat.reduceMul, Nat.zero_add, Nat.add_zero, if_true, if_false, and_true, true_and, and_false, false_and, or_true, true_or, or_false, false_or, not_true_eq_false, not_false_eq_true, Bool.not_true, Bool.not_false, Bool.false_eq_true, ite_true, ite_false, reduceIte, reduceCtorEq, eq_self, rs_N, rs_W, rs_Row, rs_S, rs_R, rs_B, it_N, it_W, it_Row, it_S, it_R, sq_W, sq_Row, sq_S, td_N, td_W, td_Row, td_S, rs_I, it_I, sq_I, td_I, rs_Ss, it_Ss, sq_Ss, td_Ss, cu_S, cu_W, cu_Row, atI_0, atI_1, $xs,*])

/-! ### the least of some fractions -/
def mn (f e : Rat) : Rat := if e < f then e else f
/-! ### spares -/
def overs (N : Net) (i : Nat) : List Rat := (allS N.n).map fun s => hear N i s - mk' N i
/-- the least one above 0 -/
def mnO (f : Option Rat) (x : Rat) : Option Rat := if 0 < x then (match f with
  | none => some x
  | some f => some (mn f x)) else f
def spareR (N : Net) (i : Nat) : Option Rat := (overs N i).foldl mnO none
def stepR (N : Net) (i : Nat) : Rat := match spareR N i with
  | none => 1
  | some q => half * q
def lifted (N : Net) : Net := ⟨N.ws, (List.range N.n).map fun i => mk' N i + stepR N i⟩
theorem zipIdx_range {α : Type} (d : α) (xs : List α) : xs.zipIdx = (List.range xs.length).map fun i => (xs.getD i d, i) := by
  apply List.ext_getElem
  · simp
  · intro i h1 h2
    rw [List.length_zipIdx] at h1
    rw [List.getElem_zipIdx, List.getElem_map, List.getElem_range, getD_eq h1, Nat.zero_add]
end Gx

/-! Gx, data side 14: loops by what holds behind each turn; what the laws reckon of numbers of states. -/
namespace Gx
open PySem L2
local macro_rules | `(tactic| simp_arith [$xs,*]) => `(tactic| try simp only [eVar, eC, eBin, eUn, tBl, tAnd', tOr', tNot', eAnd, eOr, eNot, eIf, aNil, aCons, eTup, eLst, eLstM, eCall, eCallK, pick, sNext, sSeq, sBreak, sCont, sDrop, sRet, sRetN, sIf, sNever, gNm, gsNil, gsCons, gTupl, gSubs, sAsg, sPar, sPar3, sFor, iSeq, seqG_tup, seqG_lst, seqG_scr, iRange1, iRange2, iEnumG, iZipG, td_tup, td_lst, td_scr, eLc, eLcM, tYes', pNone, pSome, eSl, cu_tup, cu_lst, cu_scr, eMt, eMt0, mAppend, isL, rs_non, rs_bl, rs_int, rs_str, rs_tup, rs_lst', rs_scr, itemsOf_tup, itemsOf_lst, itemsOf_scr, oI, oI0, oSub, oFdiv, oMod, oPow, oShl, oShr, oAnd, oOr, oXor, oLt, oLe, oGt, oGe, oNeg, oIsN, oNotN, Gx.isNon, oAdd, oAdd', oMul, oMul', oMulM, oEq, oNe, oEqS, oNeS, oIn, oNin, eChain, oIx, oSet, cLen, cList, cListM, cTuple, cSum, cAll, cAny, cInt, cAbs, cMax2, cMin2, cDivmod, cGcd, cIsi, cRepr, lstInts, lstBls, startD, wipeD, List.map_cons, List.map_nil, List.length_cons, List.length_nil, List.cons_append, List.nil_append, List.replicate_succ, List.replicate_zero, List.set_cons_succ, List.set_cons_zero, List.getElem?_cons_succ, List.getElem?_cons_zero, List.filterMap_cons_some, List.filterMap_nil, Nat.reduceAdd, Nat.reduceSub, Nat.sub_self, Nat.reduceLT, Nat.reduceMul, Nat.zero_add, Nat.add_zero, if_true, if_false, and_true, true_and, and_false, false_and, or_true, true_or, or_false, false_or, not_true_eq_false, not_false_eq_true, Bool.not_true, Bool.not_false, Bool.false_eq_true, ite_true, ite_false, reduceIte, reduceCtorEq, eq_self, $xs,*])
local macro_rules | `(tactic| simp_arith! [$xs,*]) => `(tactic| try simp only [eVar, eC, eBin, eUn, tBl, tAnd', tOr', tNot', eAnd, eOr, eNot, eIf, aNil, aCons, eTup, eLst, eLstM, eCall, eCallK, pick, sNext, sSeq, sBreak, sCont, sDrop, sRet, sRetN, sIf, sNever, gNm, gsNil, gsCons, gTupl, gSubs, sAsg, sPar, sPar3, sFor, iSeq, seqG_tup, seqG_lst, seqG_scr, iRange1, iRange2, iEnumG, iZipG, td_tup, td_lst, td_scr, eLc, eLcM, tYes', pNone, pSome, eSl, cu_tup, cu_lst, cu_scr, eMt, eMt0, mAppend, isL, rs_non, rs_bl, rs_int, rs_str, rs_tup, rs_lst', rs_scr, itemsOf_tup, itemsOf_lst, itemsOf_scr, oI, oI0, oSub, oFdiv, oMod, oPow, oShl, oShr, oAnd, oOr, oXor, oLt, oLe, oGt, oGe, oNeg, oIsN, oNotN, Gx.isNon, oAdd, oAdd', oMul, oMul', oMulM, oEq, oNe, oEqS, oNeS, oIn, oNin, eChain, oIx, oSet, cLen, cList, cListM, cTuple, cSum, cAll, cAny, cInt, cAbs, cMax2, cMin2, cDivmod, cGcd, cIsi, cRepr, lstInts, lstBls, startD, wipeD, List.map_cons, List.map_nil, List.length_cons, List.length_nil, List.cons_append, List.nil_append, List.replicate_succ, List.replicate_zero, List.set_cons_succ, List.set_cons_zero, List.getElem?_cons_succ, List.getElem?_cons_zero, List.filterMap_cons_some, List.filterMap_nil, Nat.reduceAdd, Nat.reduceSub, Nat.sub_self, Nat.reduceLT, Nat.reduceMul, Nat.zero_add, Nat.add_zero, if_true, if_false, and_true, true_and, and_false, false_and, or_true, true_or, or_false, false_or, not_true_eq_false, not_false_eq_true, Bool.not_true, Bool.not_false, Bool.false_eq_true, ite_true, ite_false, reduceIte, reduceCtorEq, eq_self, rs_N, rs_W, rs_Row, rs_S, rs_R, rs_B, it_N, it_W, it_Row, it_S, it_R, sq_W, sq_Row, sq_S, td_N, td_W, td_Row, td_S, rs_I, it_I, sq_I, td_I, rs_Ss, it_Ss, sq_Ss, td_Ss, cu_S, cu_W, cu_Row, atI_0, atI_1, $xs,*])

/-! ### loops -/
theorem for_from {g : TG'} {tb : ST} {G : EndG} (I : Nat → Tau → Sto → Prop) (n : Nat)
    (step : ∀ (i : Nat) (τ : Tau) (S : Sto) (K : Tau → Sto → Prop), i < n → I i τ S → (∀ τ' S', I (i + 1) τ' S' → K τ' S') → g (.int i) τ S fun τ1 S1 => tb { G with nx := K, ct := K, bk := G.nx } τ1 S1)
    (fin : ∀ τ S, I n τ S → G.nx τ S) : ∀ (m i : Nat) (τ : Tau) (S : Sto), i + m = n → I i τ S → forG g tb (fun _ => True) (rngD i m) G τ S
  | 0, i, τ, S, e, h => ⟨trivial, fin τ S (by have : i = n := by omega
                                              subst this; exact h)⟩
  | m + 1, i, τ, S, e, h => by
    refine ⟨trivial, ?_⟩
    have e1 : ((i : Int) + 1) = ((i + 1 : Nat) : Int) := by omega
    rw [e1]
    exact step i τ S _ (by omega) h fun τ' S' h' => for_from I n step fin m (i + 1) τ' S' (by omega) h'
theorem for_rng {g : TG'} {tb : ST} {G : EndG} {τ : Tau} {S : Sto} (I : Nat → Tau → Sto → Prop) {n : Nat} (h0 : I 0 τ S)
    (step : ∀ (i : Nat) (τ : Tau) (S : Sto) (K : Tau → Sto → Prop), i < n → I i τ S → (∀ τ' S', I (i + 1) τ' S' → K τ' S') → g (.int i) τ S fun τ1 S1 => tb { G with nx := K, ct := K, bk := G.nx } τ1 S1)
    (fin : ∀ τ S, I n τ S → G.nx τ S) : forG g tb (fun _ => True) (rngD 0 n) G τ S := for_from I n step fin n 0 τ S (Nat.zero_add n) h0
theorem for_map {α : Type} {g : TG'} {tb : ST} {G : EndG} (enc : α → D) (I : List α → Tau → Sto → Prop) (all : List α)
    (step : ∀ (done : List α) (x : α) (todo : List α) (τ : Tau) (S : Sto) (K : Tau → Sto → Prop), all = done ++ x :: todo → I done τ S → (∀ τ' S', I (done ++ [x]) τ' S' → K τ' S') → g (enc x) τ S fun τ1 S1 => tb { G with nx := K, ct := K, bk := G.nx } τ1 S1)
    (fin : ∀ τ S, I all τ S → G.nx τ S) : ∀ (todo done : List α) (τ : Tau) (S : Sto), all = done ++ todo → I done τ S → forG g tb (fun _ => True) (todo.map enc) G τ S
  | [], done, τ, S, e, h => ⟨trivial, fin τ S (by rw [e, List.append_nil]; exact h)⟩
  | x :: todo, done, τ, S, e, h => ⟨trivial, step done x todo τ S _ e h fun τ' S' h' => for_map enc I all step fin todo (done ++ [x]) τ' S' (by rw [e, List.append_assoc]; rfl) h'⟩
theorem for_all {α : Type} {g : TG'} {tb : ST} {G : EndG} {τ : Tau} {S : Sto} (enc : α → D) (I : List α → Tau → Sto → Prop) (all : List α) (h0 : I [] τ S)
    (step : ∀ (done : List α) (x : α) (todo : List α) (τ : Tau) (S : Sto) (K : Tau → Sto → Prop), all = done ++ x :: todo → I done τ S → (∀ τ' S', I (done ++ [x]) τ' S' → K τ' S') → g (enc x) τ S fun τ1 S1 => tb { G with nx := K, ct := K, bk := G.nx } τ1 S1)
    (fin : ∀ τ S, I all τ S → G.nx τ S) : forG g tb (fun _ => True) (all.map enc) G τ S := for_map enc I all step fin all [] τ S rfl h0
/-- a list of the def's own is handed out -/
theorem fin_lst {R : QD} {S S0 : Sto} {q : Addr} {ds : List D} (hs : ∀ a o, S0 a = some o → S a = some o) (hq : S0 q = none) (h : S q = some (.lst ds)) (hR : R (.lst ds) S0) : Fin R (.ref q) S :=
  ⟨S0, .lst ds, hs, .ref h hq (FzL.same ds), hR⟩
theorem up_sub {S : Sto} {q : Addr} {o : SO} (hq : S q = none) : ∀ a o', S a = some o' → up S q o a = some o' := fun a o' e => by
  rw [up_ne]; exact e
  intro z; rw [z, hq] at e; cases e

/-! ### a cell's bit of a number -/
theorem bit_mod (k i : Nat) : ((k : Int) / 2 ^ i).fmod 2 = bit (k.testBit i) := by
  rw [Int.fmod_eq_emod_of_nonneg _ (by decide), bit_testBit]
def γ_as_state : OL := fun ds S R => ∃ n k : Nat, ds = [.int k, .int n] ∧ n ≤ 1000 ∧ R (encS (stateOf n k)) S
def body_as_state : ST := sRet (eCall cTuple (aCons (eLc (iRange1 (aCons (eVar 1) (aNil))) (gNm 2) (tYes') (eBin oMod (eCall cInt (aCons (eBin oShr (eVar 0) (eVar 2)) (aNil))) (eC (.int 2))) [2]) (aNil)))
theorem law_as_state : Law 3 γ_as_state body_as_state := by
  intro ds S R ⟨n, k, e, hn, h⟩
  subst e
  have q := fin_of h
  unfold body_as_state
  simp_arith []
  refine ⟨⟨by omega, by omega⟩, ?_⟩
  rw [Int.toNat_natCast]
  refine rng_map (fun i => encB (k.testBit i)) n (fun i hi Q hq => ?_) trivial (sz1000 hn) ?_
  · simp_arith [wipeD, Int.toNat_natCast, bit_mod]
    exact ⟨by omega, by decide, hq⟩
  · rw [encS_of] at q
    exact q
def encK (ks : List Nat) : List D := ks.map fun i : Nat => .int (i : Int)
def γ_as_states : OL := fun ds S R => ∃ (n : Nat) (ks : List Nat), ds = [.lst (encK ks), .int n] ∧ (n ≤ 1000 ∧ ks.length ≤ 1000) ∧ R (encSs (ks.map (stateOf n))) S
def body_as_states (γ__law_as_state : OL) : ST := sRet (eCall cTuple (aCons (eLc (iSeq (eVar 0)) (gNm 2) (tYes') (eCall γ__law_as_state (aCons (eVar 2) (aCons (eVar 1) (aNil)))) [2]) (aNil)))
theorem law_as_states : Law 3 γ_as_states (body_as_states γ_as_state) := by
  intro ds S R ⟨n, ks, e, ⟨hn, hk⟩, h⟩
  subst e
  have q := fin_of h
  unfold body_as_states γ_as_state encK
  simp_arith []
  refine lc_map (fun i : Nat => .int (i : Int)) (fun k => encS (stateOf n k)) ks [] (fun k _ Q hq => ?_) trivial (sz1000 (by rw [List.length_nil]; omega)) ?_
  · simp_arith [wipeD]
    exact ⟨n, k, rfl, hn, hq⟩
  · unfold encSs at q
    rw [List.map_map] at q
    exact q

/-! ### heard, by numbers -/
def γ_lheardN : OL := fun ds S R => ∃ (N : Net) (i k : Nat), ds = [encN N, .int i, .int k] ∧ (N.Ok ∧ Sm N ∧ i < N.n) ∧ R (encR (hear N i (stateOf N.n k))) S
def body_lheardN (γ__law_plus : OL) : ST := sSeq (sAsg (eTup (aCons (eC (.int 0)) (aCons (eC (.int 1)) (aNil)))) (gNm 3))
  (sSeq (sFor (iEnumG (aCons (eBin oIx (eBin oIx (eVar 0) (eC (.int 0))) (eVar 1)) (aNil))) (gTupl 2 (gsCons (gNm 4) (gsCons (gNm 5) (gsNil)))) (sIf (tBl (eBin oEq (eBin oMod (eCall cInt (aCons (eBin oShr (eVar 2) (eVar 4)) (aNil))) (eC (.int 2))) (eC (.int 1)))) (sAsg (eCall γ__law_plus (aCons (eVar 3) (aCons (eVar 5) (aNil)))) (gNm 3)) (sNext)))
  (sRet (eVar 3)))
theorem zip_state {N : Net} (ok : N.Ok) {i : Nat} (hi : i < N.n) (k : Nat) : List.zip (wrow N i) (stateOf N.n k) = (List.range N.n).map fun j => (wt N i j, k.testBit j) := by
  have hw := ok.wrow hi
  apply List.ext_getElem
  · rw [List.length_zip, stateOf_length, List.length_map, List.length_range, hw]; omega
  · intro j h1 h2
    rw [List.length_map, List.length_range] at h2
    rw [List.getElem_zip, List.getElem_map, List.getElem_range]
    unfold wt
    rw [getD_eq (by omega)]
    unfold stateOf
    rw [List.getElem_map, List.getElem_range]
theorem law_lheardN : Law 6 γ_lheardN (body_lheardN γ_plus) := by
  intro ds S R ⟨N, i, k, e, ⟨ok, sm, hi⟩, h⟩
  subst e
  have q := fin_of h
  have g1 := ix_row ok hi
  have hw := ok.wrow hi
  have h8 := ok.few
  unfold body_lheardN
  refine seqK fun kk hk => ?_
  simp_arith []
  refine ⟨by decide, ?_⟩
  rw [hk, enc_zero]
  refine seqK fun kk hk => ?_
  simp_arith! [g1]
  rw [enumD_map0, zipIdx_range (0 : Rat), List.map_map, hw]
  refine for_all (fun j : Nat => .tup [.int j, encR (wt N i j)]) (fun done τ S' => S' = S ∧ ∃ x4 x5, τ = [some (encN N), some (.int i), some (.int k), some (encR (sumR (pk (done.map fun j => (wt N i j, k.testBit j))))), x4, x5]) (List.range N.n) ⟨rfl, none, none, rfl⟩ (fun done j todo τ S' K ea ⟨hS, x4, x5, hτ⟩ hK => ?_) fun τ S' ⟨hS, x4, x5, hτ⟩ => ?_
  · subst hS hτ
    have hj : j < N.n := List.mem_range.mp (by rw [ea]; simp)
    have hd : done.length ≤ 8 := by have := congrArg List.length ea; rw [List.length_append, List.length_range] at this; omega
    have mem : ∀ j, j ∈ List.range N.n → Bd (2 ^ 50000) 200 (wt N i j) := fun j hj => sm.1 _ (wrow_mem (by rw [ok.sq]; exact hi)) _ (getD_mem (by rw [hw]; exact List.mem_range.mp hj))
    have b1 : Big (sumR (pk (done.map fun j => (wt N i j, k.testBit j)))) := pk_big (by rw [List.length_map]; exact hd) fun x hx => by
      obtain ⟨j, hj, rfl⟩ := List.mem_map.mp hx
      exact mem j (by rw [ea]; exact List.mem_append_left _ hj)
    have b2 : Big (wt N i j) := (mem j (List.mem_range.mpr hj)).big (a := 50001) (Nat.pow_lt_pow_right (by decide) (by decide))
    have st := hK _ _ ⟨rfl, some (.int j), some (encR (wt N i j)), rfl⟩
    rw [List.map_append] at st
    simp only [List.map_cons, List.map_nil] at st
    rw [pk_snoc] at st
    unfold γ_plus
    simp_arith [pl_int, bit_mod, eqD_bit, Int.toNat_natCast]
    refine ⟨by omega, by decide, ?_⟩
    cases z : k.testBit j with
    | false =>
      rw [z, if_neg (by decide)] at st
      simp_arith []
      exact st
    | true =>
      rw [z, if_pos rfl] at st
      simp_arith []
      exact ⟨_, _, rfl, ⟨b1, b2⟩, st⟩
  · subst hS hτ
    show kk _ S'
    rw [hk]
    unfold hear at q
    unfold pickW at q
    rw [zip_state ok hi] at q
    exact q
/-! ### what is wanted, by numbers -/
def wishN (N : Net) (k : Nat) : Nat := numOf (wants N (stateOf N.n k))
def γ_wishes : OL := fun ds S R => ∃ (N : Net), ds = [encN N] ∧ (N.Ok ∧ Sm N) ∧ R (.lst (encK ((List.range (2 ^ N.n)).map (wishN N)))) S
def body_wishes (γ__law_below γ__law_heard : OL) : ST := sSeq (sPar 2 3 (aCons (eCall cLen (aCons (eBin oIx (eVar 0) (eC (.int 1))) (aNil))) (aCons (eLstM (aNil)) (aNil))))
  (sSeq (sFor (iRange1 (aCons (eBin oShl (eC (.int 1)) (eVar 2)) (aNil))) (gNm 1) (sSeq (sAsg (eLc (iRange1 (aCons (eVar 2) (aNil))) (gNm 5) (tBl (eCall γ__law_below (aCons (eBin oIx (eBin oIx (eVar 0) (eC (.int 1))) (eVar 5)) (aCons (eCall γ__law_heard (aCons (eVar 0) (aCons (eVar 5) (aCons (eVar 1) (aNil))))) (aNil))))) (eBin oShl (eC (.int 1)) (eVar 5)) [5]) (gNm 4))
  (sDrop (eMt mAppend (eVar 3) (aCons (eCall cSum (aCons (eVar 4) (aNil))) (aNil))))))
  (sRet (eVar 3)))
theorem shl_rng {n : Nat} (h : n ≤ 8) : CPow 1 n ∧ -(2 : Int) ^ 62 ≤ ((2 ^ n : Nat) : Int) ∧ ((2 ^ n : Nat) : Int) < 2 ^ 62 :=
  ⟨⟨by omega, by omega, by decide⟩, Int.le_trans (by decide) (Int.natCast_nonneg (2 ^ n)), Int.lt_of_le_of_lt (Int.ofNat_le.mpr (pow8 h)) (by decide)⟩
theorem intsOf_pows (l : List Nat) : intsOf (l.map fun i : Nat => D.int ((2 ^ i : Nat) : Int)) = some (l.map fun i : Nat => (2 : Int) ^ i) := by
  have := intsOf_map (l.map fun i : Nat => (2 : Int) ^ i)
  rw [List.map_map] at this
  rw [← this]
  congr 1
theorem law_wishes : Law 6 γ_wishes (body_wishes γ_is_less γ_lheardN) := by
  intro ds S R ⟨N, e, ⟨ok, sm⟩, h⟩
  subst e
  have h8 := ok.few
  have hn : N.ms.length = N.n := rfl
  have sr := shl_rng h8
  have p8 := pow8 h8
  unfold body_wishes
  refine seqK fun kk hk => ?_
  simp_arith! [List.length_map, hn]
  refine ⟨by decide, fun p3 hp => ?_⟩
  rw [hk]
  refine seqK fun kk hk => ?_
  simp_arith [shl_one]
  refine ⟨sr.1, sr.2, ?_⟩
  rw [Int.toNat_natCast]
  refine for_rng (fun i τ S' => S' = up S p3 (.lst (encK ((List.range i).map (wishN N)))) ∧ ∃ x1 x4, τ = [some (encN N), x1, some (.int N.n), some (.ref p3), x4, none]) ⟨rfl, none, none, rfl⟩ (fun i τ S' K hi ⟨hS, x1, x4, hτ⟩ hK => ?_) fun τ S' ⟨hS, x1, x4, hτ⟩ => ?_
  · subst hS hτ
    have st := hK _ _ ⟨rfl, some (.int i), some (.lst (((List.range N.n).filter fun j => decide (mk' N j < hear N j (stateOf N.n i))).map fun j : Nat => D.int ((2 ^ j : Nat) : Int))), rfl⟩
    have hsum := sum_pows N.n fun j => decide (mk' N j < hear N j (stateOf N.n i))
    unfold γ_is_less γ_lheardN
    simp_arith []
    refine ⟨⟨by omega, by omega⟩, ?_⟩
    rw [Int.toNat_natCast]
    refine rng_filter (fun j => decide (mk' N j < hear N j (stateOf N.n i))) (fun j => .int ((2 ^ j : Nat) : Int)) N.n (fun j hj Y M hy hM => ?_) trivial (sz1000 (by omega)) ?_
    · have g := ix_mark hj
      simp_arith! [wipeD, g, shl_one]
      refine ⟨N, j, i, rfl, ⟨ok, sm, hj⟩, _, _, rfl, ⟨mk_big sm hj, hear_big ok sm hj _⟩, ?_⟩
      split
      · rename_i z; exact ⟨(shl_rng (n := j) (by omega)).1, hy z⟩
      · rename_i z; exact hM (by simpa using z)
    · simp_arith [rs_ref up_same, up_same, intsOf_pows, up_up]
      refine ⟨Nat.lt_of_lt_of_le (m := 1000) (by unfold encK; rw [List.length_map, List.length_map, List.length_range]; omega) (by decide), ?_⟩
      have e : encK ((List.range i).map (wishN N)) ++ [D.int (((List.range N.n).filter fun j => decide (mk' N j < hear N j (stateOf N.n i))).map fun j : Nat => (2 : Int) ^ j).sum] = encK ((List.range (i + 1)).map (wishN N)) := by
        rw [hsum, List.range_succ, List.map_append]
        unfold encK
        rw [List.map_append]; rfl
      rw [e]
      exact st
  · subst hS hτ
    show kk _ _
    rw [hk]
    simp_arith []
    exact fin_lst (S0 := S) (up_sub hp) hp up_same h
/-! ### a number with one bit otherwise -/
end Gx

/-! Gx, data side 15: energies, in plain sums. -/
namespace Gx
open PySem L2
/-! ### the words of nets -/
def xs (s : List Bool) (i : Nat) : Rat := if s.getD i false = true then 1 else 0
/-- scales that ties keep -/
structure Scd (N : Net) (sc : List Rat) : Prop where
  len : sc.length = N.n
  pos : ∀ i, i < N.n → 0 < sc.getD i 0
  sym : ∀ i j, i < N.n → j < N.n → sc.getD i 0 * wt N i j = sc.getD j 0 * wt N j i
end Gx

/-! Gx, data side 16: the second family of drawn nets (any, with scales, wheels). -/
namespace Gx
open PySem L2
local macro_rules | `(tactic| simp_arith [$xs,*]) => `(tactic| try simp only [eVar, eC, eBin, eUn, tBl, tAnd', tOr', tNot', eAnd, eOr, eNot, eIf, aNil, aCons, eTup, eLst, eLstM, eCall, eCallK, pick, sNext, sSeq, sBreak, sCont, sDrop, sRet, sRetN, sIf, sNever, gNm, gsNil, gsCons, gTupl, gSubs, sAsg, sPar, sPar3, sFor, iSeq, seqG_tup, seqG_lst, seqG_scr, iRange1, iRange2, iEnumG, iZipG, td_tup, td_lst, td_scr, eLc, eLcM, tYes', pNone, pSome, eSl, cu_tup, cu_lst, cu_scr, eMt, eMt0, mAppend, isL, rs_non, rs_bl, rs_int, rs_str, rs_tup, rs_lst', rs_scr, itemsOf_tup, itemsOf_lst, itemsOf_scr, oI, oI0, oSub, oFdiv, oMod, oPow, oShl, oShr, oAnd, oOr, oXor, oLt, oLe, oGt, oGe, oNeg, oIsN, oNotN, Gx.isNon, oAdd, oAdd', oMul, oMul', oMulM, oEq, oNe, oEqS, oNeS, oIn, oNin, eChain, oIx, oSet, cLen, cList, cListM, cTuple, cSum, cAll, cAny, cInt, cAbs, cMax2, cMin2, cDivmod, cGcd, cIsi, cRepr, lstInts, lstBls, startD, wipeD, List.map_cons, List.map_nil, List.length_cons, List.length_nil, List.cons_append, List.nil_append, List.replicate_succ, List.replicate_zero, List.set_cons_succ, List.set_cons_zero, List.getElem?_cons_succ, List.getElem?_cons_zero, List.filterMap_cons_some, List.filterMap_nil, Nat.reduceAdd, Nat.reduceSub, Nat.sub_self, Nat.reduceLT, Nat.reduceMul, Nat.zero_add, Nat.add_zero, if_true, if_false, and_true, true_and, and_false, false_and, or_true, true_or, or_false, false_or, not_true_eq_false, not_false_eq_true, Bool.not_true, Bool.not_false, Bool.false_eq_true, ite_true, ite_false, reduceIte, reduceCtorEq, eq_self, $xs,*])
theorem frac_of {a : Int} {b A c : Nat} (hb : 0 < b) (h1 : a.natAbs ≤ A) (h2 : b < 2 ^ c) : Bd A c (Rat.divInt a b) :=
  bd_divInt hb (Nat.le_trans h1 (Nat.le_mul_of_pos_right A hb)) h2
def body_weight2 (γ__law_draw γ__law_lean γ__law_one : OL) (es fs : ET) : ST := sSeq (sAsg (eCall γ__law_draw (aCons (eVar 0) (aCons (eC (.int 9)) (aNil)))) (gNm 1))
  (sSeq (sIf (tBl (eBin oLt (eVar 1) (eC (.int 2)))) (sRet (eTup (aCons (eC (.int 0)) (aCons (eC (.int 1)) (aNil))))) (sNext))
  (sSeq (sIf (tBl (eBin oLt (eVar 1) (eC (.int 8)))) (sRet (eCall γ__law_lean (aCons (eCall γ__law_one (aCons (eVar 0) (aCons es (aNil)))) (aCons (eCall γ__law_one (aCons (eVar 0) (aCons fs (aNil)))) (aNil))))) (sNext))
  (sRet (eCall γ__law_lean (aCons (eBin oSub (eCall γ__law_draw (aCons (eVar 0) (aCons (eC (.int 2000001)) (aNil)))) (eC (.int 1000000))) (aCons (eBin oAdd (eC (.int 1)) (eCall γ__law_draw (aCons (eVar 0) (aCons (eC (.int 60)) (aNil))))) (aNil)))))))
theorem law_weight2 {es fs : ET} {xs ys : List Int} (he : Kc es (.tup (xs.map .int))) (hf : Kc fs (.tup (ys.map .int))) (h0 : ∀ x ∈ xs, x.natAbs ≤ 1000000) (h1 : ∀ y ∈ ys, 0 < y ∧ y < 64) (lx : 0 < xs.length ∧ xs.length < 1073741824) (ly : 0 < ys.length ∧ ys.length < 1073741824) :
    Law 2 (γ_frac (Bd 1000000 6)) (body_weight2 γ_draw γ_ratio γ_one es fs) := by
  intro ds S R ⟨p, e, hw, h⟩
  subst e
  unfold body_weight2
  refine seqK fun k hk => ?_
  unfold γ_draw
  simp_arith []
  refine ⟨p, _, rfl, hw, by decide, fun r S1 r0 r1 d1 => ?_⟩
  rw [hk]
  refine seqK fun k hk => ?_
  simp_arith []
  by_cases z : r < 2
  · simp_arith [z, decide_true]
    refine ⟨by decide, ?_⟩
    rw [enc_zero]
    exact fin_of (h 0 S1 ⟨by decide, by decide⟩ d1)
  · simp_arith [z, decide_false]
    rw [hk]
    refine seqK fun k hk => ?_
    unfold γ_one γ_ratio
    simp_arith []
    by_cases z8 : r < 8
    · simp_arith [z8, decide_true]
      apply he
      refine ⟨p, _, _, rfl, rfl, d1.well, by rw [List.length_map]; exact lx, fun x S2 hx d2 => ?_⟩
      apply hf
      refine ⟨p, _, _, rfl, rfl, d2.well, by rw [List.length_map]; exact ly, fun y S3 hy d3 => ?_⟩
      obtain ⟨a, ha, rfl⟩ := List.mem_map.mp hx
      obtain ⟨b, hb, rfl⟩ := List.mem_map.mp hy
      obtain ⟨b0, b1⟩ := h1 b hb
      obtain ⟨b, rfl⟩ := Int.eq_ofNat_of_zero_le (Int.le_of_lt b0)
      refine ⟨⟨by omega, Nat.lt_of_lt_of_le (m := 64) (by omega) (Nat.le_trans (m := 2 ^ 6) (by decide) (pow2_le (by decide)))⟩, fin_of (h _ S3 (frac_of (by omega) (h0 a ha) (by omega)) ((d1.trans d2).trans d3))⟩
    · simp_arith [z8, decide_false]
      rw [hk]
      unfold γ_ratio
      simp_arith []
      refine ⟨p, _, rfl, d1.well, ⟨by decide, by decide⟩, fun r2 S2 r20 r21 d2 => ?_⟩
      refine ⟨p, _, rfl, d2.well, ⟨by decide, by decide⟩, fun r3 S3 r30 r31 d3 => ?_⟩
      obtain ⟨m, hm⟩ := Int.eq_ofNat_of_zero_le (show 0 ≤ 1 + r3 by omega)
      simp_arith []
      rw [hm]
      refine ⟨⟨by omega, Nat.lt_of_lt_of_le (m := 64) (by omega) (Nat.le_trans (m := 2 ^ 6) (by decide) (pow2_le (by decide)))⟩, fin_of (h _ S3 (frac_of (by omega) (by omega) (by omega)) ((d1.trans d2).trans d3))⟩
/-! ### drawn marks -/
def γ_marks (M : Rat → Prop) : OL := fun ds S R => ∃ (p : Addr) (n : Nat), ds = [.ref p, .int n] ∧ Well p S ∧ n ≤ 8 ∧ ∀ ms S', ms.length = n → (∀ q ∈ ms, M q) → Drw p S S' → R (encRow ms) S'
def body_marks (γ__law_one γ__law_draw γ__law_weight : OL) (es : ET) : ST := sSeq (sAsg (eLstM (aNil)) (gNm 2))
  (sSeq (sFor (iRange1 (aCons (eVar 1) (aNil))) (gNm 3) (sSeq (sAsg (eCall γ__law_one (aCons (eVar 0) (aCons es (aNil)))) (gNm 4))
  (sDrop (eMt mAppend (eVar 2) (aCons (eIf (tBl (eBin oEq (eCall γ__law_draw (aCons (eVar 0) (aCons (eC (.int 6)) (aNil)))) (eC (.int 0)))) (eCall γ__law_weight (aCons (eVar 0) (aNil))) (eVar 4)) (aNil))))))
  (sRet (eCall cTuple (aCons (eVar 2) (aNil)))))
/-- a list of fractions that grows -/
structure Grw (M : Rat → Prop) (p q : Addr) (S0 S : Sto) (ms : List Rat) (i : Nat) : Prop where
  ext : Ext p S0 S
  own : Own p S0 q
  at' : S q = some (.lst (ms.map encR))
  len : ms.length = i
  ok : ∀ x ∈ ms, M x
theorem Grw.drw {M : Rat → Prop} {p q : Addr} {S0 S S' : Sto} {ms : List Rat} {i : Nat} (g : Grw M p q S0 S ms i) (d : Drw p S S') : Grw M p q S0 S' ms i :=
  ⟨g.ext.drw d, g.own, by rw [d.at g.own.2]; exact g.at', g.len, g.ok⟩
theorem Grw.add {M : Rat → Prop} {p q : Addr} {S0 S : Sto} {ms : List Rat} {i : Nat} (g : Grw M p q S0 S ms i) {x : Rat} (hx : M x) : Grw M p q S0 (up S q (.lst (ms.map encR ++ [encR x]))) (ms ++ [x]) (i + 1) :=
  ⟨g.ext.set g.own, g.own, by rw [up_same, List.map_append]; rfl, by rw [List.length_append, g.len]; rfl, fun y hy => by
    rcases List.mem_append.mp hy with hy | hy
    · exact g.ok y hy
    · rw [List.mem_singleton] at hy; subst hy; exact hx⟩
theorem Grw.room {M : Rat → Prop} {p q : Addr} {S0 S : Sto} {ms : List Rat} {i : Nat} (g : Grw M p q S0 S ms i) (h : i ≤ 1000) : (ms.map encR).length < sizeLine :=
  Nat.lt_of_lt_of_le (m := 1001) (by rw [List.length_map, g.len]; omega) (by decide)
theorem law_marks {M : Rat → Prop} {es : ET} {xs : List D} {A b : Nat} (he : Kc es (.tup xs)) (h0 : xs.all (bdD A b) = true) (h1 : 0 < xs.length ∧ xs.length < 1073741824) (hM : ∀ q, Bd A b q → M q) : Law 5 (γ_marks M) (body_marks γ_one γ_draw (γ_frac M) es) := by
  intro ds S R ⟨p, n, e, hw, h8, h⟩
  subst e
  unfold body_marks
  refine seqK fun k hk => ?_
  simp_arith []
  refine ⟨by decide, fun p2 hp2 => ?_⟩
  rw [hk]
  refine seqK fun k hk => ?_
  simp_arith []
  refine ⟨⟨by omega, by omega⟩, ?_⟩
  rw [Int.toNat_natCast]
  have e0 := Ext.refl hw
  refine for_rng (fun i τ S' => ∃ ms x3 x4, Grw M p p2 S S' ms i ∧ τ = [some (.ref p), some (.int n), some (.ref p2), x3, x4]) ⟨[], none, none, ⟨e0.new hp2, e0.own hp2, up_same, rfl, (fun _ h => nomatch h)⟩, rfl⟩ (fun i τ S' K hi ⟨ms, x3, x4, g, hτ⟩ hK => ?_) fun τ S' ⟨ms, x3, x4, g, hτ⟩ => ?_
  · subst hτ
    show gNm 3 (.int i) _ S' _
    simp only [gNm, List.set_cons_succ, List.set_cons_zero]
    refine seqK fun k hk => ?_
    unfold γ_one
    simp_arith []
    apply he
    refine ⟨p, _, _, rfl, rfl, g.ext.well, h1, fun x S1 hx d1 => ?_⟩
    obtain ⟨q, rfl, hq⟩ := bdD_of (List.all_eq_true.mp h0 x hx)
    rw [hk]
    have g1 := g.drw d1
    unfold γ_draw γ_frac
    simp_arith [rs_ref g1.at']
    refine ⟨p, _, rfl, g1.ext.well, by decide, fun r S2 r0 r1 d2 => ?_⟩
    have g2 := g1.drw d2
    simp_arith [pl_int, eqD_int]
    by_cases z : r = 0
    · simp_arith [z, decide_true]
      refine ⟨p, rfl, g2.ext.well, fun q' S3 hq' d3 => ?_⟩
      have g3 := g2.drw d3
      simp_arith [g3.at']
      exact ⟨g3.room (by omega), hK _ _ ⟨_, _, _, g3.add hq', rfl⟩⟩
    · simp_arith [z, decide_false, g2.at']
      exact ⟨g2.room (by omega), hK _ _ ⟨_, _, _, g2.add (hM q hq), rfl⟩⟩
  · subst hτ
    show k _ S'
    rw [hk]
    simp_arith [rs_ref g.at']
    exact g.ext.fin fun S2 d => h ms S2 g.len g.ok d
end Gx

/-! Gx, data side 17: nets of the second family. -/
namespace Gx
open PySem L2
local macro_rules | `(tactic| simp_arith [$xs,*]) => `(tactic| try simp only [eVar, eC, eBin, eUn, tBl, tAnd', tOr', tNot', eAnd, eOr, eNot, eIf, aNil, aCons, eTup, eLst, eLstM, eCall, eCallK, pick, sNext, sSeq, sBreak, sCont, sDrop, sRet, sRetN, sIf, sNever, gNm, gsNil, gsCons, gTupl, gSubs, sAsg, sPar, sPar3, sFor, iSeq, seqG_tup, seqG_lst, seqG_scr, iRange1, iRange2, iEnumG, iZipG, td_tup, td_lst, td_scr, eLc, eLcM, tYes', pNone, pSome, eSl, cu_tup, cu_lst, cu_scr, eMt, eMt0, mAppend, isL, rs_non, rs_bl, rs_int, rs_str, rs_tup, rs_lst', rs_scr, itemsOf_tup, itemsOf_lst, itemsOf_scr, oI, oI0, oSub, oFdiv, oMod, oPow, oShl, oShr, oAnd, oOr, oXor, oLt, oLe, oGt, oGe, oNeg, oIsN, oNotN, Gx.isNon, oAdd, oAdd', oMul, oMul', oMulM, oEq, oNe, oEqS, oNeS, oIn, oNin, eChain, oIx, oSet, cLen, cList, cListM, cTuple, cSum, cAll, cAny, cInt, cAbs, cMax2, cMin2, cDivmod, cGcd, cIsi, cRepr, lstInts, lstBls, startD, wipeD, List.map_cons, List.map_nil, List.length_cons, List.length_nil, List.cons_append, List.nil_append, List.replicate_succ, List.replicate_zero, List.set_cons_succ, List.set_cons_zero, List.getElem?_cons_succ, List.getElem?_cons_zero, List.filterMap_cons_some, List.filterMap_nil, Nat.reduceAdd, Nat.reduceSub, Nat.sub_self, Nat.reduceLT, Nat.reduceMul, Nat.zero_add, Nat.add_zero, if_true, if_false, and_true, true_and, and_false, false_and, or_true, true_or, or_false, false_or, not_true_eq_false, not_false_eq_true, Bool.not_true, Bool.not_false, Bool.false_eq_true, ite_true, ite_false, reduceIte, reduceCtorEq, eq_self, $xs,*])
/-- rows that grow -/
structure Mat (P : Rat → Prop) (n : Nat) (p q : Addr) (S0 S : Sto) (ws : List (List Rat)) (i : Nat) : Prop where
  ext : Ext p S0 S
  own : Own p S0 q
  at' : S q = some (.lst (ws.map encRow))
  len : ws.length = i
  row : ∀ r ∈ ws, r.length = n
  ok : ∀ r ∈ ws, ∀ x ∈ r, P x
  dia : ∀ j, j < i → (ws.getD j []).getD j 0 = 0
theorem Mat.keep {P : Rat → Prop} {n : Nat} {p q : Addr} {S0 S S' : Sto} {ws : List (List Rat)} {i : Nat} (g : Mat P n p q S0 S ws i) (e : Ext p S0 S') (h : S' q = S q) : Mat P n p q S0 S' ws i :=
  ⟨e, g.own, by rw [h]; exact g.at', g.len, g.row, g.ok, g.dia⟩
theorem Mat.add {P : Rat → Prop} {n : Nat} {p q : Addr} {S0 S : Sto} {ws : List (List Rat)} {i : Nat} (g : Mat P n p q S0 S ws i) {r : List Rat} (hr : r.length = n) (hx : ∀ x ∈ r, P x) (hd : r.getD i 0 = 0) : Mat P n p q S0 (up S q (.lst (ws.map encRow ++ [encRow r]))) (ws ++ [r]) (i + 1) :=
  ⟨g.ext.set g.own, g.own, by rw [up_same, List.map_append]; rfl, by rw [List.length_append, g.len]; rfl, fun y hy => by
    rcases List.mem_append.mp hy with hy | hy
    · exact g.row y hy
    · rw [List.mem_singleton] at hy; subst hy; exact hr, fun y hy => by
    rcases List.mem_append.mp hy with hy | hy
    · exact g.ok y hy
    · rw [List.mem_singleton] at hy; subst hy; exact hx, fun j hj => by
    rw [getD_snoc g.len hj]
    split
    · rename_i z; exact g.dia j z
    · have : j = i := by omega
      subst this; exact hd⟩
theorem Mat.net {P M : Rat → Prop} {n : Nat} {p q : Addr} {S0 S : Sto} {ws : List (List Rat)} (g : Mat P n p q S0 S ws n) {ms : List Rat} (hm : ms.length = n) (h1 : 1 ≤ n) (h8 : n ≤ 8) (ok : ∀ x ∈ ms, M x) : (⟨ws, ms⟩ : Net).Ok ∧ Drn P M ⟨ws, ms⟩ :=
  ⟨⟨by show 1 ≤ ms.length; omega, by show ms.length ≤ 8; omega, by show ws.length = ms.length; rw [hm]; exact g.len, fun r hr => by show r.length = ms.length; rw [hm]; exact g.row r hr, fun i hi => g.dia i (by have hi : i < ms.length := hi; omega)⟩, ⟨g.ok, ok⟩⟩
def body_any2 (γ__law_weight γ__law_marks : OL) : ST := sSeq (sAsg (eLstM (aNil)) (gNm 2))
  (sSeq (sFor (iRange1 (aCons (eVar 1) (aNil))) (gNm 3) (sSeq (sAsg (eLstM (aNil)) (gNm 4))
  (sSeq (sFor (iRange1 (aCons (eVar 1) (aNil))) (gNm 5) (sDrop (eMt mAppend (eVar 4) (aCons (eIf (tBl (eBin oNe (eVar 3) (eVar 5))) (eCall γ__law_weight (aCons (eVar 0) (aNil))) (eTup (aCons (eC (.int 0)) (aCons (eC (.int 1)) (aNil))))) (aNil)))))
  (sDrop (eMt mAppend (eVar 2) (aCons (eCall cTuple (aCons (eVar 4) (aNil))) (aNil)))))))
  (sRet (eTup (aCons (eCall cTuple (aCons (eVar 2) (aNil))) (aCons (eCall γ__law_marks (aCons (eVar 0) (aCons (eVar 1) (aNil)))) (aNil))))))
theorem law_any2 {P M : Rat → Prop} (hP : P 0) : Law 6 (γ_net P M) (body_any2 (γ_frac P) (γ_marks M)) := by
  intro ds S R ⟨p, n, e, hw, ⟨h1, h8⟩, h⟩
  subst e
  unfold body_any2
  refine seqK fun k hk => ?_
  simp_arith []
  refine ⟨by decide, fun p2 hp2 => ?_⟩
  rw [hk]
  refine seqK fun k hk => ?_
  simp_arith []
  refine ⟨⟨by omega, by omega⟩, ?_⟩
  rw [Int.toNat_natCast]
  have e0 := Ext.refl hw
  refine for_rng (fun i τ S' => ∃ ws x3 x4 x5, Mat P n p p2 S S' ws i ∧ τ = [some (.ref p), some (.int n), some (.ref p2), x3, x4, x5]) ⟨[], none, none, none, ⟨e0.new hp2, e0.own hp2, up_same, rfl, (fun _ h => nomatch h), (fun _ h => nomatch h), (fun _ h => by omega)⟩, rfl⟩ (fun i τ S' K hi ⟨ws, x3, x4, x5, g, hτ⟩ hK => ?_) fun τ S' ⟨ws, x3, x4, x5, g, hτ⟩ => ?_
  · subst hτ
    show gNm 3 (.int i) _ S' _
    simp only [gNm, List.set_cons_succ, List.set_cons_zero]
    refine seqK fun k hk => ?_
    simp_arith []
    refine ⟨by decide, fun p4 hp4 => ?_⟩
    rw [hk]
    refine seqK fun k hk => ?_
    simp_arith []
    refine ⟨⟨by omega, by omega⟩, ?_⟩
    rw [Int.toNat_natCast]
    have n24 : p2 ≠ p4 := fun z => by rw [← z, g.at'] at hp4; cases hp4
    refine for_rng (fun j τ S'' => ∃ r x5, Grw P p p4 S S'' r j ∧ (i < j → r.getD i 0 = 0) ∧ S'' p2 = S' p2 ∧ τ = [some (.ref p), some (.int n), some (.ref p2), some (.int i), some (.ref p4), x5]) ⟨[], x5, ⟨g.ext.new hp4, g.ext.own hp4, up_same, rfl, (fun _ h => nomatch h)⟩, (fun h => by omega), up_ne n24, rfl⟩ (fun j τ S'' K hj ⟨r, x5, gr, hd, h2, hτ⟩ hK => ?_) fun τ S'' ⟨r, x5, gr, hd, h2, hτ⟩ => ?_
    · subst hτ
      have add : ∀ q S3, P q → (i = j → q = 0) → Drw p S'' S3 → (r.map encR).length < sizeLine ∧ K [some (.ref p), some (.int n), some (.ref p2), some (.int i), some (.ref p4), some (.int j)] (up S3 p4 (.lst (r.map encR ++ [encR q]))) := fun q S3 hq hq0 d => by
        refine ⟨gr.room (by omega), hK _ _ ⟨r ++ [q], _, (gr.drw d).add hq, fun hij => ?_, ?_, rfl⟩⟩
        · rw [getD_snoc gr.len hij]
          split
          · rename_i z; exact hd z
          · exact hq0 (by omega)
        · rw [up_ne n24, d.at g.own.2]; exact h2
      unfold γ_frac
      simp_arith [rs_ref gr.at', pl_int, eqD_nat]
      by_cases z : i = j
      · simp_arith [z, decide_true, gr.at']
        have := add 0 S'' hP (fun _ => rfl) (.refl gr.ext.well)
        rw [← z] at this ⊢
        exact ⟨by decide, this⟩
      · simp_arith [z, decide_false]
        refine ⟨p, rfl, gr.ext.well, fun q S3 hq d => ?_⟩
        simp_arith [(gr.drw d).at']
        exact add q S3 hq (fun y => absurd y z) d
    · subst hτ
      show k _ S''
      rw [hk]
      have g2 := g.keep gr.ext h2
      simp_arith [rs_ref gr.at', rs_ref g2.at', g2.at', List.length_map]
      exact ⟨Nat.lt_of_lt_of_le (m := 1000) (by rw [g2.len]; omega) (by decide), hK _ _ ⟨_, _, _, _, g2.add gr.len gr.ok (hd hi), rfl⟩⟩
  · subst hτ
    show k _ S'
    rw [hk]
    unfold γ_marks
    simp_arith [rs_ref g.at']
    refine ⟨p, n, rfl, g.ext.well, h8, fun ms S2 hm hM d => ⟨by decide, ?_⟩⟩
    obtain ⟨ok, dr⟩ := g.net hm h1 h8 hM
    exact (g.ext.drw d).fin fun S3 d3 => h ⟨ws, ms⟩ S3 ok hm dr d3
/-! ### rows of zeros -/
theorem rep_zero (n : Nat) : (List.replicate n [D.tup [.int 0, .int 1]]).flatten = (List.replicate n (0 : Rat)).map encR := by
  induction n with
  | zero => rfl
  | succ n ih => rw [List.replicate_succ, List.flatten_cons, ih, List.replicate_succ]; rfl
/-- [[(0, 1)] * few for at in range(few)] -/
theorem zeros_new {p : Addr} {S0 : Sto} {vs : List Nat} {τ : Tau} {Z : List D → Sto → Prop} {te : ET} {g : TG'} {n : Nat}
    (hte : ∀ (i : Nat) (S : Sto) (Q : QD), (∀ q, S q = none → Q (.ref q) (up S q (.lst ((List.replicate n (0 : Rat)).map encR)))) → g (.int i) (wipeD τ vs) S fun τ2 S2 => te τ2 S2 Q) :
    ∀ (m i : Nat) (qs : List Addr) (ws : List (List Rat)) (S : Sto), qs.length + m ≤ 1000 → RowsAt p S0 qs S ws → Ext p S0 S →
    (∀ (qs' : List Addr) (S' : Sto), RowsAt p S0 qs' S' (ws ++ List.replicate m (List.replicate n 0)) → Ext p S0 S' → (∀ q ∈ qs, q ∈ qs') → (∀ q ∈ qs', q ∈ qs ∨ S q = none) → (∀ b, b ∉ qs' → S' b = S b) → Z (refs qs') S') →
    cmpG g tYes' te (fun _ => True) vs τ Z (rngD i m) (refs qs) S
  | 0, i, qs, ws, S, _, a, e, h => ⟨trivial, h qs S (by rw [List.replicate_zero, List.append_nil]; exact a) e (fun _ h => h) (fun _ h => .inl h) (fun _ _ => rfl)⟩
  | m + 1, i, qs, ws, S, hl, a, e, h => by
    refine ⟨trivial, ?_⟩
    have e1 : ((i : Int) + 1) = ((i + 1 : Nat) : Int) := by omega
    have hx := hte i S (fun y S4 => (refs qs).length < sizeLine ∧ cmpG g tYes' te (fun _ => True) vs τ Z (rngD ((i : Int) + 1) m) (refs qs ++ [y]) S4) fun q hq => by
      refine ⟨Nat.lt_of_lt_of_le (m := 1000) (by unfold refs; rw [List.length_map]; omega) (by decide), ?_⟩
      have hn : ∀ x ∈ qs, x ≠ q := fun x hx z => by
        subst z
        obtain ⟨i, hi, e⟩ := List.getElem_of_mem hx
        have := a.row i hi
        rw [getD_eq hi, e, hq] at this
        cases this
      have e2 : refs qs ++ [.ref q] = refs (qs ++ [q]) := by unfold refs; rw [List.map_append]; rfl
      rw [e2, e1]
      refine zeros_new hte m (i + 1) (qs ++ [q]) (ws ++ [List.replicate n 0]) _ (by rw [List.length_append, List.length_singleton]; omega) ⟨?_, ?_, ?_, ?_⟩ (e.new hq) fun qs' S' a' e' hm hn' hb' => ?_
      · rw [List.length_append, List.length_append, a.len]; rfl
      · rw [List.nodup_append]
        refine ⟨a.nd, by simp, fun x hx y hy => ?_⟩
        rw [List.mem_singleton] at hy
        subst hy
        exact hn x hx
      · intro i hi
        rw [List.length_append, List.length_singleton] at hi
        rw [getD_snoc rfl hi, getD_snoc a.len.symm hi]
        split
        · rename_i z
          rw [up_ne (hn _ (getD_mem z))]
          exact a.row i z
        · rw [up_same]
      · intro x hx
        rcases List.mem_append.mp hx with hx | hx
        · exact a.own x hx
        · rw [List.mem_singleton] at hx; subst hx; exact e.own hq
      · refine h qs' S' (by rw [List.append_assoc] at a'; exact a') e' (fun x hx => hm x (List.mem_append_left _ hx)) (fun x hx => ?_) fun b hb => ?_
        · rcases hn' x hx with z | z
          · rcases List.mem_append.mp z with z | z
            · exact .inl z
            · rw [List.mem_singleton] at z; subst z; exact .inr hq
          · right
            by_cases y : x = q
            · subst y; exact hq
            · rw [up_ne y] at z; exact z
        · rw [hb' b hb, up_ne]
          intro z
          exact hb (hm b (by rw [z]; simp))
    simpa only [tYes', if_true] using hx
end Gx

/-! Gx, data side 18: rows of zeros that are filled: nets with scales, wheels. -/
namespace Gx
open PySem L2
local macro_rules | `(tactic| simp_arith [$xs,*]) => `(tactic| try simp only [eVar, eC, eBin, eUn, tBl, tAnd', tOr', tNot', eAnd, eOr, eNot, eIf, aNil, aCons, eTup, eLst, eLstM, eCall, eCallK, pick, sNext, sSeq, sBreak, sCont, sDrop, sRet, sRetN, sIf, sNever, gNm, gsNil, gsCons, gTupl, gSubs, sAsg, sPar, sPar3, sFor, iSeq, seqG_tup, seqG_lst, seqG_scr, iRange1, iRange2, iEnumG, iZipG, td_tup, td_lst, td_scr, eLc, eLcM, tYes', pNone, pSome, eSl, cu_tup, cu_lst, cu_scr, eMt, eMt0, mAppend, isL, rs_non, rs_bl, rs_int, rs_str, rs_tup, rs_lst', rs_scr, itemsOf_tup, itemsOf_lst, itemsOf_scr, oI, oI0, oSub, oFdiv, oMod, oPow, oShl, oShr, oAnd, oOr, oXor, oLt, oLe, oGt, oGe, oNeg, oIsN, oNotN, Gx.isNon, oAdd, oAdd', oMul, oMul', oMulM, oEq, oNe, oEqS, oNeS, oIn, oNin, eChain, oIx, oSet, cLen, cList, cListM, cTuple, cSum, cAll, cAny, cInt, cAbs, cMax2, cMin2, cDivmod, cGcd, cIsi, cRepr, lstInts, lstBls, startD, wipeD, List.map_cons, List.map_nil, List.length_cons, List.length_nil, List.cons_append, List.nil_append, List.replicate_succ, List.replicate_zero, List.set_cons_succ, List.set_cons_zero, List.getElem?_cons_succ, List.getElem?_cons_zero, List.filterMap_cons_some, List.filterMap_nil, Nat.reduceAdd, Nat.reduceSub, Nat.sub_self, Nat.reduceLT, Nat.reduceMul, Nat.zero_add, Nat.add_zero, if_true, if_false, and_true, true_and, and_false, false_and, or_true, true_or, or_false, false_or, not_true_eq_false, not_false_eq_true, Bool.not_true, Bool.not_false, Bool.false_eq_true, ite_true, ite_false, reduceIte, reduceCtorEq, eq_self, $xs,*])
def ent (ws : List (List Rat)) (i j : Nat) : Rat := (ws.getD i []).getD j 0
structure Sq (n : Nat) (ws : List (List Rat)) : Prop where
  len : ws.length = n
  row : ∀ r ∈ ws, r.length = n
theorem Sq.at {n : Nat} {ws : List (List Rat)} (s : Sq n ws) {i : Nat} (hi : i < n) : (ws.getD i []).length = n := s.row _ (getD_mem (by rw [s.len]; exact hi))
def putW (ws : List (List Rat)) (a t : Nat) (v : Rat) : List (List Rat) := ws.set a ((ws.getD a []).set t v)
theorem Sq.put {n : Nat} {ws : List (List Rat)} (s : Sq n ws) {a t : Nat} (ha : a < n) (v : Rat) : Sq n (putW ws a t v) := by
  refine ⟨by unfold putW; rw [List.length_set]; exact s.len, fun r hr => ?_⟩
  rcases List.mem_or_eq_of_mem_set hr with hr | rfl
  · exact s.row r hr
  · rw [List.length_set]; exact s.at ha
theorem ent_put {n : Nat} {ws : List (List Rat)} (s : Sq n ws) {a t : Nat} (ha : a < n) (ht : t < n) (v : Rat) (i j : Nat) : ent (putW ws a t v) i j = if a = i ∧ t = j then v else ent ws i j := by
  unfold ent putW
  rw [getD_set (by rw [s.len]; exact ha)]
  by_cases z : a = i
  · subst z
    rw [if_pos rfl, getD_set (by rw [s.at ha]; exact ht)]
    by_cases y : t = j
    · subst y; rw [if_pos rfl, if_pos ⟨rfl, rfl⟩]
    · rw [if_neg y, if_neg (show ¬ (a = a ∧ t = j) from fun c => y c.2)]
  · rw [if_neg z, if_neg (show ¬ (a = i ∧ t = j) from fun c => z c.1)]
theorem ent_mem {n : Nat} {ws : List (List Rat)} (s : Sq n ws) {P : Rat → Prop} (h : ∀ i j, i < n → j < n → P (ent ws i j)) : ∀ r ∈ ws, ∀ x ∈ r, P x := fun r hr x hx => by
  obtain ⟨i, hi, rfl⟩ := List.getElem_of_mem hr
  obtain ⟨j, hj, rfl⟩ := List.getElem_of_mem hx
  have := h i j (by rw [← s.len]; exact hi) (by rw [← s.row _ hr]; exact hj)
  unfold ent at this
  rw [getD_eq hi, getD_eq hj] at this
  exact this
theorem sq_zero (n : Nat) : Sq n (List.replicate n (List.replicate n 0)) := ⟨List.length_replicate, fun r hr => by rw [List.eq_of_mem_replicate hr, List.length_replicate]⟩
theorem ent_zero (n i j : Nat) : ent (List.replicate n (List.replicate n 0)) i j = 0 := by
  unfold ent
  rw [List.getD_eq_getElem?_getD, List.getD_eq_getElem?_getD, List.getElem?_replicate]
  split
  · show (List.replicate n (0 : Rat))[j]?.getD 0 = 0
    rw [List.getElem?_replicate]
    split <;> rfl
  · rfl
theorem RowsAt.put {p : Addr} {S0 S : Sto} {qs : List Addr} {ws : List (List Rat)} (a : RowsAt p S0 qs S ws) {i t : Nat} (hi : i < qs.length) (v : Rat) : RowsAt p S0 qs (up S (qs.getD i 0) (.lst (((ws.getD i []).set t v).map encR))) (putW ws i t v) := a.set hi _
/-- tuple(row) for each row -/
theorem rows_out {p p3 : Addr} {S0 S : Sto} {qs : List Addr} {ws : List (List Rat)} {vs : List Nat} {τ : Tau} {Z : List D → Sto → Prop} {te : ET} {g : TG'} (ra : RowsAt p S0 qs S ws) (h3 : S p3 = some (.lst (refs qs))) (hl : ws.length ≤ 1000)
    (hte : ∀ (q : Addr) (r : List Rat) (Q : QD), S q = some (.lst (r.map encR)) → Q (encRow r) S → g (.ref q) (wipeD τ vs) S fun τ2 S2 => te τ2 S2 Q) (h : Z (ws.map encRow) S) :
    cmpG g tYes' te (fun S' => S' p3 = some (.lst (refs qs))) vs τ Z (refs qs) [] S := by
  have ez : refs qs = (List.zip qs ws).map fun z => D.ref z.1 := by
    unfold refs
    rw [← List.map_fst_zip (l₁ := qs) (l₂ := ws) (by rw [ra.len]; exact Nat.le_refl _), List.map_map, List.map_fst_zip (by rw [ra.len]; exact Nat.le_refl _)]; rfl
  have e2z : (List.zip qs ws).map (fun z => encRow z.2) = ws.map encRow := by
    have := List.map_snd_zip (l₁ := qs) (l₂ := ws) (by rw [ra.len]; exact Nat.le_refl _)
    conv => rhs; rw [← this]
    rw [List.map_map]; rfl
  have lz : (List.zip qs ws).length ≤ 1000 := by rw [List.length_zip]; omega
  rw [ez] at h3 ⊢
  refine lc_map (α := Addr × List Rat) (fun z => .ref z.1) (fun z => encRow z.2) (List.zip qs ws) [] (fun z hz Q hQ => hte _ _ Q (ra.zip hz) hQ) h3 (sz1000 (by rw [List.length_nil]; omega)) ?_
  rw [List.nil_append, e2z]
  exact h
/-- where it begins: rows of zeros, a list of them -/
structure Fil (n : Nat) (p p3 : Addr) (qs : List Addr) (S0 S : Sto) (ws : List (List Rat)) : Prop where
  ext : Ext p S0 S
  rows : RowsAt p S0 qs S ws
  own : Own p S0 p3
  nin : p3 ∉ qs
  at' : S p3 = some (.lst (refs qs))
  sq : Sq n ws
theorem Fil.len {n : Nat} {p p3 : Addr} {qs : List Addr} {S0 S : Sto} {ws : List (List Rat)} (f : Fil n p p3 qs S0 S ws) : qs.length = n := by rw [f.rows.len, f.sq.len]
theorem Fil.qown {n : Nat} {p p3 : Addr} {qs : List Addr} {S0 S : Sto} {ws : List (List Rat)} (f : Fil n p p3 qs S0 S ws) {i : Nat} (hi : i < n) : Own p S0 (qs.getD i 0) := f.rows.own _ (getD_mem (by rw [f.len]; exact hi))
theorem Fil.drw {n : Nat} {p p3 : Addr} {qs : List Addr} {S0 S S' : Sto} {ws : List (List Rat)} (f : Fil n p p3 qs S0 S ws) (d : Drw p S S') : Fil n p p3 qs S0 S' ws :=
  ⟨f.ext.drw d, f.rows.same fun q hq => d.at (f.rows.own q hq).2, f.own, f.nin, by rw [d.at f.own.2]; exact f.at', f.sq⟩
theorem Fil.other {n : Nat} {p p3 q : Addr} {qs : List Addr} {S0 S : Sto} {ws : List (List Rat)} (f : Fil n p p3 qs S0 S ws) (o : SO) (hq : Own p S0 q) (h3 : q ≠ p3) (hn : q ∉ qs) : Fil n p p3 qs S0 (up S q o) ws :=
  ⟨f.ext.set hq, f.rows.same fun x hx => up_ne fun z => hn (by rw [← z]; exact hx), f.own, f.nin, by rw [up_ne (Ne.symm h3)]; exact f.at', f.sq⟩
theorem Fil.put {n : Nat} {p p3 : Addr} {qs : List Addr} {S0 S : Sto} {ws : List (List Rat)} (f : Fil n p p3 qs S0 S ws) {a t : Nat} (ha : a < n) (v : Rat) : Fil n p p3 qs S0 (up S (qs.getD a 0) (.lst (((ws.getD a []).set t v).map encR))) (putW ws a t v) := by
  have q : qs.getD a 0 ∈ qs := getD_mem (by rw [f.len]; exact ha)
  exact ⟨f.ext.set (f.qown ha), f.rows.put (by rw [f.len]; exact ha) v, f.own, f.nin, by rw [up_ne fun z => f.nin (by rw [z]; exact q)]; exact f.at', f.sq.put ha v⟩
theorem Fil.ix {n : Nat} {p p3 : Addr} {qs : List Addr} {S0 S : Sto} {ws : List (List Rat)} (f : Fil n p p3 qs S0 S ws) {a : Nat} (ha : a < n) : L2.atI (qs.map D.ref) (a : Int) = some (.ref (qs.getD a 0)) := atI_mapD 0 (by rw [f.len]; exact ha)
theorem Fil.rat {n : Nat} {p p3 : Addr} {qs : List Addr} {S0 S : Sto} {ws : List (List Rat)} (f : Fil n p p3 qs S0 S ws) {a : Nat} (ha : a < n) : S (qs.getD a 0) = some (.lst ((ws.getD a []).map encR)) := f.rows.row a (by rw [f.len]; exact ha)
theorem Fil.ix2 {n : Nat} {p p3 : Addr} {qs : List Addr} {S0 S : Sto} {ws : List (List Rat)} (f : Fil n p p3 qs S0 S ws) {a t : Nat} (ha : a < n) (ht : t < n) : ixN ((ws.getD a []).map encR).length (t : Int) = some t := by
  unfold ixN
  rw [List.length_map, f.sq.at ha, if_pos (by omega), if_pos (by omega), Int.toNat_natCast]
/-! ### wheels -/
def body_wheel (γ__law_one : OL) (es : ET) : ST := sSeq (sPar 3 4 (aCons (eLcM (iRange1 (aCons (eVar 1) (aNil))) (gNm 2) (tYes') (eBin oMulM (eLst (aCons (eTup (aCons (eC (.int 0)) (aCons (eC (.int 1)) (aNil)))) (aNil))) (eVar 1)) [2]) (aCons (eLstM (aNil)) (aNil))))
  (sSeq (sFor (iRange1 (aCons (eVar 1) (aNil))) (gNm 2) (sSeq (sAsg (eCall γ__law_one (aCons (eVar 0) (aCons es (aNil)))) (gNm 5))
  (sSeq (sAsg (eTup (aCons (eIf (tBl (eBin oGt (eVar 1) (eC (.int 1)))) (eVar 5) (eC (.int 0))) (aCons (eC (.int 1)) (aNil)))) (gSubs (eBin oIx (eVar 3) (eVar 2)) (eBin oMod (eCall cInt (aCons (eBin oAdd (eVar 2) (eC (.int 1))) (aNil))) (eVar 1)) oSet))
  (sDrop (eMt mAppend (eVar 4) (aCons (eTup (aCons (eVar 5) (aCons (eC (.int 2)) (aNil)))) (aNil)))))))
  (sRet (eTup (aCons (eCall cTuple (aCons (eLc (iSeq (eVar 3)) (gNm 6) (tYes') (eCall cTuple (aCons (eVar 6) (aNil))) [6]) (aNil))) (aCons (eCall cTuple (aCons (eVar 4) (aNil))) (aNil))))))
/-- a drawn net of at least two cells -/
def γ_wheel (P M : Rat → Prop) : OL := fun ds S R => ∃ (p : Addr) (n : Nat), ds = [.ref p, .int n] ∧ Well p S ∧ (1 ≤ n ∧ n ≤ 8) ∧ ∀ N S', N.Ok → N.n = n → Drn P M N → Drw p S S' → R (encN N) S'
theorem law_wheel {es : ET} {xs : List Int} (he : Kc es (.tup (xs.map .int))) (hx : ∀ x ∈ xs, x = 1 ∨ x = -1) (lx : 0 < xs.length ∧ xs.length < 1073741824) : Law 7 (γ_wheel (Bd 1 1) (Bd 1 2)) (body_wheel γ_one es) := by
  intro ds S R ⟨p, n, e, hw, ⟨h2, h8⟩, h⟩
  subst e
  have e0 := Ext.refl hw
  unfold body_wheel
  refine seqK fun k hk => ?_
  simp_arith []
  refine ⟨⟨by omega, by omega⟩, ?_⟩
  rw [Int.toNat_natCast]
  refine zeros_new (S0 := S) (n := n) (fun i S1 Q hQ => ?_) n 0 [] [] S (by rw [List.length_nil]; omega) ⟨rfl, List.nodup_nil, (fun i hi => by simp at hi), (fun _ h => nomatch h)⟩ e0 (fun qs S1 ra ex _ hnew _ => ?_)
  · simp_arith [wipeD, Int.toNat_natCast]
    rw [rep_zero]
    refine ⟨by decide, by decide, ⟨by omega, by omega, Nat.le_trans (m := 1000) (by omega) (by decide)⟩, hQ⟩
  · intro p3 hp3
    refine ⟨by decide, fun p4 hp4 => ?_⟩
    rw [List.nil_append] at ra
    have n3 : p3 ∉ qs := fun z => by
      obtain ⟨i, hi, e⟩ := List.getElem_of_mem z
      have := ra.row i hi
      rw [getD_eq hi, e, hp3] at this
      cases this
    have f0 : Fil n p p3 qs S (up S1 p3 (.lst (refs qs))) (List.replicate n (List.replicate n 0)) := ⟨ex.new hp3, ra.same fun q hq => up_ne fun z => n3 (by rw [← z]; exact hq), ex.own hp3, n3, up_same, sq_zero n⟩
    have n34 : p4 ≠ p3 := fun z => by rw [z, up_same] at hp4; cases hp4
    have n4 : p4 ∉ qs := fun z => by
      obtain ⟨i, hi, e⟩ := List.getElem_of_mem z
      have := f0.rows.row i hi
      rw [getD_eq hi, e, hp4] at this
      cases this
    have o4 := f0.ext.own hp4
    have f1 := f0.other (.lst []) o4 n34 n4
    have gr0 : Grw (Bd 1 2) p p4 S (up (up S1 p3 (.lst (refs qs))) p4 (.lst [])) [] 0 := ⟨f1.ext, o4, up_same, rfl, (fun _ h => nomatch h)⟩
    rw [hk]
    refine seqK fun k hk => ?_
    simp_arith []
    refine ⟨⟨by omega, by omega⟩, ?_⟩
    rw [Int.toNat_natCast]
    refine for_rng (fun i τ S' => ∃ ws ms x2 x5, Fil n p p3 qs S S' ws ∧ Grw (Bd 1 2) p p4 S S' ms i ∧ (∀ a b, a < n → b < n → Bd 1 1 (ent ws a b)) ∧ (∀ a, a < n → ent ws a a = 0) ∧ τ = [some (.ref p), some (.int n), x2, some (.ref p3), some (.ref p4), x5, none])
      ⟨_, [], none, none, f1, gr0, (fun a b _ _ => by rw [ent_zero]; exact ⟨by decide, by decide⟩), (fun a _ => ent_zero n a a), rfl⟩ (fun i τ S' K hi ⟨ws, ms, x2, x5, f, gr, hb, hd, hτ⟩ hK => ?_) fun τ S' ⟨ws, ms, x2, x5, f, gr, hb, hd, hτ⟩ => ?_
    · subst hτ
      show gNm 2 (.int i) _ S' _
      simp only [gNm, List.set_cons_succ, List.set_cons_zero]
      refine seqK fun k hk => ?_
      unfold γ_one
      simp_arith []
      apply he
      refine ⟨p, _, _, rfl, rfl, f.ext.well, by rw [List.length_map]; exact lx, fun x S2 hx2 d => ?_⟩
      obtain ⟨g, hg, rfl⟩ := List.mem_map.mp hx2
      have f2 := f.drw d
      have gr2 := gr.drw d
      rw [hk]
      refine seqK fun k hk => ?_
      by_cases n1 : (1 : Int) < n
      · have hm : ((i : Int) + 1).fmod n = (((i + 1) % n : Nat) : Int) := by
          rw [Int.fmod_eq_emod_of_nonneg _ (by omega)]; rfl
        have hlt : (i + 1) % n < n := Nat.mod_lt _ (by omega)
        have hne : i ≠ (i + 1) % n := by
          by_cases y : i + 1 < n
          · rw [Nat.mod_eq_of_lt y]; omega
          · have : i + 1 = n := by omega
            rw [this, Nat.mod_self]; omega
        have at3 : S2 p3 = some (.lst (qs.map D.ref)) := f2.at'
        simp_arith [n1, decide_true, hm, rs_ref at3, f2.ix hi, f2.rat hi, f2.ix2 hi hlt]
        refine ⟨by decide, by omega, ?_⟩
        have ge : D.tup [.int g, .int 1] = encR (g : Rat) := by
          unfold encR
          rw [Rat.num_intCast, Rat.den_intCast]; rfl
        have gb : Bd 1 1 (g : Rat) := ⟨by rw [Rat.num_intCast, Rat.den_intCast]; rcases hx g hg with rfl | rfl <;> decide, by rw [Rat.den_intCast]; decide⟩
        have me : ((ws.getD i []).map encR).set ((i + 1) % n) (encR (g : Rat)) = ((ws.getD i []).set ((i + 1) % n) (g : Rat)).map encR := by rw [List.map_set]
        rw [ge, me, hk]
        have f3 := f2.put (t := (i + 1) % n) hi (g : Rat)
        have r4 : up S2 (qs.getD i 0) (.lst (((ws.getD i []).set ((i + 1) % n) (g : Rat)).map encR)) p4 = some (.lst (ms.map encR)) := by
          rw [up_ne fun z => n4 (by rw [z]; exact getD_mem (by rw [f2.len]; exact hi))]
          exact gr2.at'
        have gr3 : Grw (Bd 1 2) p p4 S (up S2 (qs.getD i 0) (.lst (((ws.getD i []).set ((i + 1) % n) (g : Rat)).map encR))) ms i := ⟨f3.ext, gr2.own, r4, gr2.len, gr2.ok⟩
        obtain ⟨q, hq, hqb⟩ : ∃ q, D.tup [.int g, .int 2] = encR q ∧ Bd 1 2 q := bdD_of (by rcases hx g hg with rfl | rfl <;> decide)
        simp_arith [rs_ref gr3.at', gr3.at', hq]
        refine ⟨by decide, gr3.room (by omega), hK _ _ ⟨_, _, _, _, f3.other _ gr3.own n34 n4, gr3.add hqb, (fun a b ha hb' => ?_), (fun a ha => ?_), rfl⟩⟩
        · rw [ent_put f2.sq hi hlt]
          split
          · exact gb
          · exact hb a b ha hb'
        · rw [ent_put f2.sq hi hlt, if_neg (show ¬ (i = a ∧ (i + 1) % n = a) from fun c => hne (c.1.trans c.2.symm))]
          exact hd a ha
      · have hm : ((i : Int) + 1).fmod n = (((i + 1) % n : Nat) : Int) := by
          rw [Int.fmod_eq_emod_of_nonneg _ (by omega)]; rfl
        have hlt : (i + 1) % n < n := Nat.mod_lt _ (by omega)
        have at3 : S2 p3 = some (.lst (qs.map D.ref)) := f2.at'
        simp_arith [n1, decide_false, hm, rs_ref at3, f2.ix hi, f2.rat hi, f2.ix2 hi hlt]
        refine ⟨by decide, by omega, ?_⟩
        have ge : D.tup [.int 0, .int 1] = encR (0 : Rat) := rfl
        have gb : Bd 1 1 (0 : Rat) := ⟨by decide, by decide⟩
        have me : ((ws.getD i []).map encR).set ((i + 1) % n) (encR (0 : Rat)) = ((ws.getD i []).set ((i + 1) % n) (0 : Rat)).map encR := by rw [List.map_set]
        rw [ge, me, hk]
        have f3 := f2.put (t := (i + 1) % n) hi (0 : Rat)
        have r4 : up S2 (qs.getD i 0) (.lst (((ws.getD i []).set ((i + 1) % n) (0 : Rat)).map encR)) p4 = some (.lst (ms.map encR)) := by
          rw [up_ne fun z => n4 (by rw [z]; exact getD_mem (by rw [f2.len]; exact hi))]
          exact gr2.at'
        have gr3 : Grw (Bd 1 2) p p4 S (up S2 (qs.getD i 0) (.lst (((ws.getD i []).set ((i + 1) % n) (0 : Rat)).map encR))) ms i := ⟨f3.ext, gr2.own, r4, gr2.len, gr2.ok⟩
        obtain ⟨q, hq, hqb⟩ : ∃ q, D.tup [.int g, .int 2] = encR q ∧ Bd 1 2 q := bdD_of (by rcases hx g hg with rfl | rfl <;> decide)
        simp_arith [rs_ref gr3.at', gr3.at', hq]
        refine ⟨by decide, gr3.room (by omega), hK _ _ ⟨_, _, _, _, f3.other _ gr3.own n34 n4, gr3.add hqb, (fun a b ha hb' => ?_), (fun a ha => ?_), rfl⟩⟩
        · rw [ent_put f2.sq hi hlt]
          split
          · exact gb
          · exact hb a b ha hb'
        · rw [ent_put f2.sq hi hlt]
          split
          · rfl
          · exact hd a ha
    · subst hτ
      show k _ S'
      rw [hk]
      have at3 : S' p3 = some (.lst (refs qs)) := f.at'
      simp_arith [seqG_ref at3]
      refine rows_out f.rows at3 (by rw [f.sq.len]; omega) (fun q r Q hq hQ => ?_) ?_
      · simp_arith [wipeD, rs_ref hq]
        exact hQ
      · simp_arith [rs_ref gr.at']
        refine ⟨by decide, ?_⟩
        have len := gr.len
        refine f.ext.fin fun S2 d => h ⟨ws, ms⟩ S2 ⟨by show 1 ≤ ms.length; omega, by show ms.length ≤ 8; omega, by show ws.length = ms.length; rw [len]; exact f.sq.len, fun r hr => by show r.length = ms.length; rw [len]; exact f.sq.row r hr, fun i hi => hd i (by have hi : i < ms.length := hi; omega)⟩ len ⟨ent_mem f.sq hb, gr.ok⟩ d
end Gx

/-! Gx, data side 19: nets with scales, the second family. -/
namespace Gx
open PySem L2
local macro_rules | `(tactic| simp_arith [$xs,*]) => `(tactic| try simp only [eVar, eC, eBin, eUn, tBl, tAnd', tOr', tNot', eAnd, eOr, eNot, eIf, aNil, aCons, eTup, eLst, eLstM, eCall, eCallK, pick, sNext, sSeq, sBreak, sCont, sDrop, sRet, sRetN, sIf, sNever, gNm, gsNil, gsCons, gTupl, gSubs, sAsg, sPar, sPar3, sFor, iSeq, seqG_tup, seqG_lst, seqG_scr, iRange1, iRange2, iEnumG, iZipG, td_tup, td_lst, td_scr, eLc, eLcM, tYes', pNone, pSome, eSl, cu_tup, cu_lst, cu_scr, eMt, eMt0, mAppend, isL, rs_non, rs_bl, rs_int, rs_str, rs_tup, rs_lst', rs_scr, itemsOf_tup, itemsOf_lst, itemsOf_scr, oI, oI0, oSub, oFdiv, oMod, oPow, oShl, oShr, oAnd, oOr, oXor, oLt, oLe, oGt, oGe, oNeg, oIsN, oNotN, Gx.isNon, oAdd, oAdd', oMul, oMul', oMulM, oEq, oNe, oEqS, oNeS, oIn, oNin, eChain, oIx, oSet, cLen, cList, cListM, cTuple, cSum, cAll, cAny, cInt, cAbs, cMax2, cMin2, cDivmod, cGcd, cIsi, cRepr, lstInts, lstBls, startD, wipeD, List.map_cons, List.map_nil, List.length_cons, List.length_nil, List.cons_append, List.nil_append, List.replicate_succ, List.replicate_zero, List.set_cons_succ, List.set_cons_zero, List.getElem?_cons_succ, List.getElem?_cons_zero, List.filterMap_cons_some, List.filterMap_nil, Nat.reduceAdd, Nat.reduceSub, Nat.sub_self, Nat.reduceLT, Nat.reduceMul, Nat.zero_add, Nat.add_zero, if_true, if_false, and_true, true_and, and_false, false_and, or_true, true_or, or_false, false_or, not_true_eq_false, not_false_eq_true, Bool.not_true, Bool.not_false, Bool.false_eq_true, ite_true, ite_false, reduceIte, reduceCtorEq, eq_self, $xs,*])
/-- a net that its scales fit -/
def γ_scaled2 : OL := fun ds S R => ∃ (p : Addr) (n : Nat), ds = [.ref p, .int n] ∧ Well p S ∧ (1 ≤ n ∧ n ≤ 8) ∧
  ∀ N sc S', N.Ok → N.n = n → Drn (Bd 2000000 8) (Bd 1000000 6) N → Scd N sc → (∀ q ∈ sc, Scl q) → Drw p S S' → R (.tup [encN N, encRow sc]) S'
def body_scaled2 (γ__law_draw γ__law_one γ__law_weight γ__law_over γ__law_marks : OL) (es : ET) : ST := sSeq (sPar 4 5 (aCons (eLstM (aNil)) (aCons (eLcM (iRange1 (aCons (eVar 1) (aNil))) (gNm 3) (tYes') (eBin oMulM (eLst (aCons (eTup (aCons (eC (.int 0)) (aCons (eC (.int 1)) (aNil)))) (aNil))) (eVar 1)) [3]) (aNil))))
  (sSeq (sAsg (eBin oEq (eCall γ__law_draw (aCons (eVar 0) (aCons (eC (.int 2)) (aNil)))) (eC (.int 0))) (gNm 2))
  (sSeq (sFor (iRange1 (aCons (eVar 1) (aNil))) (gNm 3) (sDrop (eMt mAppend (eVar 4) (aCons (eIf (tBl (eVar 2)) (eTup (aCons (eC (.int 1)) (aCons (eC (.int 1)) (aNil)))) (eCall γ__law_one (aCons (eVar 0) (aCons es (aNil))))) (aNil)))))
  (sSeq (sFor (iRange1 (aCons (eVar 1) (aNil))) (gNm 3) (sFor (iRange1 (aCons (eVar 3) (aNil))) (gNm 6) (sSeq (sAsg (eCall γ__law_weight (aCons (eVar 0) (aNil))) (gNm 7))
  (sSeq (sAsg (eCall γ__law_over (aCons (eVar 7) (aCons (eBin oIx (eVar 4) (eVar 3)) (aNil)))) (gSubs (eBin oIx (eVar 5) (eVar 3)) (eVar 6) oSet))
  (sAsg (eCall γ__law_over (aCons (eVar 7) (aCons (eBin oIx (eVar 4) (eVar 6)) (aNil)))) (gSubs (eBin oIx (eVar 5) (eVar 6)) (eVar 3) oSet))))))
  (sRet (eTup (aCons (eTup (aCons (eCall cTuple (aCons (eLc (iSeq (eVar 5)) (gNm 8) (tYes') (eCall cTuple (aCons (eVar 8) (aNil))) [8]) (aNil))) (aCons (eCall γ__law_marks (aCons (eVar 0) (aCons (eVar 1) (aNil)))) (aNil)))) (aCons (eCall cTuple (aCons (eVar 4) (aNil))) (aNil))))))))
theorem one_scl : Scl 1 := ⟨by decide, ⟨by decide, by decide⟩, by
  have : (1 : Rat)⁻¹ = 1 := by grind
  rw [this]
  exact ⟨by decide, by decide⟩⟩
/-- what holds while ties are put in -/
structure Tied (n : Nat) (sc : List Rat) (ws : List (List Rat)) : Prop where
  bd : ∀ a b, a < n → b < n → Bd 2000000 8 (ent ws a b)
  dia : ∀ a, a < n → ent ws a a = 0
  sym : ∀ a b, a < n → b < n → sc.getD a 0 * ent ws a b = sc.getD b 0 * ent ws b a
theorem Tied.put {n : Nat} {sc : List Rat} {ws : List (List Rat)} (t : Tied n sc ws) (s : Sq n ws) {a b : Nat} (ha : a < n) (hb : b < n) (hab : a ≠ b) {x : Rat} (hx : Bd 1000000 6 x) (sa : Scl (sc.getD a 0)) (sb : Scl (sc.getD b 0)) :
    Tied n sc (putW (putW ws a b (x / sc.getD a 0)) b a (x / sc.getD b 0)) := by
  have s1 := s.put (t := b) ha (x / sc.getD a 0)
  have e : ∀ i j, ent (putW (putW ws a b (x / sc.getD a 0)) b a (x / sc.getD b 0)) i j = if b = i ∧ a = j then x / sc.getD b 0 else if a = i ∧ b = j then x / sc.getD a 0 else ent ws i j := fun i j => by
    rw [ent_put s1 hb ha, ent_put s ha hb]
  have bv : ∀ q, Scl q → Bd 2000000 8 (x / q) := fun q hq => by
    rw [Rat.div_def]
    exact (bd_mul hx hq.inv).mono (by decide) (by decide)
  have na := sa.ne
  have nb := sb.ne
  refine ⟨fun i j hi hj => ?_, fun i hi => ?_, fun i j hi hj => ?_⟩
  · rw [e]
    split
    · exact bv _ sb
    · split
      · exact bv _ sa
      · exact t.bd i j hi hj
  · rw [e, if_neg (show ¬ (b = i ∧ a = i) from fun c => hab (c.2.trans c.1.symm)), if_neg (show ¬ (a = i ∧ b = i) from fun c => hab (c.1.trans c.2.symm))]
    exact t.dia i hi
  · rw [e, e]
    by_cases z : b = i ∧ a = j
    · obtain ⟨rfl, rfl⟩ := z
      rw [if_pos ⟨rfl, rfl⟩, if_neg (show ¬ (b = a ∧ a = b) from fun c => hab c.2), if_pos ⟨rfl, rfl⟩]
      generalize sc.getD a 0 = u at *
      generalize sc.getD b 0 = v at *
      grind
    · rw [if_neg z]
      by_cases y : a = i ∧ b = j
      · obtain ⟨rfl, rfl⟩ := y
        rw [if_pos ⟨rfl, rfl⟩, if_pos ⟨rfl, rfl⟩]
        generalize sc.getD a 0 = u at *
        generalize sc.getD b 0 = v at *
        grind
      · rw [if_neg y, if_neg (show ¬ (b = j ∧ a = i) from fun c => y ⟨c.2, c.1⟩), if_neg (show ¬ (a = j ∧ b = i) from fun c => z ⟨c.2, c.1⟩)]
        exact t.sym i j hi hj
theorem over_ok {x : Rat} {q : Rat} (hx : Bd 1000000 6 x) (hq : Scl q) : Big x ∧ Big q ∧ q ≠ 0 ∧ Sz 4000 400000 q := ⟨lp_bd hx, lp_bd hq.bd, hq.ne, (hq.bd.sz (a := 2) (c := 4) (by decide)).mono (by omega) (by omega)⟩
theorem law_scaled2 {es : ET} {xs : List D} (he : Kc es (.tup xs)) (h0 : xs.all sclD = true) (h1 : 0 < xs.length ∧ xs.length < 1073741824) : Law 9 γ_scaled2 (body_scaled2 γ_draw γ_one (γ_frac (Bd 1000000 6)) γ_over (γ_marks (Bd 1000000 6)) es) := by
  intro ds S R ⟨p, n, e, hw, ⟨hn1, h8⟩, h⟩
  subst e
  have e0 := Ext.refl hw
  unfold body_scaled2
  refine seqK fun k hk => ?_
  simp_arith []
  refine ⟨by decide, fun p4 hp4 => ⟨⟨by omega, by omega⟩, ?_⟩⟩
  rw [Int.toNat_natCast]
  have ex0 := e0.new (o := .lst []) hp4
  refine zeros_new (S0 := S) (n := n) (fun i S1 Q hQ => ?_) n 0 [] [] _ (by rw [List.length_nil]; omega) ⟨rfl, List.nodup_nil, (fun i hi => by simp at hi), (fun _ h => nomatch h)⟩ ex0 (fun qs S1 ra ex _ hnew hrest => ?_)
  · simp_arith [wipeD, Int.toNat_natCast]
    rw [rep_zero]
    refine ⟨by decide, by decide, ⟨by omega, by omega, Nat.le_trans (m := 1000) (by omega) (by decide)⟩, hQ⟩
  · intro p5 hp5
    rw [List.nil_append] at ra
    have n4 : p4 ∉ qs := fun z => by
      rcases hnew p4 z with y | y
      · exact nomatch y
      · rw [up_same] at y; cases y
    have r4 : S1 p4 = some (.lst []) := by rw [hrest p4 n4, up_same]
    have n54 : p5 ≠ p4 := fun z => by rw [z, r4] at hp5; cases hp5
    have n5 : p5 ∉ qs := fun z => by
      obtain ⟨i, hi, e⟩ := List.getElem_of_mem z
      have := ra.row i hi
      rw [getD_eq hi, e, hp5] at this
      cases this
    have o4 := e0.own hp4
    have f0 : Fil n p p5 qs S (up S1 p5 (.lst (refs qs))) (List.replicate n (List.replicate n 0)) := ⟨ex.new hp5, ra.same fun q hq => up_ne fun z => n5 (by rw [← z]; exact hq), ex.own hp5, n5, up_same, sq_zero n⟩
    have g0 : Grw Scl p p4 S (up S1 p5 (.lst (refs qs))) [] 0 := ⟨f0.ext, o4, by rw [up_ne (Ne.symm n54)]; exact r4, rfl, (fun _ h => nomatch h)⟩
    rw [hk]
    refine seqK fun k hk => ?_
    unfold γ_draw
    simp_arith []
    refine ⟨p, _, rfl, f0.ext.well, by decide, fun r S2 r0 r1 d => ?_⟩
    simp_arith [pl_int, eqD_int]
    generalize decide (r = 0) = bb
    have f2 := f0.drw d
    have g2 := g0.drw d
    rw [hk]
    refine seqK fun k hk => ?_
    simp_arith []
    refine ⟨⟨by omega, by omega⟩, ?_⟩
    rw [Int.toNat_natCast]
    refine for_rng (fun i τ S' => ∃ sc x3, Fil n p p5 qs S S' (List.replicate n (List.replicate n 0)) ∧ Grw Scl p p4 S S' sc i ∧ τ = [some (.ref p), some (.int n), some (.bl bb), x3, some (.ref p4), some (.ref p5), none, none, none]) ⟨[], none, f2, g2, rfl⟩ (fun i τ S' K hi ⟨sc, x3, f, g, hτ⟩ hK => ?_) fun τ S' ⟨sc, x3, f, g, hτ⟩ => ?_
    · subst hτ
      unfold γ_one
      simp_arith [rs_ref g.at', g.at']
      cases bb with
      | true =>
        simp_arith [g.at']
        exact ⟨by decide, g.room (by omega), hK _ _ ⟨_, _, f.other _ g.own (Ne.symm n54) n4, g.add one_scl, rfl⟩⟩
      | false =>
        simp_arith []
        apply he
        refine ⟨p, _, _, rfl, rfl, f.ext.well, h1, fun x S3 hx d3 => ?_⟩
        obtain ⟨q, rfl, hq⟩ := sclD_of (List.all_eq_true.mp h0 x hx)
        have f3 := f.drw d3
        have g3 := g.drw d3
        simp_arith [g3.at']
        exact ⟨g3.room (by omega), hK _ _ ⟨_, _, f3.other _ g3.own (Ne.symm n54) n4, g3.add hq, rfl⟩⟩
    · subst hτ
      show k _ S'
      have lsc := g.len
      have hscl : ∀ i, i < n → Scl (sc.getD i 0) := fun i hi => g.ok _ (getD_mem (by omega))
      rw [hk]
      refine seqK fun k hk => ?_
      simp_arith []
      refine ⟨⟨by omega, by omega⟩, ?_⟩
      rw [Int.toNat_natCast]
      refine for_rng (fun i τ S'' => ∃ ws x3 x6 x7, Fil n p p5 qs S S'' ws ∧ S'' p4 = some (.lst (sc.map encR)) ∧ Tied n sc ws ∧ τ = [some (.ref p), some (.int n), some (.bl bb), x3, some (.ref p4), some (.ref p5), x6, x7, none])
        ⟨_, x3, none, none, f, g.at', ⟨(fun a b _ _ => by rw [ent_zero]; exact ⟨by decide, by decide⟩), (fun a _ => ent_zero n a a), (fun a b _ _ => by rw [ent_zero, ent_zero]; grind)⟩, rfl⟩ (fun i τ S'' K hi ⟨ws, x3, x6, x7, f, r4, t, hτ⟩ hK => ?_) fun τ S'' ⟨ws, x3, x6, x7, f, r4, t, hτ⟩ => ?_
      · subst hτ
        simp_arith []
        refine ⟨⟨by omega, by omega⟩, ?_⟩
        rw [Int.toNat_natCast]
        refine for_rng (fun j τ S3 => ∃ ws x6 x7, Fil n p p5 qs S S3 ws ∧ S3 p4 = some (.lst (sc.map encR)) ∧ Tied n sc ws ∧ τ = [some (.ref p), some (.int n), some (.bl bb), some (.int i), some (.ref p4), some (.ref p5), x6, x7, none]) ⟨ws, x6, x7, f, r4, t, rfl⟩ (fun j τ S3 K hj ⟨ws, x6, x7, f, r4, t, hτ⟩ hK => ?_) fun τ S3 ⟨ws, x6, x7, f, r4, t, hτ⟩ => hK τ S3 ⟨ws, some (.int i), x6, x7, f, r4, t, hτ⟩
        · subst hτ
          have hjn : j < n := by omega
          show gNm 6 (.int j) _ S3 _
          simp only [gNm, List.set_cons_succ, List.set_cons_zero]
          refine seqK fun k hk => ?_
          unfold γ_frac
          simp_arith []
          refine ⟨p, rfl, f.ext.well, fun x S4 hx d4 => ?_⟩
          have f4 := f.drw d4
          have r44 : S4 p4 = some (.lst (sc.map encR)) := by rw [d4.at o4.2]; exact r4
          have gi : L2.atI (sc.map encR) (i : Int) = some (encR (sc.getD i 0)) := atI_mapD 0 (by omega)
          have gj : L2.atI (sc.map encR) (j : Int) = some (encR (sc.getD j 0)) := atI_mapD 0 (by omega)
          have at5 : S4 p5 = some (.lst (qs.map D.ref)) := f4.at'
          have mi : ((ws.getD i []).map encR).set j (encR (x / sc.getD i 0)) = ((ws.getD i []).set j (x / sc.getD i 0)).map encR := by rw [List.map_set]
          rw [hk]
          refine seqK fun k hk => ?_
          unfold γ_over
          simp_arith [rs_ref r44, gi, rs_ref at5, f4.ix hi, f4.rat hi, f4.ix2 hi hjn]
          refine ⟨_, _, rfl, over_ok hx (hscl i hi), ?_⟩
          rw [mi, hk]
          have f5 := f4.put (t := j) hi (x / sc.getD i 0)
          have r45 : up S4 (qs.getD i 0) (.lst (((ws.getD i []).set j (x / sc.getD i 0)).map encR)) p4 = some (.lst (sc.map encR)) := by
            rw [up_ne fun z => n4 (by rw [z]; exact getD_mem (by rw [f4.len]; exact hi))]
            exact r44
          have at55 : up S4 (qs.getD i 0) (.lst (((ws.getD i []).set j (x / sc.getD i 0)).map encR)) p5 = some (.lst (qs.map D.ref)) := f5.at'
          have mj : (((putW ws i j (x / sc.getD i 0)).getD j []).map encR).set i (encR (x / sc.getD j 0)) = (((putW ws i j (x / sc.getD i 0)).getD j []).set i (x / sc.getD j 0)).map encR := by rw [List.map_set]
          simp_arith [rs_ref r45, gj, rs_ref at55, f5.ix hjn, f5.rat hjn, f5.ix2 hjn hi]
          refine ⟨_, _, rfl, over_ok hx (hscl j hjn), ?_⟩
          simp_arith [rs_ref at55, f5.ix hjn, f5.rat hjn, f5.ix2 hjn hi]
          rw [mj]
          have f6 := f5.put (t := i) hjn (x / sc.getD j 0)
          refine hK _ _ ⟨_, _, _, f6, ?_, t.put f4.sq hi hjn (by omega) hx (hscl i hi) (hscl j hjn), rfl⟩
          rw [up_ne fun z => n4 (by rw [z]; exact getD_mem (by rw [f5.len]; exact hjn))]
          exact r45
      · subst hτ
        show k _ S''
        rw [hk]
        have at5 : S'' p5 = some (.lst (refs qs)) := f.at'
        unfold γ_marks
        simp_arith [seqG_ref at5]
        refine rows_out f.rows at5 (by rw [f.sq.len]; omega) (fun q r Q hq hQ => ?_) ?_
        · simp_arith [wipeD, rs_ref hq]
          exact hQ
        · refine ⟨p, n, rfl, f.ext.well, h8, fun ms S3 hm hM d3 => ⟨by decide, ?_⟩⟩
          have r43 : S3 p4 = some (.lst (sc.map encR)) := by rw [d3.at o4.2]; exact r4
          simp_arith [rs_ref r43]
          refine ⟨by decide, ?_⟩
          have hN : (⟨ws, ms⟩ : Net).n = n := hm
          refine (f.ext.drw d3).fin fun S4 d4 => h ⟨ws, ms⟩ sc S4 ⟨by show 1 ≤ ms.length; omega, by show ms.length ≤ 8; omega, by show ws.length = ms.length; rw [hm]; exact f.sq.len, fun r hr => by show r.length = ms.length; rw [hm]; exact f.sq.row r hr, fun i hi => t.dia i (by rw [hN] at hi; exact hi)⟩ hN ⟨ent_mem f.sq t.bd, hM⟩ ⟨by rw [hN]; exact lsc, fun i hi => (hscl i (by rw [hN] at hi; exact hi)).pos, fun i j hi hj => t.sym i j (by rw [hN] at hi; exact hi) (by rw [hN] at hj; exact hj)⟩ g.ok d4
end Gx

/-! Gx, data side 20: lifted marks and energies, as the laws reckon them. -/
namespace Gx
open PySem L2
local macro_rules | `(tactic| simp_arith [$xs,*]) => `(tactic| try simp only [eVar, eC, eBin, eUn, tBl, tAnd', tOr', tNot', eAnd, eOr, eNot, eIf, aNil, aCons, eTup, eLst, eLstM, eCall, eCallK, pick, sNext, sSeq, sBreak, sCont, sDrop, sRet, sRetN, sIf, sNever, gNm, gsNil, gsCons, gTupl, gSubs, sAsg, sPar, sPar3, sFor, iSeq, seqG_tup, seqG_lst, seqG_scr, iRange1, iRange2, iEnumG, iZipG, td_tup, td_lst, td_scr, eLc, eLcM, tYes', pNone, pSome, eSl, cu_tup, cu_lst, cu_scr, eMt, eMt0, mAppend, isL, rs_non, rs_bl, rs_int, rs_str, rs_tup, rs_lst', rs_scr, itemsOf_tup, itemsOf_lst, itemsOf_scr, oI, oI0, oSub, oFdiv, oMod, oPow, oShl, oShr, oAnd, oOr, oXor, oLt, oLe, oGt, oGe, oNeg, oIsN, oNotN, Gx.isNon, oAdd, oAdd', oMul, oMul', oMulM, oEq, oNe, oEqS, oNeS, oIn, oNin, eChain, oIx, oSet, cLen, cList, cListM, cTuple, cSum, cAll, cAny, cInt, cAbs, cMax2, cMin2, cDivmod, cGcd, cIsi, cRepr, lstInts, lstBls, startD, wipeD, List.map_cons, List.map_nil, List.length_cons, List.length_nil, List.cons_append, List.nil_append, List.replicate_succ, List.replicate_zero, List.set_cons_succ, List.set_cons_zero, List.getElem?_cons_succ, List.getElem?_cons_zero, List.filterMap_cons_some, List.filterMap_nil, Nat.reduceAdd, Nat.reduceSub, Nat.sub_self, Nat.reduceLT, Nat.reduceMul, Nat.zero_add, Nat.add_zero, if_true, if_false, and_true, true_and, and_false, false_and, or_true, true_or, or_false, false_or, not_true_eq_false, not_false_eq_true, Bool.not_true, Bool.not_false, Bool.false_eq_true, ite_true, ite_false, reduceIte, reduceCtorEq, eq_self, $xs,*])
local macro_rules | `(tactic| simp_arith! [$xs,*]) => `(tactic| try simp only [eVar, eC, eBin, eUn, tBl, tAnd', tOr', tNot', eAnd, eOr, eNot, eIf, aNil, aCons, eTup, eLst, eLstM, eCall, eCallK, pick, sNext, sSeq, sBreak, sCont, sDrop, sRet, sRetN, sIf, sNever, gNm, gsNil, gsCons, gTupl, gSubs, sAsg, sPar, sPar3, sFor, iSeq, seqG_tup, seqG_lst, seqG_scr, iRange1, iRange2, iEnumG, iZipG, td_tup, td_lst, td_scr, eLc, eLcM, tYes', pNone, pSome, eSl, cu_tup, cu_lst, cu_scr, eMt, eMt0, mAppend, isL, rs_non, rs_bl, rs_int, rs_str, rs_tup, rs_lst', rs_scr, itemsOf_tup, itemsOf_lst, itemsOf_scr, oI, oI0, oSub, oFdiv, oMod, oPow, oShl, oShr, oAnd, oOr, oXor, oLt, oLe, oGt, oGe, oNeg, oIsN, oNotN, Gx.isNon, oAdd, oAdd', oMul, oMul', oMulM, oEq, oNe, oEqS, oNeS, oIn, oNin, eChain, oIx, oSet, cLen, cList, cListM, cTuple, cSum, cAll, cAny, cInt, cAbs, cMax2, cMin2, cDivmod, cGcd, cIsi, cRepr, lstInts, lstBls, startD, wipeD, List.map_cons, List.map_nil, List.length_cons, List.length_nil, List.cons_append, List.nil_append, List.replicate_succ, List.replicate_zero, List.set_cons_succ, List.set_cons_zero, List.getElem?_cons_succ, List.getElem?_cons_zero, List.filterMap_cons_some, List.filterMap_nil, Nat.reduceAdd, Nat.reduceSub, Nat.sub_self, Nat.reduceLT, Nat.reduceMul, Nat.zero_add, Nat.add_zero, if_true, if_false, and_true, true_and, and_false, false_and, or_true, true_or, or_false, false_or, not_true_eq_false, not_false_eq_true, Bool.not_true, Bool.not_false, Bool.false_eq_true, ite_true, ite_false, reduceIte, reduceCtorEq, eq_self, rs_N, rs_W, rs_Row, rs_S, rs_R, rs_B, it_N, it_W, it_Row, it_S, it_R, sq_W, sq_Row, sq_S, td_N, td_W, td_Row, td_S, rs_I, it_I, sq_I, td_I, rs_Ss, it_Ss, sq_Ss, td_Ss, cu_S, cu_W, cu_Row, atI_0, atI_1, $xs,*])
/-! ### energies -/
section
variable {N : Net} (ok : N.Ok) (sb : SmB (2 ^ 50) 10 N) {sc : List Rat} (ls : sc.length = N.n) (hs : ∀ q ∈ sc, Scl q)
include ok sb
include ls hs
end
end Gx

/-! Gx, data side 21: helping nets, lots, spreading. -/
namespace Gx
open PySem L2

/-! ### states by cells -/
def joinS (s t : List Bool) : List Bool := List.zipWith (fun a b => a || b) s t
/-! ### nets that help -/
def helping (N : Net) : Bool := N.ws.all fun r => r.all fun q => decide (0 ≤ q)
def rise (N : Net) (s : List Bool) : List Bool := joinS s (wants N s)
def clo (N : Net) : Nat → List Bool → List Bool
  | 0, s => s
  | k + 1, s => if rise N s = s then s else clo N k (rise N s)
/-- all that comes on, from these on -/
def cls (N : Net) (s : List Bool) : List Bool := clo N N.n s
section
variable {N : Net} {s : List Bool}
end
end Gx

/-! Gx, data side 22: helping nets, lots: the library's defs. -/
namespace Gx
open PySem L2
local macro_rules | `(tactic| simp_arith [$xs,*]) => `(tactic| try simp only [eVar, eC, eBin, eUn, tBl, tAnd', tOr', tNot', eAnd, eOr, eNot, eIf, aNil, aCons, eTup, eLst, eLstM, eCall, eCallK, pick, sNext, sSeq, sBreak, sCont, sDrop, sRet, sRetN, sIf, sNever, gNm, gsNil, gsCons, gTupl, gSubs, sAsg, sPar, sPar3, sFor, iSeq, seqG_tup, seqG_lst, seqG_scr, iRange1, iRange2, iEnumG, iZipG, td_tup, td_lst, td_scr, eLc, eLcM, tYes', pNone, pSome, eSl, cu_tup, cu_lst, cu_scr, eMt, eMt0, mAppend, isL, rs_non, rs_bl, rs_int, rs_str, rs_tup, rs_lst', rs_scr, itemsOf_tup, itemsOf_lst, itemsOf_scr, oI, oI0, oSub, oFdiv, oMod, oPow, oShl, oShr, oAnd, oOr, oXor, oLt, oLe, oGt, oGe, oNeg, oIsN, oNotN, Gx.isNon, oAdd, oAdd', oMul, oMul', oMulM, oEq, oNe, oEqS, oNeS, oIn, oNin, eChain, oIx, oSet, cLen, cList, cListM, cTuple, cSum, cAll, cAny, cInt, cAbs, cMax2, cMin2, cDivmod, cGcd, cIsi, cRepr, lstInts, lstBls, startD, wipeD, List.map_cons, List.map_nil, List.length_cons, List.length_nil, List.cons_append, List.nil_append, List.replicate_succ, List.replicate_zero, List.set_cons_succ, List.set_cons_zero, List.getElem?_cons_succ, List.getElem?_cons_zero, List.filterMap_cons_some, List.filterMap_nil, Nat.reduceAdd, Nat.reduceSub, Nat.sub_self, Nat.reduceLT, Nat.reduceMul, Nat.zero_add, Nat.add_zero, if_true, if_false, and_true, true_and, and_false, false_and, or_true, true_or, or_false, false_or, not_true_eq_false, not_false_eq_true, Bool.not_true, Bool.not_false, Bool.false_eq_true, ite_true, ite_false, reduceIte, reduceCtorEq, eq_self, $xs,*])
local macro_rules | `(tactic| simp_arith! [$xs,*]) => `(tactic| try simp only [eVar, eC, eBin, eUn, tBl, tAnd', tOr', tNot', eAnd, eOr, eNot, eIf, aNil, aCons, eTup, eLst, eLstM, eCall, eCallK, pick, sNext, sSeq, sBreak, sCont, sDrop, sRet, sRetN, sIf, sNever, gNm, gsNil, gsCons, gTupl, gSubs, sAsg, sPar, sPar3, sFor, iSeq, seqG_tup, seqG_lst, seqG_scr, iRange1, iRange2, iEnumG, iZipG, td_tup, td_lst, td_scr, eLc, eLcM, tYes', pNone, pSome, eSl, cu_tup, cu_lst, cu_scr, eMt, eMt0, mAppend, isL, rs_non, rs_bl, rs_int, rs_str, rs_tup, rs_lst', rs_scr, itemsOf_tup, itemsOf_lst, itemsOf_scr, oI, oI0, oSub, oFdiv, oMod, oPow, oShl, oShr, oAnd, oOr, oXor, oLt, oLe, oGt, oGe, oNeg, oIsN, oNotN, Gx.isNon, oAdd, oAdd', oMul, oMul', oMulM, oEq, oNe, oEqS, oNeS, oIn, oNin, eChain, oIx, oSet, cLen, cList, cListM, cTuple, cSum, cAll, cAny, cInt, cAbs, cMax2, cMin2, cDivmod, cGcd, cIsi, cRepr, lstInts, lstBls, startD, wipeD, List.map_cons, List.map_nil, List.length_cons, List.length_nil, List.cons_append, List.nil_append, List.replicate_succ, List.replicate_zero, List.set_cons_succ, List.set_cons_zero, List.getElem?_cons_succ, List.getElem?_cons_zero, List.filterMap_cons_some, List.filterMap_nil, Nat.reduceAdd, Nat.reduceSub, Nat.sub_self, Nat.reduceLT, Nat.reduceMul, Nat.zero_add, Nat.add_zero, if_true, if_false, and_true, true_and, and_false, false_and, or_true, true_or, or_false, false_or, not_true_eq_false, not_false_eq_true, Bool.not_true, Bool.not_false, Bool.false_eq_true, ite_true, ite_false, reduceIte, reduceCtorEq, eq_self, rs_N, rs_W, rs_Row, rs_S, rs_R, rs_B, it_N, it_W, it_Row, it_S, it_R, sq_W, sq_Row, sq_S, td_N, td_W, td_Row, td_S, rs_I, it_I, sq_I, td_I, rs_Ss, it_Ss, sq_Ss, td_Ss, cu_S, cu_W, cu_Row, atI_0, atI_1, $xs,*])
/-! ### lots -/
/-! ### lit cells -/
def lit (n : Nat) (l : List Nat) : List Bool := (List.range n).map fun i => decide (i ∈ l)
def ons (s : List Bool) : List Nat := (List.range s.length).filter fun i => s.getD i false
/-! ### spreading -/
end Gx

/-! Gx, data side 23: drawn nets of the first family. -/
namespace Gx
open PySem L2
local macro_rules | `(tactic| simp_arith [$xs,*]) => `(tactic| try simp only [eVar, eC, eBin, eUn, tBl, tAnd', tOr', tNot', eAnd, eOr, eNot, eIf, aNil, aCons, eTup, eLst, eLstM, eCall, eCallK, pick, sNext, sSeq, sBreak, sCont, sDrop, sRet, sRetN, sIf, sNever, gNm, gsNil, gsCons, gTupl, gSubs, sAsg, sPar, sPar3, sFor, iSeq, seqG_tup, seqG_lst, seqG_scr, iRange1, iRange2, iEnumG, iZipG, td_tup, td_lst, td_scr, eLc, eLcM, tYes', pNone, pSome, eSl, cu_tup, cu_lst, cu_scr, eMt, eMt0, mAppend, isL, rs_non, rs_bl, rs_int, rs_str, rs_tup, rs_lst', rs_scr, itemsOf_tup, itemsOf_lst, itemsOf_scr, oI, oI0, oSub, oFdiv, oMod, oPow, oShl, oShr, oAnd, oOr, oXor, oLt, oLe, oGt, oGe, oNeg, oIsN, oNotN, Gx.isNon, oAdd, oAdd', oMul, oMul', oMulM, oEq, oNe, oEqS, oNeS, oIn, oNin, eChain, oIx, oSet, cLen, cList, cListM, cTuple, cSum, cAll, cAny, cInt, cAbs, cMax2, cMin2, cDivmod, cGcd, cIsi, cRepr, lstInts, lstBls, startD, wipeD, List.map_cons, List.map_nil, List.length_cons, List.length_nil, List.cons_append, List.nil_append, List.replicate_succ, List.replicate_zero, List.set_cons_succ, List.set_cons_zero, List.getElem?_cons_succ, List.getElem?_cons_zero, List.filterMap_cons_some, List.filterMap_nil, Nat.reduceAdd, Nat.reduceSub, Nat.sub_self, Nat.reduceLT, Nat.reduceMul, Nat.zero_add, Nat.add_zero, if_true, if_false, and_true, true_and, and_false, false_and, or_true, true_or, or_false, false_or, not_true_eq_false, not_false_eq_true, Bool.not_true, Bool.not_false, Bool.false_eq_true, ite_true, ite_false, reduceIte, reduceCtorEq, eq_self, $xs,*])
local macro_rules | `(tactic| simp_arith! [$xs,*]) => `(tactic| try simp only [eVar, eC, eBin, eUn, tBl, tAnd', tOr', tNot', eAnd, eOr, eNot, eIf, aNil, aCons, eTup, eLst, eLstM, eCall, eCallK, pick, sNext, sSeq, sBreak, sCont, sDrop, sRet, sRetN, sIf, sNever, gNm, gsNil, gsCons, gTupl, gSubs, sAsg, sPar, sPar3, sFor, iSeq, seqG_tup, seqG_lst, seqG_scr, iRange1, iRange2, iEnumG, iZipG, td_tup, td_lst, td_scr, eLc, eLcM, tYes', pNone, pSome, eSl, cu_tup, cu_lst, cu_scr, eMt, eMt0, mAppend, isL, rs_non, rs_bl, rs_int, rs_str, rs_tup, rs_lst', rs_scr, itemsOf_tup, itemsOf_lst, itemsOf_scr, oI, oI0, oSub, oFdiv, oMod, oPow, oShl, oShr, oAnd, oOr, oXor, oLt, oLe, oGt, oGe, oNeg, oIsN, oNotN, Gx.isNon, oAdd, oAdd', oMul, oMul', oMulM, oEq, oNe, oEqS, oNeS, oIn, oNin, eChain, oIx, oSet, cLen, cList, cListM, cTuple, cSum, cAll, cAny, cInt, cAbs, cMax2, cMin2, cDivmod, cGcd, cIsi, cRepr, lstInts, lstBls, startD, wipeD, List.map_cons, List.map_nil, List.length_cons, List.length_nil, List.cons_append, List.nil_append, List.replicate_succ, List.replicate_zero, List.set_cons_succ, List.set_cons_zero, List.getElem?_cons_succ, List.getElem?_cons_zero, List.filterMap_cons_some, List.filterMap_nil, Nat.reduceAdd, Nat.reduceSub, Nat.sub_self, Nat.reduceLT, Nat.reduceMul, Nat.zero_add, Nat.add_zero, if_true, if_false, and_true, true_and, and_false, false_and, or_true, true_or, or_false, false_or, not_true_eq_false, not_false_eq_true, Bool.not_true, Bool.not_false, Bool.false_eq_true, ite_true, ite_false, reduceIte, reduceCtorEq, eq_self, rs_N, rs_W, rs_Row, rs_S, rs_R, rs_B, it_N, it_W, it_Row, it_S, it_R, sq_W, sq_Row, sq_S, td_N, td_W, td_Row, td_S, rs_I, it_I, sq_I, td_I, rs_Ss, it_Ss, sq_Ss, td_Ss, cu_S, cu_W, cu_Row, atI_0, atI_1, $xs,*])
abbrev PW : Rat → Prop := Bd 6000000 10
/-! ### cells that chase one another -/
theorem NetAt.drw {P M : Rat → Prop} {p p3 p4 : Addr} {n i : Nat} {S0 S S' : Sto} {ws : List (List Rat)} {ms : List Rat} (a : NetAt P M p p3 p4 n i S0 S ws ms) (o3 : Own p S0 p3) (o4 : Own p S0 p4) (d : Drw p S S') : NetAt P M p p3 p4 n i S0 S' ws ms :=
  ⟨a.ext.drw d, by rw [d.at o3.2]; exact a.rows, by rw [d.at o4.2]; exact a.marks, a.lw, a.lm, a.lr, a.hp, a.hm, a.dia⟩
end Gx

/-! Gx, data side 24: the end of most laws. -/
namespace Gx
open PySem L2
local macro_rules | `(tactic| simp_arith [$xs,*]) => `(tactic| try simp only [eVar, eC, eBin, eUn, tBl, tAnd', tOr', tNot', eAnd, eOr, eNot, eIf, aNil, aCons, eTup, eLst, eLstM, eCall, eCallK, pick, sNext, sSeq, sBreak, sCont, sDrop, sRet, sRetN, sIf, sNever, gNm, gsNil, gsCons, gTupl, gSubs, sAsg, sPar, sPar3, sFor, iSeq, seqG_tup, seqG_lst, seqG_scr, iRange1, iRange2, iEnumG, iZipG, td_tup, td_lst, td_scr, eLc, eLcM, tYes', pNone, pSome, eSl, cu_tup, cu_lst, cu_scr, eMt, eMt0, mAppend, isL, rs_non, rs_bl, rs_int, rs_str, rs_tup, rs_lst', rs_scr, itemsOf_tup, itemsOf_lst, itemsOf_scr, oI, oI0, oSub, oFdiv, oMod, oPow, oShl, oShr, oAnd, oOr, oXor, oLt, oLe, oGt, oGe, oNeg, oIsN, oNotN, Gx.isNon, oAdd, oAdd', oMul, oMul', oMulM, oEq, oNe, oEqS, oNeS, oIn, oNin, eChain, oIx, oSet, cLen, cList, cListM, cTuple, cSum, cAll, cAny, cInt, cAbs, cMax2, cMin2, cDivmod, cGcd, cIsi, cRepr, lstInts, lstBls, startD, wipeD, List.map_cons, List.map_nil, List.length_cons, List.length_nil, List.cons_append, List.nil_append, List.replicate_succ, List.replicate_zero, List.set_cons_succ, List.set_cons_zero, List.getElem?_cons_succ, List.getElem?_cons_zero, List.filterMap_cons_some, List.filterMap_nil, Nat.reduceAdd, Nat.reduceSub, Nat.sub_self, Nat.reduceLT, Nat.reduceMul, Nat.zero_add, Nat.add_zero, if_true, if_false, and_true, true_and, and_false, false_and, or_true, true_or, or_false, false_or, not_true_eq_false, not_false_eq_true, Bool.not_true, Bool.not_false, Bool.false_eq_true, ite_true, ite_false, reduceIte, reduceCtorEq, eq_self, $xs,*])
/-- a list of small numbers, as written -/
def natsIn (a b : Nat) : List D → Bool
  | [] => true
  | .int i :: es => decide ((a : Int) ≤ i ∧ i ≤ b) && natsIn a b es
  | _ :: _ => false
theorem natsIn_mem {a b : Nat} : ∀ {es : List D}, natsIn a b es = true → ∀ {x : D}, x ∈ es → ∃ n : Nat, x = .int n ∧ a ≤ n ∧ n ≤ b
  | [], _, _, hx => nomatch hx
  | e :: es, h, x, hx => by
    unfold natsIn at h
    split at h
    · rename_i e'; cases e'
    · rename_i i es' e'
      injection e' with e1 e2
      subst e1 e2
      rw [Bool.and_eq_true, decide_eq_true_eq] at h
      rcases List.mem_cons.mp hx with rfl | hx
      · exact ⟨i.toNat, by congr 1; omega, by omega, by omega⟩
      · exact natsIn_mem h.2 hx
    · cases h
def body_whole (k : Int) (γ_right γ_well : OL) : ST := sRet (eCall cAll (aCons (eLc (iRange1 (aCons (eCall cMax2 (aCons (eC (.int 2)) (aCons (eCall cMin2 (aCons (eCall cLen (aCons (eVar 0) (aNil))) (aCons (eC (.int k)) (aNil)))) (aNil)))) (aNil))) (gNm 1) (tYes') (eCall γ_right (aCons (eCall γ_well (aCons (eVar 0) (aCons (eVar 1) (aNil)))) (aNil))) [1]) (aNil)))
end Gx

/-! Gx, data side 25: which numbers are come to from one; rings; ends. Plain. -/
namespace Gx
open PySem L2
/-! ### lists without doubles -/
theorem nd_len {α : Type} [DecidableEq α] : ∀ {l m : List α}, l.Nodup → (∀ x ∈ l, x ∈ m) → l.length ≤ m.length
  | [], _, _, _ => Nat.zero_le _
  | x :: l, m, h, hs => by
    rw [List.nodup_cons] at h
    have hx := hs x List.mem_cons_self
    have ih := nd_len (m := m.erase x) h.2 fun y hy => (List.mem_erase_of_ne (fun z => by subst z; exact h.1 hy)).mpr (hs y (List.mem_cons_of_mem _ hy))
    rw [List.length_erase_of_mem hx] at ih
    have := List.length_pos_of_mem hx
    rw [List.length_cons]
    omega
theorem nd_lt {l : List Nat} {m : Nat} (h : l.Nodup) (hs : ∀ x ∈ l, x < m) : l.length ≤ m := by
  have := nd_len (m := List.range m) h fun x hx => List.mem_range.mpr (hs x hx)
  rw [List.length_range] at this
  exact this
/-- sorted numbers -/
def srt (l : List Nat) : List Nat := l.mergeSort fun a b => decide (a ≤ b)
/-! ### moves -/
abbrev Gr := List (List Nat)
def rw' (ms : Gr) (i : Nat) : List Nat := ms.getD i []
def bStep (ms : Gr) (l : List Nat) (t : Nat) : List Nat := match l[t]? with
  | some x => l ++ (rw' ms x).filter fun y => decide (y ∉ l)
  | none => l
def bfs (ms : Gr) (s : Nat) : Nat → List Nat
  | 0 => [s]
  | t + 1 => bStep ms (bfs ms s t) t
/-- all that is come to -/
def reach (ms : Gr) (s : Nat) : List Nat := bfs ms s ms.length
section
variable {ms : Gr} {s : Nat}
/-! ### rings, ends -/
def cyc (ms : Gr) (n : Nat) : Bool := (rw' ms n).any fun e => decide (n ∈ reach ms e)
def calm (ms : Gr) (s : Nat) : Bool := !(reach ms s).any (cyc ms)
def isEnd (ms : Gr) (n : Nat) : Bool := decide (rw' ms n = [])
def endsN (ms : Gr) (s : Nat) : List Nat := (srt (reach ms s)).filter (isEnd ms)
def sure (ms : Gr) (s : Nat) : Bool := calm ms s && decide ((endsN ms s).length = 1)
/-! ### how long rows of moves may be -/
end
end Gx

--W2
/-! Gx, data side 26: moves as numbers, what is come to, ends. -/
namespace Gx
open PySem L2
local macro_rules | `(tactic| simp_arith [$xs,*]) => `(tactic| try simp only [eVar, eC, eBin, eUn, tBl, tAnd', tOr', tNot', eAnd, eOr, eNot, eIf, aNil, aCons, eTup, eLst, eLstM, eCall, eCallK, pick, sNext, sSeq, sBreak, sCont, sDrop, sRet, sRetN, sIf, sNever, gNm, gsNil, gsCons, gTupl, gSubs, sAsg, sPar, sPar3, sFor, iSeq, seqG_tup, seqG_lst, seqG_scr, iRange1, iRange2, iEnumG, iZipG, td_tup, td_lst, td_scr, eLc, eLcM, tYes', pNone, pSome, eSl, cu_tup, cu_lst, cu_scr, eMt, eMt0, mAppend, isL, rs_non, rs_bl, rs_int, rs_str, rs_tup, rs_lst', rs_scr, itemsOf_tup, itemsOf_lst, itemsOf_scr, oI, oI0, oSub, oFdiv, oMod, oPow, oShl, oShr, oAnd, oOr, oXor, oLt, oLe, oGt, oGe, oNeg, oIsN, oNotN, Gx.isNon, oAdd, oAdd', oMul, oMul', oMulM, oEq, oNe, oEqS, oNeS, oIn, oNin, eChain, oIx, oSet, cLen, cList, cListM, cTuple, cSum, cAll, cAny, cInt, cAbs, cMax2, cMin2, cDivmod, cGcd, cIsi, cRepr, lstInts, lstBls, startD, wipeD, List.map_cons, List.map_nil, List.length_cons, List.length_nil, List.cons_append, List.nil_append, List.replicate_succ, List.replicate_zero, List.set_cons_succ, List.set_cons_zero, List.getElem?_cons_succ, List.getElem?_cons_zero, List.filterMap_cons_some, List.filterMap_nil, Nat.reduceAdd, Nat.reduceSub, Nat.sub_self, Nat.reduceLT, Nat.reduceMul, Nat.zero_add, Nat.add_zero, if_true, if_false, and_true, true_and, and_false, false_and, or_true, true_or, or_false, false_or, not_true_eq_false, not_false_eq_true, Bool.not_true, Bool.not_false, Bool.false_eq_true, ite_true, ite_false, reduceIte, reduceCtorEq, eq_self, eDicT0, eDixT, gSubsT, keysOf, cListT, cSortedP, oSubB, oMulT, iZip2G, eDic0, eDic1, oDix, oDin, oDnin, oDset, iKeysG, cSortedE, cListD, Gx.keyOf, cMaxL, cMinL, cSortedI, mIndex, $xs,*])
local macro_rules | `(tactic| simp_arith! [$xs,*]) => `(tactic| try simp only [eVar, eC, eBin, eUn, tBl, tAnd', tOr', tNot', eAnd, eOr, eNot, eIf, aNil, aCons, eTup, eLst, eLstM, eCall, eCallK, pick, sNext, sSeq, sBreak, sCont, sDrop, sRet, sRetN, sIf, sNever, gNm, gsNil, gsCons, gTupl, gSubs, sAsg, sPar, sPar3, sFor, iSeq, seqG_tup, seqG_lst, seqG_scr, iRange1, iRange2, iEnumG, iZipG, td_tup, td_lst, td_scr, eLc, eLcM, tYes', pNone, pSome, eSl, cu_tup, cu_lst, cu_scr, eMt, eMt0, mAppend, isL, rs_non, rs_bl, rs_int, rs_str, rs_tup, rs_lst', rs_scr, itemsOf_tup, itemsOf_lst, itemsOf_scr, oI, oI0, oSub, oFdiv, oMod, oPow, oShl, oShr, oAnd, oOr, oXor, oLt, oLe, oGt, oGe, oNeg, oIsN, oNotN, Gx.isNon, oAdd, oAdd', oMul, oMul', oMulM, oEq, oNe, oEqS, oNeS, oIn, oNin, eChain, oIx, oSet, cLen, cList, cListM, cTuple, cSum, cAll, cAny, cInt, cAbs, cMax2, cMin2, cDivmod, cGcd, cIsi, cRepr, lstInts, lstBls, startD, wipeD, List.map_cons, List.map_nil, List.length_cons, List.length_nil, List.cons_append, List.nil_append, List.replicate_succ, List.replicate_zero, List.set_cons_succ, List.set_cons_zero, List.getElem?_cons_succ, List.getElem?_cons_zero, List.filterMap_cons_some, List.filterMap_nil, Nat.reduceAdd, Nat.reduceSub, Nat.sub_self, Nat.reduceLT, Nat.reduceMul, Nat.zero_add, Nat.add_zero, if_true, if_false, and_true, true_and, and_false, false_and, or_true, true_or, or_false, false_or, not_true_eq_false, not_false_eq_true, Bool.not_true, Bool.not_false, Bool.false_eq_true, ite_true, ite_false, reduceIte, reduceCtorEq, eq_self, eDicT0, eDixT, gSubsT, keysOf, cListT, cSortedP, oSubB, oMulT, iZip2G, eDic0, eDic1, oDix, oDin, oDnin, oDset, iKeysG, cSortedE, cListD, Gx.keyOf, cMaxL, cMinL, cSortedI, mIndex, rs_N, rs_W, rs_Row, rs_S, rs_R, rs_B, it_N, it_W, it_Row, it_S, it_R, sq_W, sq_Row, sq_S, td_N, td_W, td_Row, td_S, rs_I, it_I, sq_I, td_I, rs_Ss, it_Ss, sq_Ss, td_Ss, cu_S, cu_W, cu_Row, atI_0, atI_1, $xs,*])
/-! ### while -/
/-! ### numbers of states -/
theorem sum_bits' : ∀ s : List Bool, ((List.range s.length).map fun i : Nat => bit (s.getD i false) * (2 : Int) ^ i).sum = (numOf s : Nat)
  | [] => rfl
  | b :: s => by
    have ih := sum_bits' s
    rw [List.length_cons, List.range_succ_eq_map, List.map_cons, List.map_map, List.sum_cons, numOf_cons]
    have e : (List.range s.length).map ((fun i : Nat => bit ((b :: s).getD i false) * (2 : Int) ^ i) ∘ Nat.succ) = ((List.range s.length).map fun i : Nat => bit (s.getD i false) * (2 : Int) ^ i).map (2 * ·) := by
      rw [List.map_map]
      apply List.map_congr_left
      intro i _
      show bit ((b :: s).getD (i + 1) false) * (2 : Int) ^ (i + 1) = 2 * (bit (s.getD i false) * 2 ^ i)
      rw [show (b :: s).getD (i + 1) false = s.getD i false from rfl, Int.pow_succ, ← Int.mul_assoc, Int.mul_comm]
    have dbl : ∀ l : List Int, (l.map (2 * ·)).sum = 2 * l.sum := fun l => by
      induction l with
      | nil => rfl
      | cons x l ih => rw [List.map_cons, List.sum_cons, List.sum_cons, ih]; omega
    rw [e, dbl, ih]
    show bit b * (2 : Int) ^ 0 + _ = _
    rw [Int.pow_zero, Int.mul_one]
    cases b
    · show (0 : Int) + _ = ((0 + 2 * numOf s : Nat) : Int)
      omega
    · show (1 : Int) + _ = ((1 + 2 * numOf s : Nat) : Int)
      omega
def γ_num : OL := fun ds S R => ∃ s : List Bool, ds = [encS s] ∧ s.length ≤ 1000 ∧ R (.int (numOf s : Nat)) S
def body_num : ST := sRet (eCall cSum (aCons (eLc (iEnumG (aCons (eVar 0) (aNil))) (gTupl 2 (gsCons (gNm 1) (gsCons (gNm 2) (gsNil)))) (tYes') (eBin oShl (eVar 2) (eVar 1)) [1, 2]) (aNil)))
theorem law_num : Law 3 γ_num body_num := by
  intro ds S R ⟨s, e, hl, h⟩
  subst e
  have q := fin_of h
  unfold body_num
  simp_arith! []
  rw [enumD_map0, zipIdx_range false, List.map_map]
  refine lc_map (fun i : Nat => .tup [.int i, encB (s.getD i false)]) (fun i : Nat => .int (bit (s.getD i false) * (2 : Int) ^ i)) (List.range s.length) [] (fun i hi Q hQ => ?_) trivial (sz1000 (by rw [List.length_range, List.length_nil]; omega)) ?_
  · have hi := List.mem_range.mp hi
    simp_arith [wipeD, encB, Int.toNat_natCast]
    refine ⟨⟨by omega, by omega, ?_⟩, hQ⟩
    cases s.getD i false <;> decide
  · have e : (List.range s.length).map (fun i : Nat => D.int (bit (s.getD i false) * (2 : Int) ^ i)) = ((List.range s.length).map fun i : Nat => bit (s.getD i false) * (2 : Int) ^ i).map .int := by rw [List.map_map]; rfl
    rw [List.nil_append, e]
    simp_arith [intsOf_map]
    rw [sum_bits']
    exact q

/-! ### all moves -/
theorem pl_K (l : List Nat) : pl 60 (.lst (encK l)) = true := by
  show (encK l).all (pl 59) = true
  rw [List.all_eq_true]
  intro x hx
  obtain ⟨y, _, rfl⟩ := List.mem_map.mp hx
  exact pl_int
theorem inD_K (i : Nat) (l : List Nat) : inD (.int i) (encK l) = decide (i ∈ l) := inD_map (f := fun i : Nat => D.int (i : Int)) eqD_nat i l
theorem encK_len (l : List Nat) : (encK l).length = l.length := by unfold encK; rw [List.length_map]
theorem encK_ints (l : List Nat) : encK l = (l.map fun i : Nat => (i : Int)).map .int := by unfold encK; rw [List.map_map]; rfl
theorem intsOf_K (l : List Nat) : intsOf (encK l) = some (l.map fun i : Nat => (i : Int)) := by rw [encK_ints, intsOf_map]
end Gx

--W2
/-! Gx, data side 27: what is come to from a number; how long rows of moves may be. -/
namespace Gx
open PySem L2
local macro_rules | `(tactic| simp_arith [$xs,*]) => `(tactic| try simp only [eVar, eC, eBin, eUn, tBl, tAnd', tOr', tNot', eAnd, eOr, eNot, eIf, aNil, aCons, eTup, eLst, eLstM, eCall, eCallK, pick, sNext, sSeq, sBreak, sCont, sDrop, sRet, sRetN, sIf, sNever, gNm, gsNil, gsCons, gTupl, gSubs, sAsg, sPar, sPar3, sFor, iSeq, seqG_tup, seqG_lst, seqG_scr, iRange1, iRange2, iEnumG, iZipG, td_tup, td_lst, td_scr, eLc, eLcM, tYes', pNone, pSome, eSl, cu_tup, cu_lst, cu_scr, eMt, eMt0, mAppend, isL, rs_non, rs_bl, rs_int, rs_str, rs_tup, rs_lst', rs_scr, itemsOf_tup, itemsOf_lst, itemsOf_scr, oI, oI0, oSub, oFdiv, oMod, oPow, oShl, oShr, oAnd, oOr, oXor, oLt, oLe, oGt, oGe, oNeg, oIsN, oNotN, Gx.isNon, oAdd, oAdd', oMul, oMul', oMulM, oEq, oNe, oEqS, oNeS, oIn, oNin, eChain, oIx, oSet, cLen, cList, cListM, cTuple, cSum, cAll, cAny, cInt, cAbs, cMax2, cMin2, cDivmod, cGcd, cIsi, cRepr, lstInts, lstBls, startD, wipeD, List.map_cons, List.map_nil, List.length_cons, List.length_nil, List.cons_append, List.nil_append, List.replicate_succ, List.replicate_zero, List.set_cons_succ, List.set_cons_zero, List.getElem?_cons_succ, List.getElem?_cons_zero, List.filterMap_cons_some, List.filterMap_nil, Nat.reduceAdd, Nat.reduceSub, Nat.sub_self, Nat.reduceLT, Nat.reduceMul, Nat.zero_add, Nat.add_zero, if_true, if_false, and_true, true_and, and_false, false_and, or_true, true_or, or_false, false_or, not_true_eq_false, not_false_eq_true, Bool.not_true, Bool.not_false, Bool.false_eq_true, ite_true, ite_false, reduceIte, reduceCtorEq, eq_self, eDicT0, eDixT, gSubsT, keysOf, cListT, cSortedP, oSubB, oMulT, iZip2G, eDic0, eDic1, oDix, oDin, oDnin, oDset, iKeysG, cSortedE, cListD, Gx.keyOf, cMaxL, cMinL, cSortedI, mIndex, $xs,*])
/-! ### reached_from -/
abbrev keyN (i : Nat) : Key := Sum.inl (i : Int)
end Gx

--W2
/-! Gx, data side 28: how many moves can be made. -/
namespace Gx
open PySem L2
local macro_rules | `(tactic| simp_arith [$xs,*]) => `(tactic| try simp only [eVar, eC, eBin, eUn, tBl, tAnd', tOr', tNot', eAnd, eOr, eNot, eIf, aNil, aCons, eTup, eLst, eLstM, eCall, eCallK, pick, sNext, sSeq, sBreak, sCont, sDrop, sRet, sRetN, sIf, sNever, gNm, gsNil, gsCons, gTupl, gSubs, sAsg, sPar, sPar3, sFor, iSeq, seqG_tup, seqG_lst, seqG_scr, iRange1, iRange2, iEnumG, iZipG, td_tup, td_lst, td_scr, eLc, eLcM, tYes', pNone, pSome, eSl, cu_tup, cu_lst, cu_scr, eMt, eMt0, mAppend, isL, rs_non, rs_bl, rs_int, rs_str, rs_tup, rs_lst', rs_scr, itemsOf_tup, itemsOf_lst, itemsOf_scr, oI, oI0, oSub, oFdiv, oMod, oPow, oShl, oShr, oAnd, oOr, oXor, oLt, oLe, oGt, oGe, oNeg, oIsN, oNotN, Gx.isNon, oAdd, oAdd', oMul, oMul', oMulM, oEq, oNe, oEqS, oNeS, oIn, oNin, eChain, oIx, oSet, cLen, cList, cListM, cTuple, cSum, cAll, cAny, cInt, cAbs, cMax2, cMin2, cDivmod, cGcd, cIsi, cRepr, lstInts, lstBls, startD, wipeD, List.map_cons, List.map_nil, List.length_cons, List.length_nil, List.cons_append, List.nil_append, List.replicate_succ, List.replicate_zero, List.set_cons_succ, List.set_cons_zero, List.getElem?_cons_succ, List.getElem?_cons_zero, List.filterMap_cons_some, List.filterMap_nil, Nat.reduceAdd, Nat.reduceSub, Nat.sub_self, Nat.reduceLT, Nat.reduceMul, Nat.zero_add, Nat.add_zero, if_true, if_false, and_true, true_and, and_false, false_and, or_true, true_or, or_false, false_or, not_true_eq_false, not_false_eq_true, Bool.not_true, Bool.not_false, Bool.false_eq_true, ite_true, ite_false, reduceIte, reduceCtorEq, eq_self, eDicT0, eDixT, gSubsT, keysOf, cListT, cSortedP, oSubB, oMulT, iZip2G, eDic0, eDic1, oDix, oDin, oDnin, oDset, iKeysG, cSortedE, cListD, Gx.keyOf, cMaxL, cMinL, cSortedI, mIndex, $xs,*])
def nn (f : List (Option Nat)) : Nat := f.countP (·.isNone)
structure HtP (ms : Gr) (f : List (Option Nat)) : Prop where
  len : f.length = ms.length
  z : ∀ i, i < ms.length → rw' ms i = [] → f.getD i none = some 0
  so : ∀ i v, i < ms.length → f.getD i none = some v → ∀ j ∈ rw' ms i, ∃ w, f.getD j none = some w ∧ w < v
  ex : ∀ i v, i < ms.length → f.getD i none = some v → (rw' ms i = [] ∧ v = 0) ∨ ∃ j ∈ rw' ms i, ∃ w, f.getD j none = some w ∧ v = w + 1
theorem getD_setO {f : List (Option Nat)} {i j : Nat} {o : Option Nat} (hi : i < f.length) : (f.set i o).getD j none = if j = i then o else f.getD j none := by
  rw [List.getD_eq_getElem?_getD, List.getD_eq_getElem?_getD, List.getElem?_set]
  by_cases z : j = i
  · subst z; rw [if_pos rfl, if_pos rfl, if_pos hi]; rfl
  · rw [if_neg (Ne.symm z), if_neg z]
theorem HtP.set {ms : Gr} {f : List (Option Nat)} (h : HtP ms f) {i : Nat} (hi : i < ms.length) (e : f.getD i none = none) {m : Nat}
    (hj : ∀ j ∈ rw' ms i, ∃ w, f.getD j none = some w ∧ w ≤ m) (hm : ∃ j ∈ rw' ms i, f.getD j none = some m) : HtP ms (f.set i (some (m + 1))) := by
  have hl : i < f.length := by rw [h.len]; exact hi
  have ne : ∀ j w, f.getD j none = some w → j ≠ i := fun j w e1 y => by rw [y, e] at e1; cases e1
  have keep : ∀ j w, f.getD j none = some w → (f.set i (some (m + 1))).getD j none = some w := fun j w e1 => by rw [getD_setO hl, if_neg (ne j w e1), e1]
  refine ⟨by rw [List.length_set]; exact h.len, fun a ha z => ?_, fun a v ha z j hj' => ?_, fun a v ha z => ?_⟩
  · exact keep a 0 (h.z a ha z)
  · rw [getD_setO hl] at z
    by_cases y : a = i
    · rw [if_pos y] at z
      cases z
      rw [y] at hj'
      obtain ⟨w, e1, l⟩ := hj j hj'
      exact ⟨w, keep j w e1, by omega⟩
    · rw [if_neg y] at z
      obtain ⟨w, e1, l⟩ := h.so a v ha z j hj'
      exact ⟨w, keep j w e1, l⟩
  · rw [getD_setO hl] at z
    by_cases y : a = i
    · rw [if_pos y] at z
      cases z
      obtain ⟨j, hj', e1⟩ := hm
      rw [y]
      exact .inr ⟨j, hj', m, keep j m e1, rfl⟩
    · rw [if_neg y] at z
      rcases h.ex a v ha z with h1 | ⟨j, hj', w, e1, l⟩
      · exact .inl h1
      · exact .inr ⟨j, hj', w, keep j w e1, l⟩
end Gx

--W2
/-! Gx, data side 29: ends, sure ends, folds; the same as the laws reckon them. -/
namespace Gx
open PySem L2
local macro_rules | `(tactic| simp_arith [$xs,*]) => `(tactic| try simp only [eVar, eC, eBin, eUn, tBl, tAnd', tOr', tNot', eAnd, eOr, eNot, eIf, aNil, aCons, eTup, eLst, eLstM, eCall, eCallK, pick, sNext, sSeq, sBreak, sCont, sDrop, sRet, sRetN, sIf, sNever, gNm, gsNil, gsCons, gTupl, gSubs, sAsg, sPar, sPar3, sFor, iSeq, seqG_tup, seqG_lst, seqG_scr, iRange1, iRange2, iEnumG, iZipG, td_tup, td_lst, td_scr, eLc, eLcM, tYes', pNone, pSome, eSl, cu_tup, cu_lst, cu_scr, eMt, eMt0, mAppend, isL, rs_non, rs_bl, rs_int, rs_str, rs_tup, rs_lst', rs_scr, itemsOf_tup, itemsOf_lst, itemsOf_scr, oI, oI0, oSub, oFdiv, oMod, oPow, oShl, oShr, oAnd, oOr, oXor, oLt, oLe, oGt, oGe, oNeg, oIsN, oNotN, Gx.isNon, oAdd, oAdd', oMul, oMul', oMulM, oEq, oNe, oEqS, oNeS, oIn, oNin, eChain, oIx, oSet, cLen, cList, cListM, cTuple, cSum, cAll, cAny, cInt, cAbs, cMax2, cMin2, cDivmod, cGcd, cIsi, cRepr, lstInts, lstBls, startD, wipeD, List.map_cons, List.map_nil, List.length_cons, List.length_nil, List.cons_append, List.nil_append, List.replicate_succ, List.replicate_zero, List.set_cons_succ, List.set_cons_zero, List.getElem?_cons_succ, List.getElem?_cons_zero, List.filterMap_cons_some, List.filterMap_nil, Nat.reduceAdd, Nat.reduceSub, Nat.sub_self, Nat.reduceLT, Nat.reduceMul, Nat.zero_add, Nat.add_zero, if_true, if_false, and_true, true_and, and_false, false_and, or_true, true_or, or_false, false_or, not_true_eq_false, not_false_eq_true, Bool.not_true, Bool.not_false, Bool.false_eq_true, ite_true, ite_false, reduceIte, reduceCtorEq, eq_self, eDicT0, eDixT, gSubsT, keysOf, cListT, cSortedP, oSubB, oMulT, iZip2G, eDic0, eDic1, oDix, oDin, oDnin, oDset, iKeysG, cSortedE, cListD, Gx.keyOf, cMaxL, cMinL, cSortedI, mIndex, $xs,*])
/-! ### end_numbers -/
/-! ### states_of -/
/-! ### come_by, ends_by -/
theorem pow5 {n : Nat} (h : n ≤ 5) : 2 ^ n ≤ 32 := Nat.le_trans (Nat.pow_le_pow_right (by decide) h) (by decide)
/-! ### sure ends -/
theorem encK_inj (a b : List Nat) : D.lst (encK a) = .lst (encK b) ↔ a = b := by
  constructor
  · intro h
    injection h with h
    exact (List.map_inj_right (fun x y e => by injection e with e; omega)).mp h
  · intro h; rw [h]
theorem cl_Ks : ∀ l : List Nat, clL (encK l) = true
  | [] => rfl
  | a :: l => cl_Ks l
theorem eqD_KK (a b : List Nat) : eqD (.lst (encK a)) (.lst (encK b)) = decide (a = b) := by
  have h : eqD (.lst (encK a)) (.lst (encK b)) = true ↔ a = b := by
    have := eqD_clL (encK a) (encK b) (cl_Ks a) (cl_Ks b)
    refine Iff.trans this ?_
    rw [← encK_inj]
    exact ⟨fun h => by rw [h], fun h => by injection h⟩
  by_cases z : a = b
  · rw [decide_eq_true z, h.mpr z]
  · rw [decide_eq_false z]
    exact Bool.eq_false_iff.mpr fun y => z (h.mp y)
/-! ### what is asked -/
end Gx

--W2
/-! Gx, data side 30: moves, what is come to, rings and ends as the laws reckon them, by numbers. -/
namespace Gx
open PySem L2
local macro_rules | `(tactic| simp_arith [$xs,*]) => `(tactic| try simp only [eVar, eC, eBin, eUn, tBl, tAnd', tOr', tNot', eAnd, eOr, eNot, eIf, aNil, aCons, eTup, eLst, eLstM, eCall, eCallK, pick, sNext, sSeq, sBreak, sCont, sDrop, sRet, sRetN, sIf, sNever, gNm, gsNil, gsCons, gTupl, gSubs, sAsg, sPar, sPar3, sFor, iSeq, seqG_tup, seqG_lst, seqG_scr, iRange1, iRange2, iEnumG, iZipG, td_tup, td_lst, td_scr, eLc, eLcM, tYes', pNone, pSome, eSl, cu_tup, cu_lst, cu_scr, eMt, eMt0, mAppend, isL, rs_non, rs_bl, rs_int, rs_str, rs_tup, rs_lst', rs_scr, itemsOf_tup, itemsOf_lst, itemsOf_scr, oI, oI0, oSub, oFdiv, oMod, oPow, oShl, oShr, oAnd, oOr, oXor, oLt, oLe, oGt, oGe, oNeg, oIsN, oNotN, Gx.isNon, oAdd, oAdd', oMul, oMul', oMulM, oEq, oNe, oEqS, oNeS, oIn, oNin, eChain, oIx, oSet, cLen, cList, cListM, cTuple, cSum, cAll, cAny, cInt, cAbs, cMax2, cMin2, cDivmod, cGcd, cIsi, cRepr, lstInts, lstBls, startD, wipeD, List.map_cons, List.map_nil, List.length_cons, List.length_nil, List.cons_append, List.nil_append, List.replicate_succ, List.replicate_zero, List.set_cons_succ, List.set_cons_zero, List.getElem?_cons_succ, List.getElem?_cons_zero, List.filterMap_cons_some, List.filterMap_nil, Nat.reduceAdd, Nat.reduceSub, Nat.sub_self, Nat.reduceLT, Nat.reduceMul, Nat.zero_add, Nat.add_zero, if_true, if_false, and_true, true_and, and_false, false_and, or_true, true_or, or_false, false_or, not_true_eq_false, not_false_eq_true, Bool.not_true, Bool.not_false, Bool.false_eq_true, ite_true, ite_false, reduceIte, reduceCtorEq, eq_self, eDicT0, eDixT, gSubsT, keysOf, cListT, cSortedP, oSubB, oMulT, iZip2G, eDic0, eDic1, oDix, oDin, oDnin, oDset, iKeysG, cSortedE, cListD, Gx.keyOf, cMaxL, cMinL, cSortedI, mIndex, $xs,*])
/-! ### movers, moves -/
/-! ### what is come to -/
/-! ### rings -/
/-! ### ends, sure ones -/
end Gx

--W2
/-! Gx, data side 31: drawn nets of the second family. -/
namespace Gx
open PySem L2
local macro_rules | `(tactic| simp_arith [$xs,*]) => `(tactic| try simp only [eVar, eC, eBin, eUn, tBl, tAnd', tOr', tNot', eAnd, eOr, eNot, eIf, aNil, aCons, eTup, eLst, eLstM, eCall, eCallK, pick, sNext, sSeq, sBreak, sCont, sDrop, sRet, sRetN, sIf, sNever, gNm, gsNil, gsCons, gTupl, gSubs, sAsg, sPar, sPar3, sFor, iSeq, seqG_tup, seqG_lst, seqG_scr, iRange1, iRange2, iEnumG, iZipG, td_tup, td_lst, td_scr, eLc, eLcM, tYes', pNone, pSome, eSl, cu_tup, cu_lst, cu_scr, eMt, eMt0, mAppend, isL, rs_non, rs_bl, rs_int, rs_str, rs_tup, rs_lst', rs_scr, itemsOf_tup, itemsOf_lst, itemsOf_scr, oI, oI0, oSub, oFdiv, oMod, oPow, oShl, oShr, oAnd, oOr, oXor, oLt, oLe, oGt, oGe, oNeg, oIsN, oNotN, Gx.isNon, oAdd, oAdd', oMul, oMul', oMulM, oEq, oNe, oEqS, oNeS, oIn, oNin, eChain, oIx, oSet, cLen, cList, cListM, cTuple, cSum, cAll, cAny, cInt, cAbs, cMax2, cMin2, cDivmod, cGcd, cIsi, cRepr, lstInts, lstBls, startD, wipeD, List.map_cons, List.map_nil, List.length_cons, List.length_nil, List.cons_append, List.nil_append, List.replicate_succ, List.replicate_zero, List.set_cons_succ, List.set_cons_zero, List.getElem?_cons_succ, List.getElem?_cons_zero, List.filterMap_cons_some, List.filterMap_nil, Nat.reduceAdd, Nat.reduceSub, Nat.sub_self, Nat.reduceLT, Nat.reduceMul, Nat.zero_add, Nat.add_zero, if_true, if_false, and_true, true_and, and_false, false_and, or_true, true_or, or_false, false_or, not_true_eq_false, not_false_eq_true, Bool.not_true, Bool.not_false, Bool.false_eq_true, ite_true, ite_false, reduceIte, reduceCtorEq, eq_self, eDicT0, eDixT, gSubsT, keysOf, cListT, cSortedP, oSubB, oMulT, iZip2G, eDic0, eDic1, oDix, oDin, oDnin, oDset, iKeysG, cSortedE, cListD, Gx.keyOf, cMaxL, cMinL, cSortedI, mIndex, $xs,*])
def b_body_weight (γ__law_draw γ__law_lean γ__law_one : OL) : ST := sSeq (sAsg (eCall γ__law_draw (aCons (eVar 0) (aCons (eC (.int 9)) (aNil)))) (gNm 1))
  (sSeq (sIf (tBl (eBin oLt (eVar 1) (eC (.int 2)))) (sRet (eTup (aCons (eC (.int 0)) (aCons (eC (.int 1)) (aNil))))) (sNext))
  (sSeq (sIf (tBl (eBin oLt (eVar 1) (eC (.int 8)))) (sRet (eCall γ__law_lean (aCons (eCall γ__law_one (aCons (eVar 0) (aCons (eTup (aCons (eC (.int 1)) (aCons (eC (.int 1)) (aCons (eC (.int 2)) (aCons (eC (.int 3)) (aCons (eUn oNeg (eC (.int 1))) (aCons (eUn oNeg (eC (.int 2))) (aCons (eUn oNeg (eC (.int 1))) (aCons (eC (.int 1)) (aNil)))))))))) (aNil)))) (aCons (eCall γ__law_one (aCons (eVar 0) (aCons (eTup (aCons (eC (.int 1)) (aCons (eC (.int 1)) (aCons (eC (.int 1)) (aCons (eC (.int 2)) (aCons (eC (.int 3)) (aNil))))))) (aNil)))) (aNil))))) (sNext))
  (sRet (eCall γ__law_lean (aCons (eBin oSub (eCall γ__law_draw (aCons (eVar 0) (aCons (eC (.int 2000001)) (aNil)))) (eC (.int 1000000))) (aCons (eBin oAdd (eC (.int 1)) (eCall γ__law_draw (aCons (eVar 0) (aCons (eC (.int 60)) (aNil))))) (aNil)))))))
def b_body_marks (γ__law_one γ__law_draw γ__law_weight : OL) : ST := sSeq (sAsg (eLstM (aNil)) (gNm 2))
  (sSeq (sFor (iRange1 (aCons (eVar 1) (aNil))) (gNm 3) (sSeq (sAsg (eCall γ__law_one (aCons (eVar 0) (aCons (eTup (aCons (eTup (aCons (eC (.int 1)) (aCons (eC (.int 2)) (aNil)))) (aCons (eTup (aCons (eC (.int 1)) (aCons (eC (.int 2)) (aNil)))) (aCons (eTup (aCons (eC (.int 0)) (aCons (eC (.int 1)) (aNil)))) (aCons (eTup (aCons (eC (.int 1)) (aCons (eC (.int 1)) (aNil)))) (aCons (eTup (aCons (eUn oNeg (eC (.int 1))) (aCons (eC (.int 2)) (aNil)))) (aCons (eTup (aCons (eC (.int 3)) (aCons (eC (.int 2)) (aNil)))) (aCons (eTup (aCons (eUn oNeg (eC (.int 1))) (aCons (eC (.int 1)) (aNil)))) (aCons (eTup (aCons (eC (.int 1)) (aCons (eC (.int 3)) (aNil)))) (aNil)))))))))) (aNil)))) (gNm 4))
  (sDrop (eMt mAppend (eVar 2) (aCons (eIf (tBl (eBin oEq (eCall γ__law_draw (aCons (eVar 0) (aCons (eC (.int 6)) (aNil)))) (eC (.int 0)))) (eCall γ__law_weight (aCons (eVar 0) (aNil))) (eVar 4)) (aNil))))))
  (sRet (eCall cTuple (aCons (eVar 2) (aNil)))))
def b_body_any_net (γ__law_weight γ__law_marks : OL) : ST := sSeq (sAsg (eLstM (aNil)) (gNm 2))
  (sSeq (sFor (iRange1 (aCons (eVar 1) (aNil))) (gNm 3) (sSeq (sAsg (eLstM (aNil)) (gNm 4))
  (sSeq (sFor (iRange1 (aCons (eVar 1) (aNil))) (gNm 5) (sDrop (eMt mAppend (eVar 4) (aCons (eIf (tBl (eBin oNe (eVar 3) (eVar 5))) (eCall γ__law_weight (aCons (eVar 0) (aNil))) (eTup (aCons (eC (.int 0)) (aCons (eC (.int 1)) (aNil))))) (aNil)))))
  (sDrop (eMt mAppend (eVar 2) (aCons (eCall cTuple (aCons (eVar 4) (aNil))) (aNil)))))))
  (sRet (eTup (aCons (eCall cTuple (aCons (eVar 2) (aNil))) (aCons (eCall γ__law_marks (aCons (eVar 0) (aCons (eVar 1) (aNil)))) (aNil))))))
def b_body_scaled_net (γ__law_draw γ__law_one γ__law_weight γ__law_over γ__law_marks : OL) : ST := sSeq (sPar 4 5 (aCons (eLstM (aNil)) (aCons (eLcM (iRange1 (aCons (eVar 1) (aNil))) (gNm 3) (tYes') (eBin oMulM (eLst (aCons (eTup (aCons (eC (.int 0)) (aCons (eC (.int 1)) (aNil)))) (aNil))) (eVar 1)) [3]) (aNil))))
  (sSeq (sAsg (eBin oEq (eCall γ__law_draw (aCons (eVar 0) (aCons (eC (.int 2)) (aNil)))) (eC (.int 0))) (gNm 2))
  (sSeq (sFor (iRange1 (aCons (eVar 1) (aNil))) (gNm 3) (sDrop (eMt mAppend (eVar 4) (aCons (eIf (tBl (eVar 2)) (eTup (aCons (eC (.int 1)) (aCons (eC (.int 1)) (aNil)))) (eCall γ__law_one (aCons (eVar 0) (aCons (eTup (aCons (eTup (aCons (eC (.int 1)) (aCons (eC (.int 1)) (aNil)))) (aCons (eTup (aCons (eC (.int 2)) (aCons (eC (.int 1)) (aNil)))) (aCons (eTup (aCons (eC (.int 1)) (aCons (eC (.int 2)) (aNil)))) (aCons (eTup (aCons (eC (.int 3)) (aCons (eC (.int 1)) (aNil)))) (aCons (eTup (aCons (eC (.int 2)) (aCons (eC (.int 3)) (aNil)))) (aNil))))))) (aNil))))) (aNil)))))
  (sSeq (sFor (iRange1 (aCons (eVar 1) (aNil))) (gNm 3) (sFor (iRange1 (aCons (eVar 3) (aNil))) (gNm 6) (sSeq (sAsg (eCall γ__law_weight (aCons (eVar 0) (aNil))) (gNm 7))
  (sSeq (sAsg (eCall γ__law_over (aCons (eVar 7) (aCons (eBin oIx (eVar 4) (eVar 3)) (aNil)))) (gSubs (eBin oIx (eVar 5) (eVar 3)) (eVar 6) oSet))
  (sAsg (eCall γ__law_over (aCons (eVar 7) (aCons (eBin oIx (eVar 4) (eVar 6)) (aNil)))) (gSubs (eBin oIx (eVar 5) (eVar 6)) (eVar 3) oSet))))))
  (sRet (eTup (aCons (eTup (aCons (eCall cTuple (aCons (eLc (iSeq (eVar 5)) (gNm 8) (tYes') (eCall cTuple (aCons (eVar 8) (aNil))) [8]) (aNil))) (aCons (eCall γ__law_marks (aCons (eVar 0) (aCons (eVar 1) (aNil)))) (aNil)))) (aCons (eCall cTuple (aCons (eVar 4) (aNil))) (aNil))))))))
def b_body_wheel (γ__law_one : OL) : ST := sSeq (sPar 3 4 (aCons (eLcM (iRange1 (aCons (eVar 1) (aNil))) (gNm 2) (tYes') (eBin oMulM (eLst (aCons (eTup (aCons (eC (.int 0)) (aCons (eC (.int 1)) (aNil)))) (aNil))) (eVar 1)) [2]) (aCons (eLstM (aNil)) (aNil))))
  (sSeq (sFor (iRange1 (aCons (eVar 1) (aNil))) (gNm 2) (sSeq (sAsg (eCall γ__law_one (aCons (eVar 0) (aCons (eTup (aCons (eC (.int 1)) (aCons (eC (.int 1)) (aCons (eC (.int 1)) (aCons (eUn oNeg (eC (.int 1))) (aNil)))))) (aNil)))) (gNm 5))
  (sSeq (sAsg (eTup (aCons (eIf (tBl (eBin oGt (eVar 1) (eC (.int 1)))) (eVar 5) (eC (.int 0))) (aCons (eC (.int 1)) (aNil)))) (gSubs (eBin oIx (eVar 3) (eVar 2)) (eBin oMod (eCall cInt (aCons (eBin oAdd (eVar 2) (eC (.int 1))) (aNil))) (eVar 1)) oSet))
  (sDrop (eMt mAppend (eVar 4) (aCons (eTup (aCons (eVar 5) (aCons (eC (.int 2)) (aNil)))) (aNil)))))))
  (sRet (eTup (aCons (eCall cTuple (aCons (eLc (iSeq (eVar 3)) (gNm 6) (tYes') (eCall cTuple (aCons (eVar 6) (aNil))) [6]) (aNil))) (aCons (eCall cTuple (aCons (eVar 4) (aNil))) (aNil))))))
def b_body_net (γ__law_draw γ__law_wheel γ__law_any_net γ__law_scaled_net : OL) : ST := sSeq (sAsg (eCall γ__law_draw (aCons (eVar 0) (aCons (eC (.int 5)) (aNil)))) (gNm 2))
  (sSeq (sIf (tBl (eBin oEq (eVar 2) (eC (.int 0)))) (sRet (eCall γ__law_wheel (aCons (eVar 0) (aCons (eVar 1) (aNil))))) (sNext))
  (sRet (eIf (tBl (eBin oLt (eVar 2) (eC (.int 3)))) (eCall γ__law_any_net (aCons (eVar 0) (aCons (eVar 1) (aNil)))) (eBin oIx (eCall γ__law_scaled_net (aCons (eVar 0) (aCons (eVar 1) (aNil)))) (eC (.int 0))))))

abbrev PB : Rat → Prop := Bd 1000000 6
theorem b_law_weight : Law 2 (γ_frac PB) (b_body_weight γ_draw γ_ratio γ_one) :=
  law_weight2 (xs := [1, 1, 2, 3, -1, -2, -1, 1]) (ys := [1, 1, 1, 2, 3]) (by repeat' (first | exact kc_c _ | exact kc_neg _ | exact kca_nil | refine kca_cons ?_ ?_ | refine kc_tup ?_)) (by repeat' (first | exact kc_c _ | exact kc_neg _ | exact kca_nil | refine kca_cons ?_ ?_ | refine kc_tup ?_)) (by decide) (by decide) (by decide) (by decide)
theorem b_law_marks : Law 5 (γ_marks PB) (b_body_marks γ_one γ_draw (γ_frac PB)) :=
  law_marks (A := 3) (b := 2) (xs := [.tup [.int 1, .int 2], .tup [.int 1, .int 2], .tup [.int 0, .int 1], .tup [.int 1, .int 1], .tup [.int (-1), .int 2], .tup [.int 3, .int 2], .tup [.int (-1), .int 1], .tup [.int 1, .int 3]]) (by repeat' (first | exact kc_c _ | exact kc_neg _ | exact kca_nil | refine kca_cons ?_ ?_ | refine kc_tup ?_)) (by decide) (by decide) (fun q h => h.mono (by decide) (by decide))
theorem b_law_any : Law 6 (γ_net PB PB) (b_body_any_net (γ_frac PB) (γ_marks PB)) := law_any2 ⟨by decide, by decide⟩
theorem b_law_scaled : Law 9 γ_scaled2 (b_body_scaled_net γ_draw γ_one (γ_frac PB) γ_over (γ_marks PB)) :=
  law_scaled2 (xs := [.tup [.int 1, .int 1], .tup [.int 2, .int 1], .tup [.int 1, .int 2], .tup [.int 3, .int 1], .tup [.int 2, .int 3]]) (by repeat' (first | exact kc_c _ | exact kc_neg _ | exact kca_nil | refine kca_cons ?_ ?_ | refine kc_tup ?_)) (by decide) (by decide)
theorem b_law_wheel : Law 7 (γ_wheel (Bd 1 1) (Bd 1 2)) (b_body_wheel γ_one) :=
  law_wheel (xs := [1, 1, 1, -1]) (by repeat' (first | exact kc_c _ | exact kc_neg _ | exact kca_nil | refine kca_cons ?_ ?_ | refine kc_tup ?_)) (by decide) (by decide)
abbrev PN : Rat → Prop := Bd 2000000 8
theorem drn_mono {P M P' M' : Rat → Prop} {N : Net} (d : Drn P M N) (h1 : ∀ q, P q → P' q) (h2 : ∀ q, M q → M' q) : Drn P' M' N := ⟨fun r hr q hq => h1 q (d.w r hr q hq), fun q hq => h2 q (d.m q hq)⟩
theorem pn_of {A b : Nat} (h1 : A ≤ 2000000 := by decide) (h2 : b ≤ 8 := by decide) : ∀ q, Bd A b q → PN q := fun q h => h.mono h1 h2
theorem b_law_net : Law 3 (γ_net PN PN) (b_body_net γ_draw (γ_wheel (Bd 1 1) (Bd 1 2)) (γ_net PB PB) γ_scaled2) := by
  intro ds S R ⟨p, n, e, hw, ⟨h1, h8⟩, h⟩
  subst e
  unfold b_body_net
  refine seqK fun k hk => ?_
  unfold γ_draw
  simp_arith []
  refine ⟨p, _, rfl, hw, by decide, fun r S1 r0 r1 d1 => ?_⟩
  rw [hk]
  refine seqK fun k hk => ?_
  unfold γ_wheel
  simp_arith [pl_int, eqD_int]
  by_cases z : r = 0
  · simp_arith [z, decide_true]
    exact ⟨p, n, rfl, d1.well, ⟨h1, h8⟩, fun N S2 ok hn dr d2 => fin_of (h N S2 ok hn (drn_mono dr (pn_of) (pn_of)) (d1.trans d2))⟩
  · simp_arith [z, decide_false]
    rw [hk]
    unfold γ_net γ_scaled2
    simp_arith []
    by_cases y : r < 3
    · simp_arith [y, decide_true]
      exact ⟨p, n, rfl, d1.well, ⟨h1, h8⟩, fun N S2 ok hn dr d2 => fin_of (h N S2 ok hn (drn_mono dr (pn_of) (pn_of)) (d1.trans d2))⟩
    · simp_arith [y, decide_false]
      refine ⟨p, n, rfl, d1.well, ⟨h1, h8⟩, fun N sc S2 ok hn dr sd hsc d2 => ?_⟩
      simp_arith [atI_0]
      exact fin_of (h N S2 ok hn (drn_mono dr (pn_of) (pn_of)) (d1.trans d2))
end Gx

--W2
/-! Gx, data side 32: drawn helping nets; movers as a tuple. -/
namespace Gx
open PySem L2
local macro_rules | `(tactic| simp_arith [$xs,*]) => `(tactic| try simp only [eVar, eC, eBin, eUn, tBl, tAnd', tOr', tNot', eAnd, eOr, eNot, eIf, aNil, aCons, eTup, eLst, eLstM, eCall, eCallK, pick, sNext, sSeq, sBreak, sCont, sDrop, sRet, sRetN, sIf, sNever, gNm, gsNil, gsCons, gTupl, gSubs, sAsg, sPar, sPar3, sFor, iSeq, seqG_tup, seqG_lst, seqG_scr, iRange1, iRange2, iEnumG, iZipG, td_tup, td_lst, td_scr, eLc, eLcM, tYes', pNone, pSome, eSl, cu_tup, cu_lst, cu_scr, eMt, eMt0, mAppend, isL, rs_non, rs_bl, rs_int, rs_str, rs_tup, rs_lst', rs_scr, itemsOf_tup, itemsOf_lst, itemsOf_scr, oI, oI0, oSub, oFdiv, oMod, oPow, oShl, oShr, oAnd, oOr, oXor, oLt, oLe, oGt, oGe, oNeg, oIsN, oNotN, Gx.isNon, oAdd, oAdd', oMul, oMul', oMulM, oEq, oNe, oEqS, oNeS, oIn, oNin, eChain, oIx, oSet, cLen, cList, cListM, cTuple, cSum, cAll, cAny, cInt, cAbs, cMax2, cMin2, cDivmod, cGcd, cIsi, cRepr, lstInts, lstBls, startD, wipeD, List.map_cons, List.map_nil, List.length_cons, List.length_nil, List.cons_append, List.nil_append, List.replicate_succ, List.replicate_zero, List.set_cons_succ, List.set_cons_zero, List.getElem?_cons_succ, List.getElem?_cons_zero, List.filterMap_cons_some, List.filterMap_nil, Nat.reduceAdd, Nat.reduceSub, Nat.sub_self, Nat.reduceLT, Nat.reduceMul, Nat.zero_add, Nat.add_zero, if_true, if_false, and_true, true_and, and_false, false_and, or_true, true_or, or_false, false_or, not_true_eq_false, not_false_eq_true, Bool.not_true, Bool.not_false, Bool.false_eq_true, ite_true, ite_false, reduceIte, reduceCtorEq, eq_self, eDicT0, eDixT, gSubsT, keysOf, cListT, cSortedP, oSubB, oMulT, iZip2G, eDic0, eDic1, oDix, oDin, oDnin, oDset, iKeysG, cSortedE, cListD, Gx.keyOf, cMaxL, cMinL, cSortedI, mIndex, $xs,*])
local macro_rules | `(tactic| simp_arith! [$xs,*]) => `(tactic| try simp only [eVar, eC, eBin, eUn, tBl, tAnd', tOr', tNot', eAnd, eOr, eNot, eIf, aNil, aCons, eTup, eLst, eLstM, eCall, eCallK, pick, sNext, sSeq, sBreak, sCont, sDrop, sRet, sRetN, sIf, sNever, gNm, gsNil, gsCons, gTupl, gSubs, sAsg, sPar, sPar3, sFor, iSeq, seqG_tup, seqG_lst, seqG_scr, iRange1, iRange2, iEnumG, iZipG, td_tup, td_lst, td_scr, eLc, eLcM, tYes', pNone, pSome, eSl, cu_tup, cu_lst, cu_scr, eMt, eMt0, mAppend, isL, rs_non, rs_bl, rs_int, rs_str, rs_tup, rs_lst', rs_scr, itemsOf_tup, itemsOf_lst, itemsOf_scr, oI, oI0, oSub, oFdiv, oMod, oPow, oShl, oShr, oAnd, oOr, oXor, oLt, oLe, oGt, oGe, oNeg, oIsN, oNotN, Gx.isNon, oAdd, oAdd', oMul, oMul', oMulM, oEq, oNe, oEqS, oNeS, oIn, oNin, eChain, oIx, oSet, cLen, cList, cListM, cTuple, cSum, cAll, cAny, cInt, cAbs, cMax2, cMin2, cDivmod, cGcd, cIsi, cRepr, lstInts, lstBls, startD, wipeD, List.map_cons, List.map_nil, List.length_cons, List.length_nil, List.cons_append, List.nil_append, List.replicate_succ, List.replicate_zero, List.set_cons_succ, List.set_cons_zero, List.getElem?_cons_succ, List.getElem?_cons_zero, List.filterMap_cons_some, List.filterMap_nil, Nat.reduceAdd, Nat.reduceSub, Nat.sub_self, Nat.reduceLT, Nat.reduceMul, Nat.zero_add, Nat.add_zero, if_true, if_false, and_true, true_and, and_false, false_and, or_true, true_or, or_false, false_or, not_true_eq_false, not_false_eq_true, Bool.not_true, Bool.not_false, Bool.false_eq_true, ite_true, ite_false, reduceIte, reduceCtorEq, eq_self, eDicT0, eDixT, gSubsT, keysOf, cListT, cSortedP, oSubB, oMulT, iZip2G, eDic0, eDic1, oDix, oDin, oDnin, oDset, iKeysG, cSortedE, cListD, Gx.keyOf, cMaxL, cMinL, cSortedI, mIndex, rs_N, rs_W, rs_Row, rs_S, rs_R, rs_B, it_N, it_W, it_Row, it_S, it_R, sq_W, sq_Row, sq_S, td_N, td_W, td_Row, td_S, rs_I, it_I, sq_I, td_I, rs_Ss, it_Ss, sq_Ss, td_Ss, cu_S, cu_W, cu_Row, atI_0, atI_1, $xs,*])
end Gx

--W2
/-! Gx, data side 33: helping nets: from some states all moves lead to one rest. Plain. -/
namespace Gx
open PySem L2
/-! ### rising -/
section
variable {N : Net} (ok : N.Ok) (hp : helping N = true)
include ok hp
/-! ### falling -/
end
section
variable {N : Net} (ok : N.Ok) (hp : helping N = true)
include ok hp
end
/-! ### what that means for ends -/
end Gx

--W2
/-! Gx, data side 34: rests of helping nets. -/
namespace Gx
open PySem L2
local macro_rules | `(tactic| simp_arith [$xs,*]) => `(tactic| try simp only [eVar, eC, eBin, eUn, tBl, tAnd', tOr', tNot', eAnd, eOr, eNot, eIf, aNil, aCons, eTup, eLst, eLstM, eCall, eCallK, pick, sNext, sSeq, sBreak, sCont, sDrop, sRet, sRetN, sIf, sNever, gNm, gsNil, gsCons, gTupl, gSubs, sAsg, sPar, sPar3, sFor, iSeq, seqG_tup, seqG_lst, seqG_scr, iRange1, iRange2, iEnumG, iZipG, td_tup, td_lst, td_scr, eLc, eLcM, tYes', pNone, pSome, eSl, cu_tup, cu_lst, cu_scr, eMt, eMt0, mAppend, isL, rs_non, rs_bl, rs_int, rs_str, rs_tup, rs_lst', rs_scr, itemsOf_tup, itemsOf_lst, itemsOf_scr, oI, oI0, oSub, oFdiv, oMod, oPow, oShl, oShr, oAnd, oOr, oXor, oLt, oLe, oGt, oGe, oNeg, oIsN, oNotN, Gx.isNon, oAdd, oAdd', oMul, oMul', oMulM, oEq, oNe, oEqS, oNeS, oIn, oNin, eChain, oIx, oSet, cLen, cList, cListM, cTuple, cSum, cAll, cAny, cInt, cAbs, cMax2, cMin2, cDivmod, cGcd, cIsi, cRepr, lstInts, lstBls, startD, wipeD, List.map_cons, List.map_nil, List.length_cons, List.length_nil, List.cons_append, List.nil_append, List.replicate_succ, List.replicate_zero, List.set_cons_succ, List.set_cons_zero, List.getElem?_cons_succ, List.getElem?_cons_zero, List.filterMap_cons_some, List.filterMap_nil, Nat.reduceAdd, Nat.reduceSub, Nat.sub_self, Nat.reduceLT, Nat.reduceMul, Nat.zero_add, Nat.add_zero, if_true, if_false, and_true, true_and, and_false, false_and, or_true, true_or, or_false, false_or, not_true_eq_false, not_false_eq_true, Bool.not_true, Bool.not_false, Bool.false_eq_true, ite_true, ite_false, reduceIte, reduceCtorEq, eq_self, eDicT0, eDixT, gSubsT, keysOf, cListT, cSortedP, oSubB, oMulT, iZip2G, eDic0, eDic1, oDix, oDin, oDnin, oDset, iKeysG, cSortedE, cListD, Gx.keyOf, cMaxL, cMinL, cSortedI, mIndex, $xs,*])
local macro_rules | `(tactic| simp_arith! [$xs,*]) => `(tactic| try simp only [eVar, eC, eBin, eUn, tBl, tAnd', tOr', tNot', eAnd, eOr, eNot, eIf, aNil, aCons, eTup, eLst, eLstM, eCall, eCallK, pick, sNext, sSeq, sBreak, sCont, sDrop, sRet, sRetN, sIf, sNever, gNm, gsNil, gsCons, gTupl, gSubs, sAsg, sPar, sPar3, sFor, iSeq, seqG_tup, seqG_lst, seqG_scr, iRange1, iRange2, iEnumG, iZipG, td_tup, td_lst, td_scr, eLc, eLcM, tYes', pNone, pSome, eSl, cu_tup, cu_lst, cu_scr, eMt, eMt0, mAppend, isL, rs_non, rs_bl, rs_int, rs_str, rs_tup, rs_lst', rs_scr, itemsOf_tup, itemsOf_lst, itemsOf_scr, oI, oI0, oSub, oFdiv, oMod, oPow, oShl, oShr, oAnd, oOr, oXor, oLt, oLe, oGt, oGe, oNeg, oIsN, oNotN, Gx.isNon, oAdd, oAdd', oMul, oMul', oMulM, oEq, oNe, oEqS, oNeS, oIn, oNin, eChain, oIx, oSet, cLen, cList, cListM, cTuple, cSum, cAll, cAny, cInt, cAbs, cMax2, cMin2, cDivmod, cGcd, cIsi, cRepr, lstInts, lstBls, startD, wipeD, List.map_cons, List.map_nil, List.length_cons, List.length_nil, List.cons_append, List.nil_append, List.replicate_succ, List.replicate_zero, List.set_cons_succ, List.set_cons_zero, List.getElem?_cons_succ, List.getElem?_cons_zero, List.filterMap_cons_some, List.filterMap_nil, Nat.reduceAdd, Nat.reduceSub, Nat.sub_self, Nat.reduceLT, Nat.reduceMul, Nat.zero_add, Nat.add_zero, if_true, if_false, and_true, true_and, and_false, false_and, or_true, true_or, or_false, false_or, not_true_eq_false, not_false_eq_true, Bool.not_true, Bool.not_false, Bool.false_eq_true, ite_true, ite_false, reduceIte, reduceCtorEq, eq_self, eDicT0, eDixT, gSubsT, keysOf, cListT, cSortedP, oSubB, oMulT, iZip2G, eDic0, eDic1, oDix, oDin, oDnin, oDset, iKeysG, cSortedE, cListD, Gx.keyOf, cMaxL, cMinL, cSortedI, mIndex, rs_N, rs_W, rs_Row, rs_S, rs_R, rs_B, it_N, it_W, it_Row, it_S, it_R, sq_W, sq_Row, sq_S, td_N, td_W, td_Row, td_S, rs_I, it_I, sq_I, td_I, rs_Ss, it_Ss, sq_Ss, td_Ss, cu_S, cu_W, cu_Row, atI_0, atI_1, $xs,*])
/-! ### what two states share -/
/-! ### sunk -/
/-! ### what is asked -/
/-! ### settling, as the laws do it -/
end Gx

--W2
/-! Gx, data side 35: states below one another, lists of the laws' own; one of them; the end of laws whose first lap is told. -/
namespace Gx
open PySem L2
local macro_rules | `(tactic| simp_arith [$xs,*]) => `(tactic| try simp only [eVar, eC, eBin, eUn, tBl, tAnd', tOr', tNot', eAnd, eOr, eNot, eIf, aNil, aCons, eTup, eLst, eLstM, eCall, eCallK, pick, sNext, sSeq, sBreak, sCont, sDrop, sRet, sRetN, sIf, sNever, gNm, gsNil, gsCons, gTupl, gSubs, sAsg, sPar, sPar3, sFor, iSeq, seqG_tup, seqG_lst, seqG_scr, iRange1, iRange2, iEnumG, iZipG, td_tup, td_lst, td_scr, eLc, eLcM, tYes', pNone, pSome, eSl, cu_tup, cu_lst, cu_scr, eMt, eMt0, mAppend, isL, rs_non, rs_bl, rs_int, rs_str, rs_tup, rs_lst', rs_scr, itemsOf_tup, itemsOf_lst, itemsOf_scr, oI, oI0, oSub, oFdiv, oMod, oPow, oShl, oShr, oAnd, oOr, oXor, oLt, oLe, oGt, oGe, oNeg, oIsN, oNotN, Gx.isNon, oAdd, oAdd', oMul, oMul', oMulM, oEq, oNe, oEqS, oNeS, oIn, oNin, eChain, oIx, oSet, cLen, cList, cListM, cTuple, cSum, cAll, cAny, cInt, cAbs, cMax2, cMin2, cDivmod, cGcd, cIsi, cRepr, lstInts, lstBls, startD, wipeD, List.map_cons, List.map_nil, List.length_cons, List.length_nil, List.cons_append, List.nil_append, List.replicate_succ, List.replicate_zero, List.set_cons_succ, List.set_cons_zero, List.getElem?_cons_succ, List.getElem?_cons_zero, List.filterMap_cons_some, List.filterMap_nil, Nat.reduceAdd, Nat.reduceSub, Nat.sub_self, Nat.reduceLT, Nat.reduceMul, Nat.zero_add, Nat.add_zero, if_true, if_false, and_true, true_and, and_false, false_and, or_true, true_or, or_false, false_or, not_true_eq_false, not_false_eq_true, Bool.not_true, Bool.not_false, Bool.false_eq_true, ite_true, ite_false, reduceIte, reduceCtorEq, eq_self, eDicT0, eDixT, gSubsT, keysOf, cListT, cSortedP, oSubB, oMulT, iZip2G, eDic0, eDic1, oDix, oDin, oDnin, oDset, iKeysG, cSortedE, cListD, Gx.keyOf, cMaxL, cMinL, cSortedI, mIndex, $xs,*])
local macro_rules | `(tactic| simp_arith! [$xs,*]) => `(tactic| try simp only [eVar, eC, eBin, eUn, tBl, tAnd', tOr', tNot', eAnd, eOr, eNot, eIf, aNil, aCons, eTup, eLst, eLstM, eCall, eCallK, pick, sNext, sSeq, sBreak, sCont, sDrop, sRet, sRetN, sIf, sNever, gNm, gsNil, gsCons, gTupl, gSubs, sAsg, sPar, sPar3, sFor, iSeq, seqG_tup, seqG_lst, seqG_scr, iRange1, iRange2, iEnumG, iZipG, td_tup, td_lst, td_scr, eLc, eLcM, tYes', pNone, pSome, eSl, cu_tup, cu_lst, cu_scr, eMt, eMt0, mAppend, isL, rs_non, rs_bl, rs_int, rs_str, rs_tup, rs_lst', rs_scr, itemsOf_tup, itemsOf_lst, itemsOf_scr, oI, oI0, oSub, oFdiv, oMod, oPow, oShl, oShr, oAnd, oOr, oXor, oLt, oLe, oGt, oGe, oNeg, oIsN, oNotN, Gx.isNon, oAdd, oAdd', oMul, oMul', oMulM, oEq, oNe, oEqS, oNeS, oIn, oNin, eChain, oIx, oSet, cLen, cList, cListM, cTuple, cSum, cAll, cAny, cInt, cAbs, cMax2, cMin2, cDivmod, cGcd, cIsi, cRepr, lstInts, lstBls, startD, wipeD, List.map_cons, List.map_nil, List.length_cons, List.length_nil, List.cons_append, List.nil_append, List.replicate_succ, List.replicate_zero, List.set_cons_succ, List.set_cons_zero, List.getElem?_cons_succ, List.getElem?_cons_zero, List.filterMap_cons_some, List.filterMap_nil, Nat.reduceAdd, Nat.reduceSub, Nat.sub_self, Nat.reduceLT, Nat.reduceMul, Nat.zero_add, Nat.add_zero, if_true, if_false, and_true, true_and, and_false, false_and, or_true, true_or, or_false, false_or, not_true_eq_false, not_false_eq_true, Bool.not_true, Bool.not_false, Bool.false_eq_true, ite_true, ite_false, reduceIte, reduceCtorEq, eq_self, eDicT0, eDixT, gSubsT, keysOf, cListT, cSortedP, oSubB, oMulT, iZip2G, eDic0, eDic1, oDix, oDin, oDnin, oDset, iKeysG, cSortedE, cListD, Gx.keyOf, cMaxL, cMinL, cSortedI, mIndex, rs_N, rs_W, rs_Row, rs_S, rs_R, rs_B, it_N, it_W, it_Row, it_S, it_R, sq_W, sq_Row, sq_S, td_N, td_W, td_Row, td_S, rs_I, it_I, sq_I, td_I, rs_Ss, it_Ss, sq_Ss, td_Ss, cu_S, cu_W, cu_Row, atI_0, atI_1, $xs,*])
/-! ### lists that stand somewhere, or are handed about -/
/-! ### laws whose first lap is told -/
end Gx

--W2
/-! Gx, data side 36: the draws of the third family; fractions, states, what is the same. -/
namespace Gx
open PySem L2
local macro_rules | `(tactic| simp_arith [$xs,*]) => `(tactic| try simp only [eVar, eC, eBin, eUn, tBl, tAnd', tOr', tNot', eAnd, eOr, eNot, eIf, aNil, aCons, eTup, eLst, eLstM, eCall, eCallK, pick, sNext, sSeq, sBreak, sCont, sDrop, sRet, sRetN, sIf, sNever, gNm, gsNil, gsCons, gTupl, gSubs, sAsg, sPar, sPar3, sFor, iSeq, seqG_tup, seqG_lst, seqG_scr, iRange1, iRange2, iEnumG, iZipG, td_tup, td_lst, td_scr, eLc, eLcM, tYes', pNone, pSome, eSl, cu_tup, cu_lst, cu_scr, eMt, eMt0, mAppend, isL, rs_non, rs_bl, rs_int, rs_str, rs_tup, rs_lst', rs_scr, itemsOf_tup, itemsOf_lst, itemsOf_scr, oI, oI0, oSub, oFdiv, oMod, oPow, oShl, oShr, oAnd, oOr, oXor, oLt, oLe, oGt, oGe, oNeg, oIsN, oNotN, Gx.isNon, oAdd, oAdd', oMul, oMul', oMulM, oEq, oNe, oEqS, oNeS, oIn, oNin, eChain, oIx, oSet, cLen, cList, cListM, cTuple, cSum, cAll, cAny, cInt, cAbs, cMax2, cMin2, cDivmod, cGcd, cIsi, cRepr, lstInts, lstBls, startD, wipeD, List.map_cons, List.map_nil, List.length_cons, List.length_nil, List.cons_append, List.nil_append, List.replicate_succ, List.replicate_zero, List.set_cons_succ, List.set_cons_zero, List.getElem?_cons_succ, List.getElem?_cons_zero, List.filterMap_cons_some, List.filterMap_nil, Nat.reduceAdd, Nat.reduceSub, Nat.sub_self, Nat.reduceLT, Nat.reduceMul, Nat.zero_add, Nat.add_zero, if_true, if_false, and_true, true_and, and_false, false_and, or_true, true_or, or_false, false_or, not_true_eq_false, not_false_eq_true, Bool.not_true, Bool.not_false, Bool.false_eq_true, ite_true, ite_false, reduceIte, reduceCtorEq, eq_self, eDicT0, eDixT, gSubsT, keysOf, cListT, cSortedP, oSubB, oMulT, iZip2G, eDic0, eDic1, oDix, oDin, oDnin, oDset, iKeysG, cSortedE, cListD, Gx.keyOf, cMaxL, cMinL, cSortedI, mIndex, $xs,*])
/-! ### fractions -/
/-! ### states -/
/-! ### the same -/
end Gx

--W2
/-! Gx, data side 37: drawn nets of the third family. -/
namespace Gx
open PySem L2
/-! ### comprehensions that draw -/
/-! ### the net -/
structure Bn (n : Nat) (p p3 p4 : Addr) (qs : List Addr) (S0 S : Sto) (ws : List (List Rat)) : Prop where
  f : Fil n p p3 qs S0 S ws
  gr : Grw (Bd 24 2) p p4 S0 S [] 0
  hb : ∀ a b, a < n → b < n → Bd 3 2 (ent ws a b)
  hd : ∀ a, a < n → ent ws a a = 0
theorem Bn.drw {n : Nat} {p p3 p4 : Addr} {qs : List Addr} {S0 S S' : Sto} {ws : List (List Rat)} (b : Bn n p p3 p4 qs S0 S ws) (d : Drw p S S') : Bn n p p3 p4 qs S0 S' ws := ⟨b.f.drw d, b.gr.drw d, b.hb, b.hd⟩
theorem Bn.put {n : Nat} {p p3 p4 : Addr} {qs : List Addr} {S0 S : Sto} {ws : List (List Rat)} (b : Bn n p p3 p4 qs S0 S ws) (n4 : p4 ∉ qs) {a t : Nat} (ha : a < n) (ht : t < n) (hat : a ≠ t) {v : Rat} (hv : Bd 3 2 v) :
    Bn n p p3 p4 qs S0 (up S (qs.getD a 0) (.lst (((ws.getD a []).set t v).map encR))) (putW ws a t v) := by
  have f3 := b.f.put (t := t) ha v
  have r4 : up S (qs.getD a 0) (.lst (((ws.getD a []).set t v).map encR)) p4 = some (.lst (([] : List Rat).map encR)) := by
    rw [up_ne fun z => n4 (by rw [z]; exact getD_mem (by rw [b.f.len]; exact ha))]
    exact b.gr.at'
  refine ⟨f3, ⟨f3.ext, b.gr.own, r4, b.gr.len, b.gr.ok⟩, fun x y hx hy => ?_, fun x hx => ?_⟩
  · rw [ent_put b.f.sq ha ht]
    split
    · exact hv
    · exact b.hb x y hx hy
  · rw [ent_put b.f.sq ha ht, if_neg (show ¬ (a = x ∧ t = x) from fun c => hat (c.1.trans c.2.symm))]
    exact b.hd x hx
abbrev PT : Rat → Prop := Bd 12 4
end Gx

--W2
set_option maxHeartbeats 16000000
/-! Gx, data side 38: drawn nets of the third family: the walk. -/
namespace Gx
open PySem L2
local macro_rules | `(tactic| simp_arith [$xs,*]) => `(tactic| try simp only [eVar, eC, eBin, eUn, tBl, tAnd', tOr', tNot', eAnd, eOr, eNot, eIf, aNil, aCons, eTup, eLst, eLstM, eCall, eCallK, pick, sNext, sSeq, sBreak, sCont, sDrop, sRet, sRetN, sIf, sNever, gNm, gsNil, gsCons, gTupl, gSubs, sAsg, sPar, sPar3, sFor, iSeq, seqG_tup, seqG_lst, seqG_scr, iRange1, iRange2, iEnumG, iZipG, td_tup, td_lst, td_scr, eLc, eLcM, tYes', pNone, pSome, eSl, cu_tup, cu_lst, cu_scr, eMt, eMt0, mAppend, isL, rs_non, rs_bl, rs_int, rs_str, rs_tup, rs_lst', rs_scr, itemsOf_tup, itemsOf_lst, itemsOf_scr, oI, oI0, oSub, oFdiv, oMod, oPow, oShl, oShr, oAnd, oOr, oXor, oLt, oLe, oGt, oGe, oNeg, oIsN, oNotN, Gx.isNon, oAdd, oAdd', oMul, oMul', oMulM, oEq, oNe, oEqS, oNeS, oIn, oNin, eChain, oIx, oSet, cLen, cList, cListM, cTuple, cSum, cAll, cAny, cInt, cAbs, cMax2, cMin2, cDivmod, cGcd, cIsi, cRepr, lstInts, lstBls, startD, wipeD, List.map_cons, List.map_nil, List.length_cons, List.length_nil, List.cons_append, List.nil_append, List.replicate_succ, List.replicate_zero, List.set_cons_succ, List.set_cons_zero, List.getElem?_cons_succ, List.getElem?_cons_zero, List.filterMap_cons_some, List.filterMap_nil, Nat.reduceAdd, Nat.reduceSub, Nat.sub_self, Nat.reduceLT, Nat.reduceMul, Nat.zero_add, Nat.add_zero, if_true, if_false, and_true, true_and, and_false, false_and, or_true, true_or, or_false, false_or, not_true_eq_false, not_false_eq_true, Bool.not_true, Bool.not_false, Bool.false_eq_true, ite_true, ite_false, reduceIte, reduceCtorEq, eq_self, eDicT0, eDixT, gSubsT, keysOf, cListT, cSortedP, oSubB, oMulT, iZip2G, eDic0, eDic1, oDix, oDin, oDnin, oDset, iKeysG, cSortedE, cListD, Gx.keyOf, cMaxL, cMinL, cSortedI, mIndex, $xs,*])
local macro_rules | `(tactic| simp_arith! [$xs,*]) => `(tactic| try simp only [eVar, eC, eBin, eUn, tBl, tAnd', tOr', tNot', eAnd, eOr, eNot, eIf, aNil, aCons, eTup, eLst, eLstM, eCall, eCallK, pick, sNext, sSeq, sBreak, sCont, sDrop, sRet, sRetN, sIf, sNever, gNm, gsNil, gsCons, gTupl, gSubs, sAsg, sPar, sPar3, sFor, iSeq, seqG_tup, seqG_lst, seqG_scr, iRange1, iRange2, iEnumG, iZipG, td_tup, td_lst, td_scr, eLc, eLcM, tYes', pNone, pSome, eSl, cu_tup, cu_lst, cu_scr, eMt, eMt0, mAppend, isL, rs_non, rs_bl, rs_int, rs_str, rs_tup, rs_lst', rs_scr, itemsOf_tup, itemsOf_lst, itemsOf_scr, oI, oI0, oSub, oFdiv, oMod, oPow, oShl, oShr, oAnd, oOr, oXor, oLt, oLe, oGt, oGe, oNeg, oIsN, oNotN, Gx.isNon, oAdd, oAdd', oMul, oMul', oMulM, oEq, oNe, oEqS, oNeS, oIn, oNin, eChain, oIx, oSet, cLen, cList, cListM, cTuple, cSum, cAll, cAny, cInt, cAbs, cMax2, cMin2, cDivmod, cGcd, cIsi, cRepr, lstInts, lstBls, startD, wipeD, List.map_cons, List.map_nil, List.length_cons, List.length_nil, List.cons_append, List.nil_append, List.replicate_succ, List.replicate_zero, List.set_cons_succ, List.set_cons_zero, List.getElem?_cons_succ, List.getElem?_cons_zero, List.filterMap_cons_some, List.filterMap_nil, Nat.reduceAdd, Nat.reduceSub, Nat.sub_self, Nat.reduceLT, Nat.reduceMul, Nat.zero_add, Nat.add_zero, if_true, if_false, and_true, true_and, and_false, false_and, or_true, true_or, or_false, false_or, not_true_eq_false, not_false_eq_true, Bool.not_true, Bool.not_false, Bool.false_eq_true, ite_true, ite_false, reduceIte, reduceCtorEq, eq_self, eDicT0, eDixT, gSubsT, keysOf, cListT, cSortedP, oSubB, oMulT, iZip2G, eDic0, eDic1, oDix, oDin, oDnin, oDset, iKeysG, cSortedE, cListD, Gx.keyOf, cMaxL, cMinL, cSortedI, mIndex, rs_N, rs_W, rs_Row, rs_S, rs_R, rs_B, it_N, it_W, it_Row, it_S, it_R, sq_W, sq_Row, sq_S, td_N, td_W, td_Row, td_S, rs_I, it_I, sq_I, td_I, rs_Ss, it_Ss, sq_Ss, td_Ss, cu_S, cu_W, cu_Row, atI_0, atI_1, $xs,*])
end Gx

--W2
/-! Gx, data side 39: next states, whole weights. -/
namespace Gx
open PySem L2
local macro_rules | `(tactic| simp_arith [$xs,*]) => `(tactic| try simp only [eVar, eC, eBin, eUn, tBl, tAnd', tOr', tNot', eAnd, eOr, eNot, eIf, aNil, aCons, eTup, eLst, eLstM, eCall, eCallK, pick, sNext, sSeq, sBreak, sCont, sDrop, sRet, sRetN, sIf, sNever, gNm, gsNil, gsCons, gTupl, gSubs, sAsg, sPar, sPar3, sFor, iSeq, seqG_tup, seqG_lst, seqG_scr, iRange1, iRange2, iEnumG, iZipG, td_tup, td_lst, td_scr, eLc, eLcM, tYes', pNone, pSome, eSl, cu_tup, cu_lst, cu_scr, eMt, eMt0, mAppend, isL, rs_non, rs_bl, rs_int, rs_str, rs_tup, rs_lst', rs_scr, itemsOf_tup, itemsOf_lst, itemsOf_scr, oI, oI0, oSub, oFdiv, oMod, oPow, oShl, oShr, oAnd, oOr, oXor, oLt, oLe, oGt, oGe, oNeg, oIsN, oNotN, Gx.isNon, oAdd, oAdd', oMul, oMul', oMulM, oEq, oNe, oEqS, oNeS, oIn, oNin, eChain, oIx, oSet, cLen, cList, cListM, cTuple, cSum, cAll, cAny, cInt, cAbs, cMax2, cMin2, cDivmod, cGcd, cIsi, cRepr, lstInts, lstBls, startD, wipeD, List.map_cons, List.map_nil, List.length_cons, List.length_nil, List.cons_append, List.nil_append, List.replicate_succ, List.replicate_zero, List.set_cons_succ, List.set_cons_zero, List.getElem?_cons_succ, List.getElem?_cons_zero, List.filterMap_cons_some, List.filterMap_nil, Nat.reduceAdd, Nat.reduceSub, Nat.sub_self, Nat.reduceLT, Nat.reduceMul, Nat.zero_add, Nat.add_zero, if_true, if_false, and_true, true_and, and_false, false_and, or_true, true_or, or_false, false_or, not_true_eq_false, not_false_eq_true, Bool.not_true, Bool.not_false, Bool.false_eq_true, ite_true, ite_false, reduceIte, reduceCtorEq, eq_self, eDicT0, eDixT, gSubsT, keysOf, cListT, cSortedP, oSubB, oMulT, iZip2G, eDic0, eDic1, oDix, oDin, oDnin, oDset, iKeysG, cSortedE, cListD, Gx.keyOf, cMaxL, cMinL, cSortedI, mIndex, $xs,*])
local macro_rules | `(tactic| simp_arith! [$xs,*]) => `(tactic| try simp only [eVar, eC, eBin, eUn, tBl, tAnd', tOr', tNot', eAnd, eOr, eNot, eIf, aNil, aCons, eTup, eLst, eLstM, eCall, eCallK, pick, sNext, sSeq, sBreak, sCont, sDrop, sRet, sRetN, sIf, sNever, gNm, gsNil, gsCons, gTupl, gSubs, sAsg, sPar, sPar3, sFor, iSeq, seqG_tup, seqG_lst, seqG_scr, iRange1, iRange2, iEnumG, iZipG, td_tup, td_lst, td_scr, eLc, eLcM, tYes', pNone, pSome, eSl, cu_tup, cu_lst, cu_scr, eMt, eMt0, mAppend, isL, rs_non, rs_bl, rs_int, rs_str, rs_tup, rs_lst', rs_scr, itemsOf_tup, itemsOf_lst, itemsOf_scr, oI, oI0, oSub, oFdiv, oMod, oPow, oShl, oShr, oAnd, oOr, oXor, oLt, oLe, oGt, oGe, oNeg, oIsN, oNotN, Gx.isNon, oAdd, oAdd', oMul, oMul', oMulM, oEq, oNe, oEqS, oNeS, oIn, oNin, eChain, oIx, oSet, cLen, cList, cListM, cTuple, cSum, cAll, cAny, cInt, cAbs, cMax2, cMin2, cDivmod, cGcd, cIsi, cRepr, lstInts, lstBls, startD, wipeD, List.map_cons, List.map_nil, List.length_cons, List.length_nil, List.cons_append, List.nil_append, List.replicate_succ, List.replicate_zero, List.set_cons_succ, List.set_cons_zero, List.getElem?_cons_succ, List.getElem?_cons_zero, List.filterMap_cons_some, List.filterMap_nil, Nat.reduceAdd, Nat.reduceSub, Nat.sub_self, Nat.reduceLT, Nat.reduceMul, Nat.zero_add, Nat.add_zero, if_true, if_false, and_true, true_and, and_false, false_and, or_true, true_or, or_false, false_or, not_true_eq_false, not_false_eq_true, Bool.not_true, Bool.not_false, Bool.false_eq_true, ite_true, ite_false, reduceIte, reduceCtorEq, eq_self, eDicT0, eDixT, gSubsT, keysOf, cListT, cSortedP, oSubB, oMulT, iZip2G, eDic0, eDic1, oDix, oDin, oDnin, oDset, iKeysG, cSortedE, cListD, Gx.keyOf, cMaxL, cMinL, cSortedI, mIndex, rs_N, rs_W, rs_Row, rs_S, rs_R, rs_B, it_N, it_W, it_Row, it_S, it_R, sq_W, sq_Row, sq_S, td_N, td_W, td_Row, td_S, rs_I, it_I, sq_I, td_I, rs_Ss, it_Ss, sq_Ss, td_Ss, cu_S, cu_W, cu_Row, atI_0, atI_1, $xs,*])
/-! ### the rows -/
/-! ### the next states of all states -/
end Gx

--W2
/-! Gx, data side 40: who truly heeds whom: the plain law. -/
namespace Gx
open PySem L2
/-! ### who heeds whom -/
def nxB (N : Net) (x i : Nat) : Bool := (wants N (stateOf N.n x)).getD i false
def shown (N : Net) (i j : Nat) : List Nat := (List.range (2 ^ N.n)).filter fun x => !x.testBit j && (nxB N x i != nxB N (x + 2 ^ j) i)
def heeds (N : Net) (i j : Nat) : Bool := decide (j ≠ i) && decide (shown N i j ≠ [])
def prs (N : Net) : List (Nat × Nat) := (List.range N.n).flatMap fun i => ((List.range N.n).filter fun j => heeds N i j).map fun j => (i, j)
theorem mem_prs {N : Net} {i j : Nat} : (i, j) ∈ prs N ↔ i < N.n ∧ j < N.n ∧ heeds N i j = true := by
  unfold prs
  rw [List.mem_flatMap]
  constructor
  · rintro ⟨a, ha, h⟩
    obtain ⟨b, hb, e⟩ := List.mem_map.mp h
    injection e with e1 e2
    subst e1 e2
    obtain ⟨h1, h2⟩ := List.mem_filter.mp hb
    exact ⟨List.mem_range.mp ha, List.mem_range.mp h1, h2⟩
  · rintro ⟨h1, h2, h3⟩
    exact ⟨i, List.mem_range.mpr h1, List.mem_map.mpr ⟨j, List.mem_filter.mpr ⟨List.mem_range.mpr h2, h3⟩, rfl⟩⟩
theorem heeds_iff {N : Net} {i j : Nat} : heeds N i j = true ↔ j ≠ i ∧ ∃ x, x ∈ shown N i j := by
  unfold heeds
  rw [Bool.and_eq_true, decide_eq_true_eq, decide_eq_true_eq]
  refine and_congr Iff.rfl ⟨fun h => List.exists_mem_of_ne_nil _ h, fun ⟨x, hx⟩ z => by rw [z] at hx; cases hx⟩
/-! ### the bare net -/
theorem heeds_not {N : Net} {i : Nat} : heeds N i i = false := by
  unfold heeds
  rw [decide_eq_false (by simp)]
  rfl
end Gx

--W2
/-! Gx, data side 41: who truly heeds whom: the package's walks. -/
namespace Gx
open PySem L2
local macro_rules | `(tactic| simp_arith [$xs,*]) => `(tactic| try simp only [eVar, eC, eBin, eUn, tBl, tAnd', tOr', tNot', eAnd, eOr, eNot, eIf, aNil, aCons, eTup, eLst, eLstM, eCall, eCallK, pick, sNext, sSeq, sBreak, sCont, sDrop, sRet, sRetN, sIf, sNever, gNm, gsNil, gsCons, gTupl, gSubs, sAsg, sPar, sPar3, sFor, iSeq, seqG_tup, seqG_lst, seqG_scr, iRange1, iRange2, iEnumG, iZipG, td_tup, td_lst, td_scr, eLc, eLcM, tYes', pNone, pSome, eSl, cu_tup, cu_lst, cu_scr, eMt, eMt0, mAppend, isL, rs_non, rs_bl, rs_int, rs_str, rs_tup, rs_lst', rs_scr, itemsOf_tup, itemsOf_lst, itemsOf_scr, oI, oI0, oSub, oFdiv, oMod, oPow, oShl, oShr, oAnd, oOr, oXor, oLt, oLe, oGt, oGe, oNeg, oIsN, oNotN, Gx.isNon, oAdd, oAdd', oMul, oMul', oMulM, oEq, oNe, oEqS, oNeS, oIn, oNin, eChain, oIx, oSet, cLen, cList, cListM, cTuple, cSum, cAll, cAny, cInt, cAbs, cMax2, cMin2, cDivmod, cGcd, cIsi, cRepr, lstInts, lstBls, startD, wipeD, List.map_cons, List.map_nil, List.length_cons, List.length_nil, List.cons_append, List.nil_append, List.replicate_succ, List.replicate_zero, List.set_cons_succ, List.set_cons_zero, List.getElem?_cons_succ, List.getElem?_cons_zero, List.filterMap_cons_some, List.filterMap_nil, Nat.reduceAdd, Nat.reduceSub, Nat.sub_self, Nat.reduceLT, Nat.reduceMul, Nat.zero_add, Nat.add_zero, if_true, if_false, and_true, true_and, and_false, false_and, or_true, true_or, or_false, false_or, not_true_eq_false, not_false_eq_true, Bool.not_true, Bool.not_false, Bool.false_eq_true, ite_true, ite_false, reduceIte, reduceCtorEq, eq_self, eDicT0, eDixT, gSubsT, keysOf, cListT, cSortedP, oSubB, oMulT, iZip2G, eDic0, eDic1, oDix, oDin, oDnin, oDset, iKeysG, cSortedE, cListD, Gx.keyOf, cMaxL, cMinL, cSortedI, mIndex, $xs,*])
local macro_rules | `(tactic| simp_arith! [$xs,*]) => `(tactic| try simp only [eVar, eC, eBin, eUn, tBl, tAnd', tOr', tNot', eAnd, eOr, eNot, eIf, aNil, aCons, eTup, eLst, eLstM, eCall, eCallK, pick, sNext, sSeq, sBreak, sCont, sDrop, sRet, sRetN, sIf, sNever, gNm, gsNil, gsCons, gTupl, gSubs, sAsg, sPar, sPar3, sFor, iSeq, seqG_tup, seqG_lst, seqG_scr, iRange1, iRange2, iEnumG, iZipG, td_tup, td_lst, td_scr, eLc, eLcM, tYes', pNone, pSome, eSl, cu_tup, cu_lst, cu_scr, eMt, eMt0, mAppend, isL, rs_non, rs_bl, rs_int, rs_str, rs_tup, rs_lst', rs_scr, itemsOf_tup, itemsOf_lst, itemsOf_scr, oI, oI0, oSub, oFdiv, oMod, oPow, oShl, oShr, oAnd, oOr, oXor, oLt, oLe, oGt, oGe, oNeg, oIsN, oNotN, Gx.isNon, oAdd, oAdd', oMul, oMul', oMulM, oEq, oNe, oEqS, oNeS, oIn, oNin, eChain, oIx, oSet, cLen, cList, cListM, cTuple, cSum, cAll, cAny, cInt, cAbs, cMax2, cMin2, cDivmod, cGcd, cIsi, cRepr, lstInts, lstBls, startD, wipeD, List.map_cons, List.map_nil, List.length_cons, List.length_nil, List.cons_append, List.nil_append, List.replicate_succ, List.replicate_zero, List.set_cons_succ, List.set_cons_zero, List.getElem?_cons_succ, List.getElem?_cons_zero, List.filterMap_cons_some, List.filterMap_nil, Nat.reduceAdd, Nat.reduceSub, Nat.sub_self, Nat.reduceLT, Nat.reduceMul, Nat.zero_add, Nat.add_zero, if_true, if_false, and_true, true_and, and_false, false_and, or_true, true_or, or_false, false_or, not_true_eq_false, not_false_eq_true, Bool.not_true, Bool.not_false, Bool.false_eq_true, ite_true, ite_false, reduceIte, reduceCtorEq, eq_self, eDicT0, eDixT, gSubsT, keysOf, cListT, cSortedP, oSubB, oMulT, iZip2G, eDic0, eDic1, oDix, oDin, oDnin, oDset, iKeysG, cSortedE, cListD, Gx.keyOf, cMaxL, cMinL, cSortedI, mIndex, rs_N, rs_W, rs_Row, rs_S, rs_R, rs_B, it_N, it_W, it_Row, it_S, it_R, sq_W, sq_Row, sq_S, td_N, td_W, td_Row, td_S, rs_I, it_I, sq_I, td_I, rs_Ss, it_Ss, sq_Ss, td_Ss, cu_S, cu_W, cu_Row, atI_0, atI_1, $xs,*])
/-! ### the pairs -/
/-! ### the sign of a number -/
/-! ### dicts -/
section
variable {κ : Type} [DecidableEq κ]
theorem valD_nil (k : κ) : valD ([] : List (κ × D)) k = none := rfl
theorem valD_cons (kv : κ × D) (kvs : List (κ × D)) (k : κ) : valD (kv :: kvs) k = if kv.1 = k then some kv.2 else valD kvs k := by
  unfold valD
  by_cases z : kv.1 = k
  · rw [List.find?_cons_of_pos (by simpa using z), if_pos z]; rfl
  · rw [List.find?_cons_of_neg (by simpa using z), if_neg z]
theorem val_mem (k : κ) : ∀ kvs : List (κ × D), (valD kvs k).isSome = decide (k ∈ kvs.map (·.1))
  | [] => rfl
  | kv :: kvs => by
    rw [valD_cons, List.map_cons]
    by_cases z : kv.1 = k
    · rw [if_pos z]
      exact (decide_eq_true (by rw [← z]; exact List.mem_cons_self)).symm
    · rw [if_neg z, val_mem k kvs]
      refine decide_eq_decide.mpr ⟨List.mem_cons_of_mem _, fun h => ?_⟩
      rcases List.mem_cons.mp h with h | h
      · exact absurd h.symm z
      · exact h
theorem valD_app (k : κ) : ∀ (kvs : List (κ × D)) (kv : κ × D), k ∉ kvs.map (·.1) → valD (kvs ++ [kv]) k = if kv.1 = k then some kv.2 else none
  | [], kv, _ => by rw [List.nil_append, valD_cons]; rfl
  | x :: kvs, kv, h => by
    rw [List.map_cons, List.mem_cons, not_or] at h
    rw [List.cons_append, valD_cons, if_neg fun z => h.1 z.symm]
    exact valD_app k kvs kv h.2
theorem valD_app2 (k : κ) : ∀ (kvs : List (κ × D)) (kv : κ × D), kv.1 ≠ k → valD (kvs ++ [kv]) k = valD kvs k
  | [], kv, h => by rw [List.nil_append, valD_cons, if_neg h]
  | x :: kvs, kv, h => by
    rw [List.cons_append, valD_cons, valD_cons, valD_app2 k kvs kv h]
theorem valD_map (k k' : κ) (d : D) : ∀ kvs : List (κ × D), valD (kvs.map fun kv => if kv.1 = k then (kv.1, d) else kv) k' = if k' = k then (valD kvs k).map fun _ => d else valD kvs k'
  | [] => by rw [List.map_nil, valD_nil, valD_nil]; split <;> rfl
  | kv :: kvs => by
    rw [List.map_cons, valD_cons, valD_map k k' d kvs, valD_cons, valD_cons]
    by_cases z : k' = k
    · subst z
      rw [if_pos rfl, if_pos rfl]
      by_cases y : kv.1 = k'
      · rw [if_pos y, if_pos y]; simp only [y, if_true]; rfl
      · rw [if_neg y, if_neg y, if_neg y]
    · rw [if_neg z, if_neg z]
      by_cases y : kv.1 = k
      · rw [if_pos y]
        have n : ¬ kv.1 = k' := fun c => z (by rw [← c, y])
        rw [if_neg (show ¬ (kv.1, d).1 = k' from n), if_neg n]
      · rw [if_neg y]
theorem any_mem (k : κ) (kvs : List (κ × D)) : (kvs.any fun kv => decide (kv.1 = k)) = decide (k ∈ kvs.map (·.1)) := by
  rw [Bool.eq_iff_iff, List.any_eq_true, decide_eq_true_eq, List.mem_map]
  exact ⟨fun ⟨x, h, e⟩ => ⟨x, h, of_decide_eq_true e⟩, fun ⟨x, h, e⟩ => ⟨x, h, decide_eq_true e⟩⟩
theorem valD_putD (kvs : List (κ × D)) (k k' : κ) (d : D) : valD (putD kvs k d) k' = if k' = k then some d else valD kvs k' := by
  unfold putD
  rw [any_mem]
  by_cases m : k ∈ kvs.map (·.1)
  · rw [if_pos (decide_eq_true m), valD_map]
    by_cases z : k' = k
    · rw [if_pos z, if_pos z]
      have := val_mem k kvs
      rw [decide_eq_true m] at this
      obtain ⟨x, hx⟩ := Option.isSome_iff_exists.mp this
      rw [hx]; rfl
    · rw [if_neg z, if_neg z]
  · rw [if_neg (by rw [decide_eq_false m]; decide)]
    by_cases z : k' = k
    · subst z
      rw [valD_app k' kvs _ m, if_pos rfl, if_pos rfl]
    · rw [valD_app2 k' kvs _ fun c => z c.symm, if_neg z]
theorem keys_putD (kvs : List (κ × D)) (k : κ) (d : D) : (putD kvs k d).map (·.1) = if k ∈ kvs.map (·.1) then kvs.map (·.1) else kvs.map (·.1) ++ [k] := by
  unfold putD
  rw [any_mem]
  by_cases m : k ∈ kvs.map (·.1)
  · rw [if_pos (decide_eq_true m), if_pos m, List.map_map]
    refine List.map_congr_left fun x _ => ?_
    show (if x.1 = k then (x.1, d) else x).1 = x.1
    split <;> rfl
  · rw [if_neg (by rw [decide_eq_false m]; decide), if_neg m, List.map_append]; rfl
theorem putD_nd {kvs : List (κ × D)} {k : κ} {d : D} (h : (kvs.map (·.1)).Nodup) : ((putD kvs k d).map (·.1)).Nodup := by
  rw [keys_putD]
  split
  · exact h
  · rename_i m
    rw [List.nodup_append]
    refine ⟨h, by simp, fun x hx y hy => ?_⟩
    rw [List.mem_singleton] at hy
    rintro rfl
    exact m (by rw [← hy]; exact hx)
end
/-! ### a list of dicts -/
structure DcsAt (S0 : Sto) (qs : List Addr) (S : Sto) (ks : List (List (Key × D))) : Prop where
  len : qs.length = ks.length
  nd : qs.Nodup
  row : ∀ i, i < qs.length → S (qs.getD i 0) = some (.dK (ks.getD i []))
  new : ∀ q ∈ qs, S0 q = none
  sub : ∀ a o, S0 a = some o → S a = some o
theorem DcsAt.nin {S0 S : Sto} {qs : List Addr} {ks : List (List (Key × D))} (a : DcsAt S0 qs S ks) {q : Addr} (h : S q = none) : ∀ x ∈ qs, x ≠ q := fun x hx z => by
  subst z
  obtain ⟨i, hi, e⟩ := List.getElem_of_mem hx
  have := a.row i hi
  rw [getD_eq hi, e, h] at this
  cases this
theorem DcsAt.other {S0 S : Sto} {qs : List Addr} {ks : List (List (Key × D))} (a : DcsAt S0 qs S ks) {q : Addr} (o : SO) (h0 : S0 q = none) (hn : q ∉ qs) : DcsAt S0 qs (up S q o) ks :=
  ⟨a.len, a.nd, fun i hi => by rw [up_ne fun z => hn (by rw [← z]; exact getD_mem hi)]; exact a.row i hi, a.new, fun b u hb => by rw [up_ne fun z => by rw [z, h0] at hb; cases hb]; exact a.sub b u hb⟩
theorem DcsAt.put {S0 S : Sto} {qs : List Addr} {ks : List (List (Key × D))} (a : DcsAt S0 qs S ks) {i : Nat} (hi : i < qs.length) (kvs : List (Key × D)) : DcsAt S0 qs (up S (qs.getD i 0) (.dK kvs)) (ks.set i kvs) := by
  have h0 := a.new (qs.getD i 0) (getD_mem hi)
  refine ⟨by rw [List.length_set]; exact a.len, a.nd, fun j hj => ?_, a.new, fun b u hb => by rw [up_ne fun z => by rw [z, h0] at hb; cases hb]; exact a.sub b u hb⟩
  rw [getD_set (by rw [← a.len]; exact hi)]
  by_cases z : i = j
  · subst z; rw [if_pos rfl, up_same]
  · rw [if_neg z, up_ne (nodup_ne a.nd hj hi fun c => z c.symm)]
    exact a.row j hj
/-! ### for each cell those that it heeds -/
/-! ### the bare net -/
end Gx

--W2
/-! Gx, data side 42: the law's own true heeds. -/
namespace Gx
open PySem L2
local macro_rules | `(tactic| simp_arith [$xs,*]) => `(tactic| try simp only [eVar, eC, eBin, eUn, tBl, tAnd', tOr', tNot', eAnd, eOr, eNot, eIf, aNil, aCons, eTup, eLst, eLstM, eCall, eCallK, pick, sNext, sSeq, sBreak, sCont, sDrop, sRet, sRetN, sIf, sNever, gNm, gsNil, gsCons, gTupl, gSubs, sAsg, sPar, sPar3, sFor, iSeq, seqG_tup, seqG_lst, seqG_scr, iRange1, iRange2, iEnumG, iZipG, td_tup, td_lst, td_scr, eLc, eLcM, tYes', pNone, pSome, eSl, cu_tup, cu_lst, cu_scr, eMt, eMt0, mAppend, isL, rs_non, rs_bl, rs_int, rs_str, rs_tup, rs_lst', rs_scr, itemsOf_tup, itemsOf_lst, itemsOf_scr, oI, oI0, oSub, oFdiv, oMod, oPow, oShl, oShr, oAnd, oOr, oXor, oLt, oLe, oGt, oGe, oNeg, oIsN, oNotN, Gx.isNon, oAdd, oAdd', oMul, oMul', oMulM, oEq, oNe, oEqS, oNeS, oIn, oNin, eChain, oIx, oSet, cLen, cList, cListM, cTuple, cSum, cAll, cAny, cInt, cAbs, cMax2, cMin2, cDivmod, cGcd, cIsi, cRepr, lstInts, lstBls, startD, wipeD, List.map_cons, List.map_nil, List.length_cons, List.length_nil, List.cons_append, List.nil_append, List.replicate_succ, List.replicate_zero, List.set_cons_succ, List.set_cons_zero, List.getElem?_cons_succ, List.getElem?_cons_zero, List.filterMap_cons_some, List.filterMap_nil, Nat.reduceAdd, Nat.reduceSub, Nat.sub_self, Nat.reduceLT, Nat.reduceMul, Nat.zero_add, Nat.add_zero, if_true, if_false, and_true, true_and, and_false, false_and, or_true, true_or, or_false, false_or, not_true_eq_false, not_false_eq_true, Bool.not_true, Bool.not_false, Bool.false_eq_true, ite_true, ite_false, reduceIte, reduceCtorEq, eq_self, eDicT0, eDixT, gSubsT, keysOf, cListT, cSortedP, oSubB, oMulT, iZip2G, eDic0, eDic1, oDix, oDin, oDnin, oDset, iKeysG, cSortedE, cListD, Gx.keyOf, cMaxL, cMinL, cSortedI, mIndex, $xs,*])
local macro_rules | `(tactic| simp_arith! [$xs,*]) => `(tactic| try simp only [eVar, eC, eBin, eUn, tBl, tAnd', tOr', tNot', eAnd, eOr, eNot, eIf, aNil, aCons, eTup, eLst, eLstM, eCall, eCallK, pick, sNext, sSeq, sBreak, sCont, sDrop, sRet, sRetN, sIf, sNever, gNm, gsNil, gsCons, gTupl, gSubs, sAsg, sPar, sPar3, sFor, iSeq, seqG_tup, seqG_lst, seqG_scr, iRange1, iRange2, iEnumG, iZipG, td_tup, td_lst, td_scr, eLc, eLcM, tYes', pNone, pSome, eSl, cu_tup, cu_lst, cu_scr, eMt, eMt0, mAppend, isL, rs_non, rs_bl, rs_int, rs_str, rs_tup, rs_lst', rs_scr, itemsOf_tup, itemsOf_lst, itemsOf_scr, oI, oI0, oSub, oFdiv, oMod, oPow, oShl, oShr, oAnd, oOr, oXor, oLt, oLe, oGt, oGe, oNeg, oIsN, oNotN, Gx.isNon, oAdd, oAdd', oMul, oMul', oMulM, oEq, oNe, oEqS, oNeS, oIn, oNin, eChain, oIx, oSet, cLen, cList, cListM, cTuple, cSum, cAll, cAny, cInt, cAbs, cMax2, cMin2, cDivmod, cGcd, cIsi, cRepr, lstInts, lstBls, startD, wipeD, List.map_cons, List.map_nil, List.length_cons, List.length_nil, List.cons_append, List.nil_append, List.replicate_succ, List.replicate_zero, List.set_cons_succ, List.set_cons_zero, List.getElem?_cons_succ, List.getElem?_cons_zero, List.filterMap_cons_some, List.filterMap_nil, Nat.reduceAdd, Nat.reduceSub, Nat.sub_self, Nat.reduceLT, Nat.reduceMul, Nat.zero_add, Nat.add_zero, if_true, if_false, and_true, true_and, and_false, false_and, or_true, true_or, or_false, false_or, not_true_eq_false, not_false_eq_true, Bool.not_true, Bool.not_false, Bool.false_eq_true, ite_true, ite_false, reduceIte, reduceCtorEq, eq_self, eDicT0, eDixT, gSubsT, keysOf, cListT, cSortedP, oSubB, oMulT, iZip2G, eDic0, eDic1, oDix, oDin, oDnin, oDset, iKeysG, cSortedE, cListD, Gx.keyOf, cMaxL, cMinL, cSortedI, mIndex, rs_N, rs_W, rs_Row, rs_S, rs_R, rs_B, it_N, it_W, it_Row, it_S, it_R, sq_W, sq_Row, sq_S, td_N, td_W, td_Row, td_S, rs_I, it_I, sq_I, td_I, rs_Ss, it_Ss, sq_Ss, td_Ss, cu_S, cu_W, cu_Row, atI_0, atI_1, $xs,*])
theorem val_some {κ : Type} [DecidableEq κ] {k : κ} {kvs : List (κ × D)} : (valD kvs k).isSome = true ↔ k ∈ kvs.map (·.1) := by
  rw [val_mem, decide_eq_true_eq]
def ltP (p q : Nat × Nat) : Prop := p.1 < q.1 ∨ (p.1 = q.1 ∧ p.2 < q.2)
theorem prs_asc (N : Net) : (prs N).Pairwise ltP := by
  unfold prs
  rw [List.pairwise_flatMap]
  refine ⟨fun i _ => ?_, List.pairwise_lt_range.imp fun {a b} h x hx y hy => ?_⟩
  · rw [List.pairwise_map]
    exact (List.pairwise_lt_range.filter _).imp fun {a b} h => .inr ⟨rfl, h⟩
  · obtain ⟨j, _, rfl⟩ := List.mem_map.mp hx
    obtain ⟨k, _, rfl⟩ := List.mem_map.mp hy
    exact .inl h
theorem prs_nd (N : Net) : (prs N).Nodup := (prs_asc N).imp fun {a b} h e => by
  subst e
  unfold ltP at h
  omega
theorem prs_len {N : Net} (h8 : N.n ≤ 8) : (prs N).length ≤ 56 := by
  have : ∀ l : List Nat, (∀ i ∈ l, i < N.n) → (l.flatMap fun i => ((List.range N.n).filter fun j => heeds N i j).map fun j => (i, j)).length ≤ 7 * l.length := fun l => by
    induction l with
    | nil => exact fun _ => Nat.le_refl _
    | cons i l ih =>
      intro h
      have hi := h i List.mem_cons_self
      have lt : ((List.range N.n).filter fun j => heeds N i j).length < (List.range N.n).length := List.length_filter_lt_length_iff_exists.mpr ⟨i, List.mem_range.mpr hi, by rw [heeds_not]; decide⟩
      have := ih fun x hx => h x (List.mem_cons_of_mem _ hx)
      rw [List.length_range] at lt
      rw [List.flatMap_cons, List.length_append, List.length_map, List.length_cons]
      omega
  have := this (List.range N.n) fun i hi => List.mem_range.mp hi
  rw [List.length_range] at this
  exact Nat.le_trans this (by omega)
abbrev keyP (i j : Nat) : List Key := [keyN i, keyN j]
theorem keyP_inj {i j a b : Nat} (h : keyP i j = keyP a b) : i = a ∧ j = b := by
  injection h with h1 h2
  injection h2 with h2 _
  injection h1 with h1
  injection h2 with h2
  omega
structure Fd (N : Net) (kvs : List (List Key × D)) (P : Nat → Nat → Nat → Prop) : Prop where
  nd : (kvs.map (·.1)).Nodup
  val : ∀ k d, valD kvs k = some d → ∃ i j x, k = keyP i j ∧ (i, j) ∈ prs N ∧ x ∈ shown N i j ∧ d = encS (stateOf N.n x)
  cov : ∀ i j x, i < N.n → j < N.n → j ≠ i → x ∈ shown N i j → P i j x → (valD kvs (keyP i j)).isSome = true
theorem Fd.mono {N : Net} {kvs : List (List Key × D)} {P Q : Nat → Nat → Nat → Prop} (f : Fd N kvs P) (h : ∀ i j x, i < N.n → j < N.n → j ≠ i → x ∈ shown N i j → Q i j x → P i j x) : Fd N kvs Q :=
  ⟨f.nd, f.val, fun i j x hi hj hn hx hq => f.cov i j x hi hj hn hx (h i j x hi hj hn hx hq)⟩
theorem Fd.put {N : Net} {kvs : List (List Key × D)} {P : Nat → Nat → Nat → Prop} (f : Fd N kvs P) {i j x : Nat} (hi : i < N.n) (hj : j < N.n) (hn : j ≠ i) (hx : x ∈ shown N i j) :
    Fd N (putD kvs (keyP i j) (encS (stateOf N.n x))) (fun a b y => P a b y ∨ (a = i ∧ b = j ∧ y = x)) := by
  refine ⟨putD_nd f.nd, fun k d h => ?_, fun a b y ha hb hab hy hp => ?_⟩
  · rw [valD_putD] at h
    split at h
    · rename_i z
      injection h with h
      exact ⟨i, j, x, z, mem_prs.mpr ⟨hi, hj, heeds_iff.mpr ⟨hn, x, hx⟩⟩, hx, h.symm⟩
    · exact f.val k d h
  · rw [valD_putD]
    split
    · rfl
    · rename_i z
      rcases hp with hp | ⟨rfl, rfl, rfl⟩
      · exact f.cov a b y ha hb hab hy hp
      · exact absurd rfl z
theorem Fd.keys {N : Net} {kvs : List (List Key × D)} {P : Nat → Nat → Nat → Prop} (f : Fd N kvs P) : ∀ k ∈ kvs.map (·.1), k ∈ (prs N).map fun p => keyP p.1 p.2 := fun k hk => by
  obtain ⟨d, hd⟩ := Option.isSome_iff_exists.mp (val_some.mpr hk)
  obtain ⟨i, j, _, e, hp, _⟩ := f.val k d hd
  exact List.mem_map.mpr ⟨(i, j), hp, e.symm⟩
theorem Fd.few {N : Net} (h8 : N.n ≤ 8) {kvs : List (List Key × D)} {P : Nat → Nat → Nat → Prop} (f : Fd N kvs P) : kvs.length ≤ 56 := by
  have h := nd_len f.nd f.keys
  rw [List.length_map, List.length_map] at h
  exact Nat.le_trans h (prs_len h8)
theorem Fd.perm {N : Net} {kvs : List (List Key × D)} (f : Fd N kvs fun _ _ _ => True) : ∃ l : List (Nat × Nat), kvs.map (·.1) = l.map (fun p => keyP p.1 p.2) ∧ l.Perm (prs N) := by
  have ex : ∀ ks : List (List Key), (∀ k ∈ ks, k ∈ (prs N).map fun p => keyP p.1 p.2) → ∃ l : List (Nat × Nat), ks = l.map (fun p => keyP p.1 p.2) ∧ ∀ p ∈ l, p ∈ prs N := fun ks => by
    induction ks with
    | nil => exact fun _ => ⟨[], rfl, fun _ h => nomatch h⟩
    | cons k ks ih =>
      intro h
      obtain ⟨p, hp, e⟩ := List.mem_map.mp (h k List.mem_cons_self)
      obtain ⟨l, el, hl⟩ := ih fun x hx => h x (List.mem_cons_of_mem _ hx)
      exact ⟨p :: l, by rw [List.map_cons, e, el], fun q hq => by
        rcases List.mem_cons.mp hq with rfl | hq
        · exact hp
        · exact hl q hq⟩
  obtain ⟨l, e, hl⟩ := ex _ f.keys
  refine ⟨l, e, ?_⟩
  have lnd : l.Nodup := by
    have := f.nd
    rw [e] at this
    exact (List.pairwise_map.mp this).imp fun h e => h (by rw [e])
  refine (List.perm_ext_iff_of_nodup lnd (prs_nd N)).mpr fun p => ⟨hl p, fun hp => ?_⟩
  obtain ⟨i, j⟩ := p
  obtain ⟨hi, hj, hh⟩ := mem_prs.mp hp
  obtain ⟨hn, x, hx⟩ := heeds_iff.mp hh
  have := f.cov i j x hi hj hn hx trivial
  have m := val_some.mp this
  rw [e] at m
  obtain ⟨q, hq, eq⟩ := List.mem_map.mp m
  obtain ⟨e1, e2⟩ := keyP_inj eq
  have : q = (i, j) := by rw [← e1, ← e2]
  rw [← this]
  exact hq
end Gx

--W2
/-! Gx, data side 43: words for the third family's laws. -/
namespace Gx
open PySem L2
/-! ### what is the same as itself -/
/-! ### laps -/
end Gx

/-! Gx, data side 112: runs of numbers, their tails and rings: plain. -/
namespace Gx
open PySem L2
def itF (f : Nat → Nat) (x : Nat) : Nat → Nat
  | 0 => x
  | i + 1 => f (itF f x i)
def runL (f : Nat → Nat) : Nat → List Nat → Nat → List Nat × Nat
  | 0, l, h => (l, h)
  | k + 1, l, h => if h ∈ l then (l, h) else runL f k (l ++ [h]) (f h)
/-- the tail and the ring of a number -/
def runOf (f : Nat → Nat) (M x : Nat) : List Nat × List Nat := ((runL f (M + 1) [] x).1.take ((runL f (M + 1) [] x).1.idxOf (runL f (M + 1) [] x).2), (runL f (M + 1) [] x).1.drop ((runL f (M + 1) [] x).1.idxOf (runL f (M + 1) [] x).2))
section
variable {f : Nat → Nat} {M : Nat}
/-- so far: the first ones of the row -/
structure Orb (f : Nat → Nat) (M x : Nat) (l : List Nat) (h : Nat) : Prop where
  eq : l = (List.range l.length).map (itF f x)
  hd : h = itF f x l.length
  nd : l.Nodup
  lt : ∀ y ∈ l, y < M
  hlt : h < M
theorem Orb.start {x : Nat} (hx : x < M) : Orb f M x [] x := ⟨rfl, rfl, List.nodup_nil, (fun _ h => nomatch h), hx⟩
theorem Orb.next {x h : Nat} {l : List Nat} (o : Orb f M x l h) (hf : ∀ y, y < M → f y < M) (hh : h ∉ l) : Orb f M x (l ++ [h]) (f h) := by
  refine ⟨?_, ?_, ?_, fun y hy => ?_, hf h o.hlt⟩
  · rw [List.length_append, List.length_singleton, List.range_succ, List.map_append, ← o.eq, List.map_singleton, ← o.hd]
  · rw [List.length_append, List.length_singleton, o.hd]; rfl
  · rw [List.nodup_append]
    refine ⟨o.nd, List.nodup_cons.mpr ⟨List.not_mem_nil, List.nodup_nil⟩, fun a ha b hb e => ?_⟩
    rw [List.mem_singleton] at hb
    subst e hb
    exact hh ha
  · rcases List.mem_append.mp hy with hy | hy
    · exact o.lt y hy
    · rw [List.mem_singleton] at hy; subst hy; exact o.hlt
theorem Orb.few {x h : Nat} {l : List Nat} (o : Orb f M x l h) : l.length ≤ M := nd_lt o.nd o.lt
theorem runL_end (hf : ∀ y, y < M → f y < M) {x : Nat} : ∀ (k : Nat) (l : List Nat) (h : Nat), Orb f M x l h → M + 1 ≤ l.length + k → Orb f M x (runL f k l h).1 (runL f k l h).2 ∧ (runL f k l h).2 ∈ (runL f k l h).1
  | 0, l, h, o, hk => absurd o.few (by omega)
  | k + 1, l, h, o, hk => by
    unfold runL
    by_cases z : h ∈ l
    · rw [if_pos z]; exact ⟨o, z⟩
    · rw [if_neg z]
      exact runL_end hf k _ _ (o.next hf z) (by rw [List.length_append, List.length_singleton]; omega)
theorem itF_add (f : Nat → Nat) (x j : Nat) : ∀ i : Nat, itF f (itF f x j) i = itF f x (j + i)
  | 0 => rfl
  | i + 1 => by
    show f (itF f (itF f x j) i) = f (itF f x (j + i))
    rw [itF_add f x j i]
/-- m turns lead back, no fewer -/
structure Per (f : Nat → Nat) (a m : Nat) : Prop where
  pos : 0 < m
  back : itF f a m = a
  least : ∀ i, 0 < i → i < m → itF f a i ≠ a
theorem Per.wrap {a m : Nat} (p : Per f a m) (i : Nat) : itF f a (m + i) = itF f a i := by
  rw [← itF_add, p.back]
theorem Per.inj {a m i j : Nat} (p : Per f a m) (hi : i < m) (hj : j < m) (e : itF f a i = itF f a j) : i = j := by
  have key : ∀ i j, i < j → j < m → itF f a i = itF f a j → False := fun i j h1 h2 e => by
    have e2 : itF f a (i + (m - j)) = itF f a (j + (m - j)) := by rw [← itF_add, ← itF_add, e]
    rw [show j + (m - j) = m by omega, p.back] at e2
    exact p.least (i + (m - j)) (by omega) (by omega) e2
  rcases Nat.lt_trichotomy i j with z | z | z
  · exact (key i j z hj e).elim
  · exact z
  · exact (key j i z hi e.symm).elim
theorem Per.shift {a m : Nat} (p : Per f a m) {j : Nat} (hj : j < m) : Per f (itF f a j) m := by
  refine ⟨p.pos, ?_, fun i h1 h2 e => ?_⟩
  · rw [itF_add, Nat.add_comm, p.wrap]
  · rw [itF_add] at e
    have e2 : itF f a (j + i + (m - j)) = itF f a (j + (m - j)) := (itF_add f a (j + i) (m - j)).symm.trans ((congrArg (fun z => itF f z (m - j)) e).trans (itF_add f a j (m - j)))
    rw [show j + i + (m - j) = m + i by omega, show j + (m - j) = m by omega, p.wrap, p.back] at e2
    exact p.least i h1 h2 e2
def rngF (f : Nat → Nat) (a m : Nat) : List Nat := (List.range m).map (itF f a)
theorem rngF_len (a m : Nat) : (rngF f a m).length = m := by unfold rngF; rw [List.length_map, List.length_range]
theorem rngF_get {a m i : Nat} (h : i < m) : (rngF f a m)[i]? = some (itF f a i) := by
  unfold rngF
  rw [List.getElem?_map, List.getElem?_range h]; rfl
theorem Per.nodup {a m : Nat} (p : Per f a m) : (rngF f a m).Nodup := by
  unfold rngF List.Nodup
  rw [List.pairwise_map]
  refine (List.pairwise_lt_range (n := m)).imp_of_mem fun ha hb h e => ?_
  have := p.inj (List.mem_range.mp ha) (List.mem_range.mp hb) e
  omega
theorem orb_get {x h : Nat} {l : List Nat} (o : Orb f M x l h) {i : Nat} (hi : i < l.length) : l[i]? = some (itF f x i) := by
  have := rngF_get (f := f) (a := x) hi
  unfold rngF at this
  rw [← o.eq] at this
  exact this
/-- what is told of a number: its tail, its ring -/
theorem run_spec (hf : ∀ y, y < M → f y < M) {x : Nat} (hx : x < M) : ∃ j m : Nat, (runOf f M x).1 = (List.range j).map (itF f x) ∧ (runOf f M x).2 = rngF f (itF f x j) m ∧ Per f (itF f x j) m ∧ j + m ≤ M ∧ (∀ i, i < j + m → itF f x i < M) ∧ ∀ i, i < j → itF f x i ∉ (runOf f M x).2 := by
  obtain ⟨o, hm⟩ := runL_end hf (M + 1) [] x (.start hx) (by simp)
  unfold runOf
  generalize hl : (runL f (M + 1) [] x).1 = l at *
  generalize hh : (runL f (M + 1) [] x).2 = h at *
  have hj : l.idxOf h < l.length := List.idxOf_lt_length_iff.mpr hm
  generalize hjj : l.idxOf h = j at *
  have hlj : l[j]? = some h := by
    rw [← hjj, List.getElem?_eq_getElem (by rw [hjj]; exact hj), List.getElem_idxOf]
  have ej := orb_get o hj
  rw [hlj] at ej
  have eh : h = itF f x j := Option.some.inj ej
  have ed : l.drop j = rngF f (itF f x j) (l.length - j) := by
    apply List.ext_getElem?
    intro i
    rw [List.getElem?_drop]
    rcases Nat.lt_or_ge i (l.length - j) with z | z
    · rw [rngF_get z, itF_add, orb_get o (by omega)]
    · rw [List.getElem?_eq_none (by omega), List.getElem?_eq_none (by rw [rngF_len]; omega)]
  have et : l.take j = (List.range j).map (itF f x) := by
    apply List.ext_getElem?
    intro i
    rw [List.getElem?_take]
    split
    · rename_i z
      rw [orb_get o (by omega), List.getElem?_map, List.getElem?_range z]; rfl
    · rename_i z
      rw [List.getElem?_eq_none (by rw [List.length_map, List.length_range]; omega)]
  refine ⟨j, l.length - j, et, ed, ⟨by omega, ?_, fun i h1 h2 e => ?_⟩, by have := o.few; omega, fun i hi => ?_, fun i hi hin => ?_⟩
  · rw [itF_add, show j + (l.length - j) = l.length by omega, ← o.hd, eh]
  · rw [itF_add] at e
    have g1 := orb_get o (i := j + i) (by omega)
    have g2 := orb_get o hj
    rw [e, ← g2] at g1
    exact absurd ((List.getElem?_inj (by omega) o.nd).mp g1) (by omega)
  · exact o.lt _ (List.mem_of_getElem? (orb_get o (by omega)))
  · obtain ⟨k, hk, e⟩ := List.getElem_of_mem hin
    rw [List.getElem_drop] at e
    rw [List.length_drop] at hk
    have g1 := orb_get o (i := i) (by omega)
    have g2 : l[j + k]? = some (itF f x i) := by rw [List.getElem?_eq_getElem (by omega), e]
    rw [← g2] at g1
    exact absurd ((List.getElem?_inj (by omega) o.nd).mp g1) (by omega)
/-- from a number of a ring: no tail, the ring from there on -/
theorem run_ring (hf : ∀ y, y < M → f y < M) {a m : Nat} (ha : a < M) (p : Per f a m) : runOf f M a = ([], rngF f a m) := by
  obtain ⟨j, n, e1, e2, q, hs, hlt, hno⟩ := run_spec hf ha
  have j0 : j = 0 := by
    rcases Nat.eq_zero_or_pos j with z | z
    · exact z
    · exfalso
      -- a itself is in the ring
      refine hno 0 z ?_
      rw [e2]
      refine List.mem_map.mpr ?_
      -- some later one is a
      have w : ∀ t : Nat, itF f a (t * m) = a := fun t => by
        induction t with
        | zero => rw [Nat.zero_mul]; rfl
        | succ t ih => rw [Nat.succ_mul, Nat.add_comm, p.wrap, ih]
      have hk : j ≤ j * m := Nat.le_mul_of_pos_right _ p.pos
      have e3 : itF f (itF f a j) (j * m - j) = a := by rw [itF_add, show j + (j * m - j) = j * m by omega, w j]
      have red : ∀ i, ∃ r, r < n ∧ itF f (itF f a j) i = itF f (itF f a j) r := fun i => by
        induction i with
        | zero => exact ⟨0, q.pos, rfl⟩
        | succ i ih =>
          obtain ⟨r, hr, er⟩ := ih
          by_cases z : r + 1 < n
          · exact ⟨r + 1, z, by show f _ = f _; rw [er]⟩
          · refine ⟨0, q.pos, ?_⟩
            have : r + 1 = n := by omega
            show f (itF f (itF f a j) i) = itF f a j
            rw [er]
            show itF f (itF f a j) (r + 1) = _
            rw [this, q.back]
      obtain ⟨r, hr, er⟩ := red (j * m - j)
      exact ⟨r, List.mem_range.mpr hr, by rw [← er, e3]; rfl⟩
  subst j0
  have q : Per f a n := q
  have e2 : (runOf f M a).2 = rngF f a n := e2
  have nm : n = m := by
    rcases Nat.lt_trichotomy n m with z | z | z
    · exact absurd q.back (p.least n q.pos z)
    · exact z
    · exact absurd p.back (q.least m p.pos z)
  subst nm
  exact Prod.ext e1 e2
/-- turned about -/
theorem ring_rot {a m s : Nat} (p : Per f a m) (hs : s < m) : (rngF f a m).drop s ++ (rngF f a m).take s = rngF f (itF f a s) m := by
  apply List.ext_getElem?
  intro i
  rcases Nat.lt_or_ge i (m - s) with z | z
  · rw [List.getElem?_append_left (by rw [List.length_drop, rngF_len]; omega), List.getElem?_drop, rngF_get (by omega), rngF_get (by omega), itF_add]
  · rw [List.getElem?_append_right (by rw [List.length_drop, rngF_len]; omega), List.length_drop, rngF_len, List.getElem?_take]
    split
    · rename_i y
      rw [rngF_get (by omega), rngF_get (by omega), itF_add, show s + i = m + (i - (m - s)) by omega, p.wrap]
    · rename_i y
      rw [List.getElem?_eq_none (by rw [rngF_len]; omega)]
end
end Gx

/-! Gx, data side 113: all rings: plain. -/
namespace Gx
open PySem L2
def isMin (f : Nat → Nat) (M k : Nat) : Bool := decide ((runOf f M k).1 = []) && decide (∀ y ∈ (runOf f M k).2, k ≤ y)
def ringsN (f : Nat → Nat) (M : Nat) : List (List Nat) := ((List.range M).filter (isMin f M)).map fun k => (runOf f M k).2
section
variable {f : Nat → Nat} {M : Nat} (hf : ∀ y, y < M → f y < M)
include hf
theorem min_ring {k : Nat} (hk : k < M) (h : isMin f M k = true) : ∃ m, Per f k m ∧ m ≤ M ∧ runOf f M k = ([], rngF f k m) ∧ (∀ i, i < m → itF f k i < M) ∧ ∀ i, i < m → k ≤ itF f k i := by
  unfold isMin at h
  rw [Bool.and_eq_true, decide_eq_true_iff, decide_eq_true_iff] at h
  obtain ⟨j, m, e1, e2, p, hs, hlt, _⟩ := run_spec hf hk
  have j0 : j = 0 := by
    have := congrArg List.length e1
    rw [h.1, List.length_map, List.length_range] at this
    exact this.symm
  subst j0
  have p : Per f k m := p
  have e2 : (runOf f M k).2 = rngF f k m := e2
  refine ⟨m, p, by omega, Prod.ext h.1 e2, fun i hi => hlt i (by omega), fun i hi => ?_⟩
  exact h.2 _ (by rw [e2]; exact List.mem_of_getElem? (rngF_get hi))
/-- a ring, from its least number on -/
theorem rot_min {x c : Nat} (hx : x < M) (hc : c ∈ (runOf f M x).2) (hl : ∀ y ∈ (runOf f M x).2, c ≤ y) :
    c < M ∧ isMin f M c = true ∧ (runOf f M x).2.drop ((runOf f M x).2.idxOf c) ++ (runOf f M x).2.take ((runOf f M x).2.idxOf c) = (runOf f M c).2 := by
  obtain ⟨j, m, e1, e2, p, hs, hlt, _⟩ := run_spec hf hx
  have hc' := hc
  rw [e2] at hc' hl
  have hi : (rngF f (itF f x j) m).idxOf c < m := by
    have := List.idxOf_lt_length_iff.mpr hc'
    rwa [rngF_len] at this
  have ec : c = itF f (itF f x j) ((rngF f (itF f x j) m).idxOf c) := by
    have g := rngF_get (f := f) (a := itF f x j) hi
    rw [List.getElem?_eq_getElem (by rw [rngF_len]; exact hi), List.getElem_idxOf] at g
    exact Option.some.inj g
  have pc : Per f c m := by rw [ec]; exact p.shift hi
  have cM : c < M := by
    rw [ec, itF_add]
    exact hlt _ (by omega)
  have rc := run_ring hf cM pc
  have rot : (rngF f (itF f x j) m).drop ((rngF f (itF f x j) m).idxOf c) ++ (rngF f (itF f x j) m).take ((rngF f (itF f x j) m).idxOf c) = rngF f c m := by
    have := ring_rot p hi
    rw [← ec] at this
    exact this
  refine ⟨cM, ?_, by rw [e2, rc]; exact rot⟩
  unfold isMin
  rw [rc, Bool.and_eq_true, decide_eq_true_iff, decide_eq_true_iff]
  refine ⟨rfl, fun y hy => hl y ?_⟩
  have hy : y ∈ rngF f c m := hy
  rw [← rot] at hy
  rcases List.mem_append.mp hy with hy | hy
  · exact List.mem_of_mem_drop hy
  · exact List.mem_of_mem_take hy
theorem ring_head {k : Nat} (hk : k < M) (h : isMin f M k = true) : ∃ r, (runOf f M k).2 = k :: r := by
  obtain ⟨m, p, _, e, _⟩ := min_ring hf hk h
  rw [e]
  refine ⟨(rngF f k m).drop 1, ?_⟩
  have g := rngF_get (f := f) (a := k) p.pos
  show rngF f k m = _
  cases z : rngF f k m with
  | nil => rw [z] at g; cases g
  | cons y ys =>
    rw [z] at g
    have : y = k := Option.some.inj g
    rw [this]; rfl
theorem rings_nodup : (ringsN f M).Nodup := by
  unfold ringsN List.Nodup
  rw [List.pairwise_map]
  have := (List.pairwise_lt_range (n := M)).filter (isMin f M)
  refine this.imp_of_mem fun {a b} ha hb hab e => ?_
  obtain ⟨ha, ma⟩ := List.mem_filter.mp ha
  obtain ⟨hb, mb⟩ := List.mem_filter.mp hb
  obtain ⟨r, er⟩ := ring_head hf (List.mem_range.mp ha) ma
  obtain ⟨r', er'⟩ := ring_head hf (List.mem_range.mp hb) mb
  rw [er, er'] at e
  injection e with e _
  omega
/-- rows of whole numbers -/
def rowI (c : List Nat) : List Int := c.map fun i : Nat => (i : Int)
theorem rings_sorted : ((ringsN f M).map rowI).Pairwise (· ≤ ·) := by
  unfold ringsN
  rw [List.map_map, List.pairwise_map]
  have := (List.pairwise_lt_range (n := M)).filter (isMin f M)
  refine this.imp_of_mem fun {a b} ha hb hab => ?_
  obtain ⟨ha, ma⟩ := List.mem_filter.mp ha
  obtain ⟨hb, mb⟩ := List.mem_filter.mp hb
  obtain ⟨r, er⟩ := ring_head hf (List.mem_range.mp ha) ma
  obtain ⟨r', er'⟩ := ring_head hf (List.mem_range.mp hb) mb
  show rowI (runOf f M a).2 ≤ rowI (runOf f M b).2
  rw [er, er']
  exact List.le_of_lt (List.cons_lt_cons_iff.mpr (.inl (show (a : Int) < (b : Int) by omega)))
/-- sorted, and of the same rings: just these -/
theorem rings_one {found : List (List Nat)} (nd : found.Nodup) (hm : ∀ r, r ∈ found ↔ ∃ x, x < M ∧ ∃ c, c ∈ (runOf f M x).2 ∧ (∀ y ∈ (runOf f M x).2, c ≤ y) ∧ r = (runOf f M c).2) {mss : List (List Int)} (hp : mss.Perm (found.map rowI)) (hs : mss.Pairwise (· ≤ ·)) : mss = (ringsN f M).map rowI := by
  have pm : found.Perm (ringsN f M) := by
    refine (List.perm_ext_iff_of_nodup nd (rings_nodup hf)).mpr fun r => ?_
    rw [hm]
    constructor
    · rintro ⟨x, hx, c, hc, hl, rfl⟩
      obtain ⟨h1, h2, _⟩ := rot_min hf hx hc hl
      exact List.mem_map.mpr ⟨c, List.mem_filter.mpr ⟨List.mem_range.mpr h1, h2⟩, rfl⟩
    · intro h
      obtain ⟨k, hk, rfl⟩ := List.mem_map.mp h
      obtain ⟨hk, mk⟩ := List.mem_filter.mp hk
      have hk := List.mem_range.mp hk
      obtain ⟨r, er⟩ := ring_head hf hk mk
      unfold isMin at mk
      rw [Bool.and_eq_true, decide_eq_true_iff, decide_eq_true_iff] at mk
      exact ⟨k, hk, k, by rw [er]; exact List.mem_cons_self, mk.2, rfl⟩
  exact List.Perm.eq_of_pairwise (le := (· ≤ ·)) (fun a b _ _ h1 h2 => List.le_antisymm h1 h2) hs (rings_sorted hf) (hp.trans (pm.map rowI))
end
end Gx

--W11
--NN
/-! Gx, data side 114: run_by: what a step makes again and again. -/
namespace Gx
open PySem L2
local macro_rules | `(tactic| simp_arith [$xs,*]) => `(tactic| try simp only [eVar, eC, eBin, eUn, tBl, tAnd', tOr', tNot', eAnd, eOr, eNot, eIf, aNil, aCons, eTup, eLst, eLstM, eCall, eCallK, pick, sNext, sSeq, sBreak, sCont, sDrop, sRet, sRetN, sIf, sNever, gNm, gsNil, gsCons, gTupl, gSubs, sAsg, sPar, sPar3, sFor, iSeq, seqG_tup, seqG_lst, seqG_scr, iRange1, iRange2, iEnumG, iZipG, td_tup, td_lst, td_scr, eLc, eLcM, tYes', pNone, pSome, eSl, cu_tup, cu_lst, cu_scr, eMt, eMt0, mAppend, isL, rs_non, rs_bl, rs_int, rs_str, rs_tup, rs_lst', rs_scr, itemsOf_tup, itemsOf_lst, itemsOf_scr, oI, oI0, oSub, oFdiv, oMod, oPow, oShl, oShr, oAnd, oOr, oXor, oLt, oLe, oGt, oGe, oNeg, oIsN, oNotN, oAdd, oAdd', oMul, oMul', oMulM, oEq, oNe, oEqS, oNeS, oIn, oNin, eChain, oIx, oSet, cLen, cList, cListM, cTuple, cSum, cAll, cAny, cInt, cAbs, cMax2, cMin2, cDivmod, cGcd, cIsi, cRepr, lstInts, lstBls, startD, wipeD, List.map_cons, List.map_nil, List.length_cons, List.length_nil, List.cons_append, List.nil_append, List.replicate_succ, List.replicate_zero, List.set_cons_succ, List.set_cons_zero, List.getElem?_cons_succ, List.getElem?_cons_zero, List.filterMap_cons_some, List.filterMap_nil, Nat.reduceAdd, Nat.reduceSub, Nat.sub_self, Nat.reduceLT, Nat.reduceMul, Nat.zero_add, Nat.add_zero, if_true, if_false, and_true, true_and, and_false, false_and, or_true, true_or, or_false, false_or, not_true_eq_false, not_false_eq_true, Bool.not_true, Bool.not_false, Bool.false_eq_true, ite_true, ite_false, reduceIte, reduceCtorEq, eq_self, aStar, eLstRg, eDicT0, eDixT, gSubsT, keysOf, cListT, cSortedP, oSubB, oMulT, iZip2G, eDic0, eDic1, oDix, oDin, oDnin, oDset, iKeysG, cSortedE, cListD, Gx.keyOf, cMaxL, cMinL, cSortedI, mIndex, eSortSet, eLenT, tBi, oIsB, cSumT, eBits, eLenI, eRev, eLZ, eTZ, eZ, iEnZG, mPop, mPopAt, cRng, cLenR, iRngV, eDc, cLenD, sAsg2, eLenIT, eLstRgM, cSortedTI, oNotB, ySeq, yS, yIf, yRaise, yRet, yDrop, yAsg, xE, xCall, xCallN, xCallK, xaNil, xaCons, eCallS, eCallKS, sTry, eLam, getCaps, eAct, xAct, cSortedR, $xs,*])
def γ_run (d : D) (φ : OLX) : OL := fun ds S R => ∃ (M : Nat) (e : Nat → D) (f : Nat → Nat) (x : Nat), ds = [e x, d] ∧ (x < M ∧ M ≤ 300 ∧ (∀ y, y < M → f y < M) ∧ (∀ y, pl 59 (e y) = true ∧ ∀ S, rs S (e y) = e y) ∧ (∀ y z, y < M → z < M → (eqD (e y) (e z) = true ↔ y = z)) ∧ ∀ y, y < M → ∀ (S' : Sto) (Q : QD), Q (e (f y)) S' → φ [e y] S' Q fun _ _ => False) ∧
  R (.tup [.tup ((runOf f M x).1.map e), .tup ((runOf f M x).2.map e)]) S
def body_run (d_fn : D) (φ_fn : OLX) : ST := sSeq (sPar 3 4 (aCons (eLstM (aNil)) (aCons (eVar 0) (aNil))))
  (sSeq (sWh (tBl (eBin oNin (eVar 4) (eVar 3))) (sSeq (sDrop (eMt mAppend (eVar 3) (aCons (eVar 4) (aNil))))
  (sAsg (eAct 1 d_fn 1 φ_fn (aCons (eVar 4) (aNil))) (gNm 4))))
  (sSeq (sAsg (eMt mIndex (eVar 3) (aCons (eVar 4) (aNil))) (gNm 2))
  (sRet (eTup (aCons (eCall cTuple (aCons (eSl (eVar 3) (pNone) (pSome (eVar 2))) (aNil))) (aCons (eCall cTuple (aCons (eSl (eVar 3) (pSome (eVar 2)) (pNone)) (aNil))) (aNil)))))))
theorem inD_e {e : Nat → D} {M h : Nat} {l : List Nat} (hq : ∀ y z, y < M → z < M → (eqD (e y) (e z) = true ↔ y = z)) (hl : ∀ y ∈ l, y < M) (hh : h < M) : inD (e h) (l.map e) = decide (h ∈ l) := by
  rw [Bool.eq_iff_iff, decide_eq_true_iff]
  unfold inD
  rw [List.any_map, List.any_eq_true]
  constructor
  · rintro ⟨y, hy, q⟩
    have := (hq y h (hl y hy) hh).mp q
    exact this ▸ hy
  · intro hm
    exact ⟨h, hm, (hq h h hh hh).mpr rfl⟩
theorem pl_list {e : Nat → D} (hp : ∀ y, pl 59 (e y) = true ∧ ∀ S, rs S (e y) = e y) (l : List Nat) : pl 60 (.lst (l.map e)) = true := by
  show (l.map e).all (pl 59) = true
  rw [List.all_eq_true]
  intro z hz
  obtain ⟨y, _, rfl⟩ := List.mem_map.mp hz
  exact (hp y).1
abbrev runB (d : D) (φ : OLX) : ST := sSeq (sDrop (eMt mAppend (eVar 3) (aCons (eVar 4) (aNil)))) (sAsg (eAct 1 d 1 φ (aCons (eVar 4) (aNil))) (gNm 4))
theorem run_wh {e : Nat → D} {M x : Nat} {f : Nat → Nat} {d : D} {φ : OLX} {p : Addr} {S : Sto} {x2 : Option D} {G : EndG} {r : List Nat × List Nat → Prop} (M3 : M ≤ 300) (hf : ∀ y, y < M → f y < M) (hp : ∀ y, pl 59 (e y) = true ∧ ∀ S, rs S (e y) = e y) (hq : ∀ y z, y < M → z < M → (eqD (e y) (e z) = true ↔ y = z))
    (hφ : ∀ y, y < M → ∀ (S' : Sto) (Q : QD), Q (e (f y)) S' → φ [e y] S' Q fun _ _ => False) {lr : List Nat × Nat} (fin : G.nx [some (e x), some d, x2, some (.ref p), some (e lr.2)] (up S p (.lst (lr.1.map e)))) :
    ∀ (k : Nat) (l : List Nat) (h : Nat), Orb f M x l h → M + 1 ≤ l.length + k → runL f k l h = lr → whG (tBl (eBin oNin (eVar 4) (eVar 3))) (runB d φ) (k + 1) G [some (e x), some d, x2, some (.ref p), some (e h)] (up S p (.lst (l.map e)))
  | 0, l, h, o, hk, _ => absurd o.few (by omega)
  | k + 1, l, h, o, hk, er => by
    have ie := inD_e hq o.lt o.hlt
    unfold whG
    simp_arith [rs_ref up_same, ie, (hp h).2]
    refine ⟨⟨pl_mono (hp h).1 (by decide), pl_list hp l⟩, ?_⟩
    unfold runL at er
    by_cases z : h ∈ l
    · rw [if_pos z] at er
      subst er
      simp_arith [decide_eq_true z]
      exact fin
    · rw [if_neg z] at er
      simp_arith [decide_eq_false z, rs_ref up_same, up_same, up_up, List.length_map]
      refine ⟨Nat.lt_of_le_of_lt o.few (Nat.lt_of_le_of_lt M3 (by decide)), hφ h o.hlt _ _ ?_⟩
      have o2 := o.next hf z
      have ih := run_wh (r := r) M3 hf hp hq hφ fin k _ _ o2 (by rw [List.length_append, List.length_singleton]; omega) er
      rw [List.map_append] at ih
      exact ih
theorem law_run (d : D) (φ : OLX) : Law 5 (γ_run d φ) (body_run d φ) := by
  intro ds S R ⟨M, e, f, x, ed, ⟨hx, M3, hf, hp, hq, hφ⟩, h⟩
  subst ed
  obtain ⟨o, hm⟩ := runL_end hf (M + 1) [] x (.start hx) (by simp)
  unfold body_run
  refine seqK fun k hk => ?_
  simp_arith []
  refine ⟨by decide, fun p hp0 => ?_⟩
  rw [hk]
  clear hk
  refine seqK fun k hk => ?_
  refine ⟨M + 1 + 1, run_wh (r := fun _ => True) (lr := runL f (M + 1) [] x) M3 hf hp hq hφ ?_ (M + 1) [] x (.start hx) (by simp) rfl⟩
  show k _ _
  rw [hk]
  clear hk
  unfold runOf at h
  generalize runL f (M + 1) [] x = lr at *
  have hj : lr.1.idxOf lr.2 < lr.1.length := List.idxOf_lt_length_iff.mpr hm
  have few := o.few
  refine seqK fun k hk => ?_
  simp_arith [rs_ref up_same, (hp _).2]
  refine ⟨⟨pl_list hp _, pl_mono (hp _).1 (by decide)⟩, lr.1.idxOf lr.2, e lr.2, ?_, (hq _ _ o.hlt o.hlt).mpr rfl, fun m z hm' hz => ?_, ?_⟩
  · rw [List.getElem?_map, List.getElem?_eq_getElem hj, List.getElem_idxOf]; rfl
  · rw [List.getElem?_map] at hz
    obtain ⟨y, hy, rfl⟩ := Option.map_eq_some_iff.mp hz
    have hy' := List.mem_of_getElem? hy
    rw [Bool.eq_false_iff]
    intro q
    have e1 := (hq y lr.2 (o.lt y hy') o.hlt).mp q
    have g : lr.1[lr.1.idxOf lr.2]? = some lr.2 := by rw [List.getElem?_eq_getElem hj, List.getElem_idxOf]
    rw [e1, ← g] at hy
    have := (List.getElem?_inj (by omega) o.nd).mp hy
    omega
  · rw [hk]
    simp_arith [rs_ref up_same]
    refine ⟨by decide, ?_⟩
    rw [cutD_to (by rw [List.length_map]; omega), cutD_from (by rw [List.length_map]; omega), ← List.map_take, ← List.map_drop]
    exact fin_new hp0 h
end Gx

--W11
--NN
/-! Gx, data side 115: all at once: runs, rings, swings. -/
namespace Gx
open PySem L2
local macro_rules | `(tactic| simp_arith [$xs,*]) => `(tactic| try simp only [eVar, eC, eBin, eUn, tBl, tAnd', tOr', tNot', eAnd, eOr, eNot, eIf, aNil, aCons, eTup, eLst, eLstM, eCall, eCallK, pick, sNext, sSeq, sBreak, sCont, sDrop, sRet, sRetN, sIf, sNever, gNm, gsNil, gsCons, gTupl, gSubs, sAsg, sPar, sPar3, sFor, iSeq, seqG_tup, seqG_lst, seqG_scr, iRange1, iRange2, iEnumG, iZipG, td_tup, td_lst, td_scr, eLc, eLcM, tYes', pNone, pSome, eSl, cu_tup, cu_lst, cu_scr, eMt, eMt0, mAppend, isL, rs_non, rs_bl, rs_int, rs_str, rs_tup, rs_lst', rs_scr, itemsOf_tup, itemsOf_lst, itemsOf_scr, oI, oI0, oSub, oFdiv, oMod, oPow, oShl, oShr, oAnd, oOr, oXor, oLt, oLe, oGt, oGe, oNeg, oIsN, oNotN, oAdd, oAdd', oMul, oMul', oMulM, oEq, oNe, oEqS, oNeS, oIn, oNin, eChain, oIx, oSet, cLen, cList, cListM, cTuple, cSum, cAll, cAny, cInt, cAbs, cMax2, cMin2, cDivmod, cGcd, cIsi, cRepr, lstInts, lstBls, startD, wipeD, List.map_cons, List.map_nil, List.length_cons, List.length_nil, List.cons_append, List.nil_append, List.replicate_succ, List.replicate_zero, List.set_cons_succ, List.set_cons_zero, List.getElem?_cons_succ, List.getElem?_cons_zero, List.filterMap_cons_some, List.filterMap_nil, Nat.reduceAdd, Nat.reduceSub, Nat.sub_self, Nat.reduceLT, Nat.reduceMul, Nat.zero_add, Nat.add_zero, if_true, if_false, and_true, true_and, and_false, false_and, or_true, true_or, or_false, false_or, not_true_eq_false, not_false_eq_true, Bool.not_true, Bool.not_false, Bool.false_eq_true, ite_true, ite_false, reduceIte, reduceCtorEq, eq_self, aStar, eLstRg, eDicT0, eDixT, gSubsT, keysOf, cListT, cSortedP, oSubB, oMulT, iZip2G, eDic0, eDic1, oDix, oDin, oDnin, oDset, iKeysG, cSortedE, cListD, Gx.keyOf, cMaxL, cMinL, cSortedI, mIndex, eSortSet, eLenT, tBi, oIsB, cSumT, eBits, eLenI, eRev, eLZ, eTZ, eZ, iEnZG, mPop, mPopAt, cRng, cLenR, iRngV, eDc, cLenD, sAsg2, eLenIT, eLstRgM, cSortedTI, oNotB, ySeq, yS, yIf, yRaise, yRet, yDrop, yAsg, xE, xCall, xCallN, xCallK, xaNil, xaCons, eCallS, eCallKS, sTry, eLam, getCaps, eAct, xAct, cSortedR, cMinT, $xs,*])
def stE (n : Nat) (k : Nat) : D := encS (stateOf n k)
theorem stE_inj {n y z : Nat} (hy : y < 2 ^ n) (hz : z < 2 ^ n) : eqD (stE n y) (stE n z) = true ↔ y = z := by
  unfold stE
  rw [eqS_iff]
  constructor
  · intro h
    rw [← numOf_stateOf n y hy, h, numOf_stateOf n z hz]
  · intro h; rw [h]
theorem wishN_lt (N : Net) (k : Nat) : wishN N k < 2 ^ N.n := by
  have := numOf_lt (wants N (stateOf N.n k))
  rwa [wants_length] at this
theorem stateOf_wish (N : Net) (k : Nat) : stateOf N.n (wishN N k) = wants N (stateOf N.n k) := by
  have := stateOf_numOf (wants N (stateOf N.n k))
  rwa [wants_length] at this
/-- tail and ring, as states -/
def runD (N : Net) (k : Nat) : D := .tup [encSs ((runOf (wishN N) (2 ^ N.n) k).1.map (stateOf N.n)), encSs ((runOf (wishN N) (2 ^ N.n) k).2.map (stateOf N.n))]
theorem map_stE (n : Nat) (l : List Nat) : D.tup (l.map (stE n)) = encSs (l.map (stateOf n)) := by
  unfold encSs
  rw [List.map_map]; rfl
def γ_ato (T : Addr) : OL := fun ds S R => ∃ (N : Net) (k : Nat), ds = [encN N, encS (stateOf N.n k)] ∧ ((N.Ok ∧ Sm N ∧ k < 2 ^ N.n) ∧ S T = some (.tab (lamQ "at_once_by"))) ∧ R (runD N k) S
def body_ato (γ_run_by : D → OLX → OL) (γ_wanted_by : OL) (T : Addr) : ST := sRet (eLam T (lamQ "at_once_by") [0] (xE (eCall γ_wanted_by (aCons (eVar 1) (aCons (eVar 0) (aNil))))) γ_run_by (aCons (eVar 1) aNil))
theorem law_ato (T : Addr) : Law 2 (γ_ato T) (body_ato γ_run γ_wanted_by T) := by
  intro ds S R ⟨N, k, e, ⟨⟨ok, sm, hk⟩, hT⟩, h⟩
  subst e
  have q := fin_of h
  have p8 := pow8 ok.few
  unfold body_ato
  simp_arith []
  refine ⟨hT, fun g c ho cv => ?_⟩
  unfold γ_run γ_wanted_by
  simp_arith []
  refine ⟨2 ^ N.n, stE N.n, wishN N, k, rfl, ⟨hk, by omega, fun y _ => wishN_lt N y, fun y => ⟨pl_mono (pl_encS _) (by decide), fun S => rfl⟩, fun y z hy hz => stE_inj hy hz, fun y hy S' Q hQ => ?_⟩, ?_⟩
  · refine ⟨N, stateOf N.n y, rfl, ⟨ok, sm, stateOf_length _ _⟩, ?_⟩
    unfold stE at hQ
    rw [stateOf_wish] at hQ
    exact hQ
  · rw [map_stE, map_stE]
    exact q
def body_runC (γ_check_both γ_at_once_by : OL) : ST := sSeq (sDrop (eCall γ_check_both (aCons (eVar 0) (aCons (eVar 1) (aNil)))))
  (sRet (eCall γ_at_once_by (aCons (eVar 0) (aCons (eVar 1) (aNil)))))
theorem law_runC (T : Addr) : Law 2 (γ_ato T) (body_runC γ_check_both (γ_ato T)) := by
  intro ds S R ⟨N, k, e, ⟨⟨ok, sm, hk⟩, hT⟩, h⟩
  subst e
  unfold body_runC γ_check_both γ_ato
  simp_arith []
  exact ⟨N, _, rfl, ⟨ok, stateOf_length _ _⟩, N, k, rfl, ⟨⟨ok, sm, hk⟩, hT⟩, fin_of h⟩
/-! ### rings -/
def ringsD (N : Net) : D := .tup ((ringsN (wishN N) (2 ^ N.n)).map fun c => encSs (c.map (stateOf N.n)))
def γ_rgs (T : Addr) : OL := fun ds S R => ∃ (N : Net), ds = [encN N] ∧ ((N.Ok ∧ Sm N) ∧ S T = some (.tab (lamQ "rings_by"))) ∧ R (ringsD N) S
def body_rgs (γ_all_states : OL) (γ_number_by : OL) (γ_wanted_by : OL) (γ_run_by : D → OLX → OL) (γ_state_by : OL) (γ_many_cells : OL) (T : Addr) : ST := sSeq (sAsg (eLc (iSeq (eCall γ_all_states (aCons (eVar 0) (aNil)))) (gNm 6) (tYes') (eCall γ_number_by (aCons (eCall γ_wanted_by (aCons (eVar 0) (aCons (eVar 6) (aNil)))) (aNil))) [6]) (gNm 1))
  (sSeq (sAsg (eLstM (aNil)) (gNm 2))
  (sSeq (sFor (iRange1 (aCons (eCall cLen (aCons (eVar 1) (aNil))) (aNil))) (gNm 3) (sSeq (sAsg (eLam T (lamQ "rings_by") [1] (xE (eBin oIx (eVar 1) (eVar 0))) γ_run_by (aCons (eVar 3) aNil)) (gTupl 2 (gsCons (gNm 4) (gsCons (gNm 5) (gsNil)))))
  (sIf (tAnd' (tBl (eBin oEq (eVar 4) (eTup (aNil)))) (tBl (eBin oEq (eVar 3) (eCall cMinT (aCons (eVar 5) (aNil)))))) (sDrop (eMt mAppend (eVar 2) (aCons (eCall cTuple (aCons (eLc (iSeq (eVar 5)) (gNm 7) (tYes') (eCall γ_state_by (aCons (eCall γ_many_cells (aCons (eVar 0) (aNil))) (aCons (eVar 7) (aNil)))) [7]) (aNil))) (aNil)))) (sNext))))
  (sRet (eCall cTuple (aCons (eVar 2) (aNil))))))
theorem eqI_nil' (ms : List Nat) : eqD (.tup (ms.map fun i : Nat => D.int (i : Int))) (.tup []) = decide (ms = []) := eqD_dec encI_inj cl_encI ms []
theorem allS_wish (N : Net) : ((allS N.n).map fun s => D.int (numOf (wants N s) : Nat)) = encK ((List.range (2 ^ N.n)).map (wishN N)) := by
  unfold allS encK
  rw [List.map_map, List.map_map]; rfl
theorem wish_at {N : Net} {k : Nat} (h : k < 2 ^ N.n) : L2.atI (encK ((List.range (2 ^ N.n)).map (wishN N))) (k : Int) = some (.int (wishN N k : Nat)) := by
  unfold encK
  rw [List.map_map, atI_map (by simpa using h), List.getElem_range]; rfl
theorem intsOf_nats (l : List Nat) : intsOf (l.map fun i : Nat => D.int (i : Int)) = some (l.map fun i : Nat => (i : Int)) := by
  induction l with
  | nil => rfl
  | cons x l ih =>
    show (intsOf (l.map fun i : Nat => D.int (i : Int))).map ((x : Int) :: ·) = _
    rw [ih]; rfl
theorem law_rgs (T : Addr) : Law 8 (γ_rgs T) (body_rgs γ_all_states γ_num γ_wanted_by γ_run γ_state_by γ_many_cells T) := by
  intro ds S R ⟨N, e, ⟨⟨ok, sm⟩, hT⟩, h⟩
  subst e
  have p8 := pow8 ok.few
  have h8 := ok.few
  have hf : ∀ y, y < 2 ^ N.n → wishN N y < 2 ^ N.n := fun y _ => wishN_lt N y
  unfold body_rgs
  refine seqK fun k hk => ?_
  unfold γ_all_states γ_num γ_wanted_by
  simp_arith []
  refine ⟨N, rfl, ok.few, ?_⟩
  refine lc_map encS (fun s => D.int (numOf (wants N s) : Nat)) (allS N.n) [] (fun s hs Q hQ => ?_) trivial (sz1000 (by rw [allS_length, List.length_nil]; omega)) ?_
  · simp_arith [wipeD]
    exact ⟨N, s, rfl, ⟨ok, sm, allS_mem hs⟩, wants N s, rfl, by rw [wants_length]; omega, hQ⟩
  rw [List.nil_append, allS_wish, hk]
  clear hk
  refine seqK fun k hk => ?_
  simp_arith []
  refine ⟨by decide, fun p2 hp2 => ?_⟩
  rw [hk]
  clear hk
  have nT : T ≠ p2 := fun z => by subst z; rw [hT] at hp2; cases hp2
  refine seqK fun k hk => ?_
  simp_arith [encK_len, List.length_range, List.length_map]
  have p0 : 0 < 2 ^ N.n := Nat.two_pow_pos _
  refine ⟨⟨by omega, by omega⟩, ?_⟩
  rw [Int.toNat_natCast]
  refine for_rng (fun i τ S' => ∃ x3 x4 x5 x6 x7, S' = up S p2 (.lst (((List.range i).filter (isMin (wishN N) (2 ^ N.n))).map fun k => encSs ((runOf (wishN N) (2 ^ N.n) k).2.map (stateOf N.n)))) ∧ τ = [some (encN N), some (.lst (encK ((List.range (2 ^ N.n)).map (wishN N)))), some (.ref p2), x3, x4, x5, x6, x7]) ⟨_, _, _, _, _, rfl, rfl⟩ (fun i τ S' K hi ⟨x3, x4, x5, x6, x7, hS, hτ⟩ hK => ?_) (fun τ S' ⟨x3, x4, x5, x6, x7, hS, hτ⟩ => ?_)
  · subst hS hτ
    refine seqK fun k2 hk2 => ?_
    unfold γ_run
    simp_arith []
    refine ⟨by rw [up_ne nT]; exact hT, fun g c ho cv => ?_⟩
    refine ⟨2 ^ N.n, fun k : Nat => .int (k : Int), wishN N, i, rfl, ⟨hi, by omega, hf, fun y => ⟨pl_int, fun S => rfl⟩, fun y z _ _ => by rw [eqD_nat]; exact decide_eq_true_iff, fun y hy S' Q hQ => ?_⟩, ?_⟩
    · simp_arith [wish_at hy]
      exact hQ
    simp_arith []
    rw [hk2]
    clear hk2
    have pt : ∀ l : List Nat, pl 60 (.tup (l.map fun i : Nat => D.int (i : Int))) = true := fun l => pl_mono (pl_encI l) (by decide)
    have pn : pl 60 (.tup []) = true := rfl
    simp_arith [eqI_nil', pt, pn]
    have nil_next : isMin (wishN N) (2 ^ N.n) i = false → (List.range (i + 1)).filter (isMin (wishN N) (2 ^ N.n)) = (List.range i).filter (isMin (wishN N) (2 ^ N.n)) := fun z => by
      rw [List.range_succ, List.filter_append]
      simp [z]
    by_cases z1 : (runOf (wishN N) (2 ^ N.n) i).1 = []
    · obtain ⟨j, m, e1, e2, p, hs, hlt, _⟩ := run_spec hf hi
      have j0 : j = 0 := by
        have := congrArg List.length e1
        rw [z1, List.length_map, List.length_range] at this
        exact this.symm
      subst j0
      have p : Per (wishN N) i m := p
      have e2 : (runOf (wishN N) (2 ^ N.n) i).2 = rngF (wishN N) i m := e2
      have lm : (runOf (wishN N) (2 ^ N.n) i).2.length = m := by rw [e2, rngF_len]
      have im : i ∈ (runOf (wishN N) (2 ^ N.n) i).2 := by rw [e2]; exact List.mem_of_getElem? (rngF_get p.pos)
      simp_arith [decide_eq_true z1, intsOf_nats]
      refine ⟨by decide, ⟨fun z => ?_, by rw [List.length_map, lm]; omega⟩, fun c hc hcl => ?_⟩
      · have := congrArg List.length z
        rw [List.length_map, lm, List.length_nil] at this
        have := p.pos
        omega
      obtain ⟨c, hc2, rfl⟩ := List.mem_map.mp hc
      have hcl : ∀ y ∈ (runOf (wishN N) (2 ^ N.n) i).2, c ≤ y := fun y hy => by
        have := hcl _ (List.mem_map.mpr ⟨y, hy, rfl⟩)
        omega
      have em : isMin (wishN N) (2 ^ N.n) i = decide (i = c) := by
        unfold isMin
        rw [decide_eq_true z1, Bool.true_and]
        apply decide_eq_decide.mpr
        constructor
        · intro h
          exact Nat.le_antisymm (h c hc2) (hcl i im)
        · rintro rfl
          exact hcl
      refine ⟨⟨pl_int, pl_int⟩, ?_⟩
      by_cases z2 : i = c
      · rw [decide_eq_true z2] at em
        simp_arith [eqD_nat, decide_eq_true z2, rs_ref up_same]
        unfold γ_state_by γ_many_cells
        refine lc_map (fun k : Nat => D.int (k : Int)) (fun k => encS (stateOf N.n k)) (runOf (wishN N) (2 ^ N.n) i).2 [] (fun y hy Q hQ => ?_) trivial (sz1000 (by rw [lm, List.length_nil]; omega)) ?_
        · simp_arith [wipeD]
          exact ⟨N, rfl, N.n, y, rfl, by omega, hQ⟩
        simp_arith [up_same, up_up]
        refine ⟨by
          rw [List.length_map]
          exact Nat.lt_of_le_of_lt (Nat.le_trans (List.length_filter_le _ _) (by rw [List.length_range]; omega)) (by decide : 256 < sizeLine), ?_⟩
        refine hK _ _ ⟨_, _, _, _, _, ?_, rfl⟩
        rw [List.range_succ, List.filter_append, List.map_append]
        simp [em, encSs]
        rfl
      · simp_arith [eqD_nat, decide_eq_false z2]
        rw [decide_eq_false z2] at em
        exact hK _ _ ⟨_, _, _, _, _, by rw [nil_next em], rfl⟩
    · simp_arith [decide_eq_false z1]
      have zf : isMin (wishN N) (2 ^ N.n) i = false := by unfold isMin; rw [decide_eq_false z1, Bool.false_and]
      exact ⟨by decide, hK _ _ ⟨_, _, _, _, _, by rw [nil_next zf], rfl⟩⟩
  · subst hS hτ
    rw [hk]
    simp_arith [up_same, rs_ref up_same]
    unfold ringsD ringsN at h
    rw [List.map_map] at h
    exact fin_new hp2 h
end Gx

/-! Gx, data side 116: rings: apart, how many in all, those of one: plain. -/
namespace Gx
open PySem L2
section
variable {f : Nat → Nat} {M : Nat} (hf : ∀ y, y < M → f y < M)
include hf
theorem ring_of_mem {a y : Nat} (ha : a < M) (ma : isMin f M a = true) (hy : y ∈ (runOf f M a).2) : y < M ∧ ∀ z, z ∈ (runOf f M y).2 ↔ z ∈ (runOf f M a).2 := by
  obtain ⟨m, p, hm, e, hlt, hle⟩ := min_ring hf ha ma
  rw [e] at hy ⊢
  have hy : y ∈ rngF f a m := hy
  obtain ⟨s, hs, rfl⟩ := List.mem_map.mp hy
  have hs := List.mem_range.mp hs
  have ym := hlt s hs
  have r := run_ring hf ym (p.shift hs)
  refine ⟨ym, fun z => ?_⟩
  rw [r]
  show z ∈ rngF f (itF f a s) m ↔ z ∈ rngF f a m
  rw [← ring_rot p hs, List.mem_append, or_comm, ← List.mem_append, List.take_append_drop]
theorem isMin_le {a : Nat} (ma : isMin f M a = true) : ∀ z ∈ (runOf f M a).2, a ≤ z := by
  unfold isMin at ma
  rw [Bool.and_eq_true, decide_eq_true_iff, decide_eq_true_iff] at ma
  exact ma.2
theorem isMin_mem {a : Nat} (ha : a < M) (ma : isMin f M a = true) : a ∈ (runOf f M a).2 := by
  obtain ⟨r, er⟩ := ring_head hf ha ma
  rw [er]; exact List.mem_cons_self
theorem rings_apart {a b y : Nat} (ha : a < M) (ma : isMin f M a = true) (hb : b < M) (mb : isMin f M b = true) (h1 : y ∈ (runOf f M a).2) (h2 : y ∈ (runOf f M b).2) : a = b := by
  have A := ring_of_mem hf ha ma h1
  have B := ring_of_mem hf hb mb h2
  have ab : a ∈ (runOf f M b).2 := (B.2 a).mp ((A.2 a).mpr (isMin_mem hf ha ma))
  have ba : b ∈ (runOf f M a).2 := (A.2 b).mp ((B.2 b).mpr (isMin_mem hf hb mb))
  exact Nat.le_antisymm (isMin_le hf ma b ba) (isMin_le hf mb a ab)
theorem rings_mem {c : List Nat} (hc : c ∈ ringsN f M) : ∃ k, k < M ∧ isMin f M k = true ∧ c = (runOf f M k).2 := by
  obtain ⟨k, hk, rfl⟩ := List.mem_map.mp hc
  obtain ⟨hk, mk⟩ := List.mem_filter.mp hk
  exact ⟨k, List.mem_range.mp hk, mk, rfl⟩
theorem rings_lt {c : List Nat} (hc : c ∈ ringsN f M) : ∀ y ∈ c, y < M := fun y hy => by
  obtain ⟨k, hk, mk, rfl⟩ := rings_mem hf hc
  exact (ring_of_mem hf hk mk hy).1
theorem rings_flat : (ringsN f M).flatten.Nodup := by
  unfold List.Nodup
  rw [List.pairwise_flatten]
  refine ⟨fun c hc => ?_, ?_⟩
  · obtain ⟨k, hk, mk, rfl⟩ := rings_mem hf hc
    obtain ⟨m, p, _, e, _⟩ := min_ring hf hk mk
    rw [e]; exact p.nodup
  · unfold ringsN
    rw [List.pairwise_map]
    have := (List.pairwise_lt_range (n := M)).filter (isMin f M)
    refine this.imp_of_mem fun {a b} ha hb hab x hx y hy e => ?_
    subst e
    obtain ⟨ha, ma⟩ := List.mem_filter.mp ha
    obtain ⟨hb, mb⟩ := List.mem_filter.mp hb
    have := rings_apart hf (List.mem_range.mp ha) ma (List.mem_range.mp hb) mb hx hy
    omega
theorem rings_all : (ringsN f M).flatten.length ≤ M := nd_lt (rings_flat hf) fun y hy => by
  obtain ⟨c, hc, h⟩ := List.mem_flatten.mp hy
  exact rings_lt hf hc y h
theorem rings_few : (ringsN f M).length ≤ M := by
  unfold ringsN
  rw [List.length_map]
  exact Nat.le_trans (List.length_filter_le _ _) (Nat.le_of_eq List.length_range)
theorem ring_one {k : Nat} (hk : k < M) : (isMin f M k && decide ((runOf f M k).2.length = 1)) = decide (f k = k) := by
  rw [Bool.eq_iff_iff, Bool.and_eq_true, decide_eq_true_iff, decide_eq_true_iff]
  constructor
  · rintro ⟨mk, h1⟩
    obtain ⟨m, p, _, e, _⟩ := min_ring hf hk mk
    rw [e] at h1
    have h1 : (rngF f k m).length = 1 := h1
    rw [rngF_len] at h1
    subst h1
    exact p.back
  · intro h
    have p : Per f k 1 := ⟨by decide, h, fun i h1 h2 => absurd h2 (by omega)⟩
    have r := run_ring hf hk p
    have e : rngF f k 1 = [k] := rfl
    rw [e] at r
    refine ⟨?_, by rw [r]; rfl⟩
    unfold isMin
    rw [r, Bool.and_eq_true, decide_eq_true_iff, decide_eq_true_iff]
    exact ⟨rfl, fun y hy => by rw [List.mem_singleton.mp hy]; exact Nat.le_refl _⟩
/-- rings of one: just what stays -/
theorem rings_ones : ((ringsN f M).filter fun c => decide (c.length = 1)).map (fun c => c.headD 0) = (List.range M).filter fun k => decide (f k = k) := by
  unfold ringsN
  rw [List.filter_map, List.map_map, List.filter_filter]
  have e1 : ((List.range M).filter fun a => ((fun c : List Nat => decide (c.length = 1)) ∘ fun k => (runOf f M k).2) a && isMin f M a) = (List.range M).filter fun k => decide (f k = k) := by
    apply List.filter_congr
    intro k hk
    rw [← ring_one hf (List.mem_range.mp hk), Bool.and_comm]
    rfl
  rw [e1]
  have e2 : ∀ k ∈ (List.range M).filter fun k => decide (f k = k), ((fun c : List Nat => c.headD 0) ∘ fun k => (runOf f M k).2) k = id k := fun k hk => by
    obtain ⟨hk, z⟩ := List.mem_filter.mp hk
    have hk := List.mem_range.mp hk
    rw [← ring_one hf hk, Bool.and_eq_true] at z
    obtain ⟨r, er⟩ := ring_head hf hk z.1
    show (runOf f M k).2.headD 0 = k
    rw [er]; rfl
  rw [List.map_congr_left e2, List.map_id]
end
theorem flat_filter (p : List Nat → Bool) : ∀ L : List (List Nat), (L.filter p).flatten.length ≤ L.flatten.length
  | [] => Nat.le_refl _
  | c :: L => by
    have ih := flat_filter p L
    rw [List.filter_cons]
    split
    · rw [List.flatten_cons, List.flatten_cons, List.length_append, List.length_append]; omega
    · rw [List.flatten_cons, List.length_append]; omega
theorem RPs.mapS {α : Type} {k : Nat} {f : α → D} (sz : α → Nat) : ∀ {xs : List α}, (∀ x ∈ xs, RP k (sz x) (f x)) → RPs k ((xs.map fun x => sz x + 1).sum) (xs.map f)
  | [], _ => .nil
  | x :: xs, h => by
    have := RPs.cons (h x List.mem_cons_self) (RPs.mapS sz (xs := xs) fun y hy => h y (List.mem_cons_of_mem _ hy))
    rw [List.map_cons, List.map_cons, List.sum_cons]
    exact this
theorem sum_flat : ∀ L : List (List Nat), (L.map fun c => 6 * c.length + 1).sum = 6 * L.flatten.length + L.length
  | [] => rfl
  | c :: L => by
    rw [List.map_cons, List.sum_cons, sum_flat L, List.flatten_cons, List.length_append, List.length_cons]
    omega
theorem rp_rows {n : Nat} (hn : n ≤ 5) {L : List (List Nat)} (h1 : L.flatten.length ≤ 32) (h2 : L.length ≤ 32) : RP 3 300 (.tup (L.map fun c => encSs (c.map (stateOf n)))) := by
  have := (RPs.mapS (k := 2) (f := fun c : List Nat => encSs (c.map (stateOf n))) (fun c => 6 * c.length) (xs := L) fun c hc => by
    have := rp_Ss (n := 5) (ss := c.map (stateOf n)) fun s hs => by
      obtain ⟨k, _, rfl⟩ := List.mem_map.mp hs
      rw [stateOf_length]; exact hn
    rw [List.length_map] at this
    exact this).tup
  rw [sum_flat] at this
  exact ⟨this.pl, this.ok, Nat.le_trans this.sz (by omega)⟩
end Gx

--W11
--NN
/-! Gx, data side 117: swings; the law's own tails and rings. -/
namespace Gx
open PySem L2
local macro_rules | `(tactic| simp_arith [$xs,*]) => `(tactic| try simp only [eVar, eC, eBin, eUn, tBl, tAnd', tOr', tNot', eAnd, eOr, eNot, eIf, aNil, aCons, eTup, eLst, eLstM, eCall, eCallK, pick, sNext, sSeq, sBreak, sCont, sDrop, sRet, sRetN, sIf, sNever, gNm, gsNil, gsCons, gTupl, gSubs, sAsg, sPar, sPar3, sFor, iSeq, seqG_tup, seqG_lst, seqG_scr, iRange1, iRange2, iEnumG, iZipG, td_tup, td_lst, td_scr, eLc, eLcM, tYes', pNone, pSome, eSl, cu_tup, cu_lst, cu_scr, eMt, eMt0, mAppend, isL, rs_non, rs_bl, rs_int, rs_str, rs_tup, rs_lst', rs_scr, itemsOf_tup, itemsOf_lst, itemsOf_scr, oI, oI0, oSub, oFdiv, oMod, oPow, oShl, oShr, oAnd, oOr, oXor, oLt, oLe, oGt, oGe, oNeg, oIsN, oNotN, oAdd, oAdd', oMul, oMul', oMulM, oEq, oNe, oEqS, oNeS, oIn, oNin, eChain, oIx, oSet, cLen, cList, cListM, cTuple, cSum, cAll, cAny, cInt, cAbs, cMax2, cMin2, cDivmod, cGcd, cIsi, cRepr, lstInts, lstBls, startD, wipeD, List.map_cons, List.map_nil, List.length_cons, List.length_nil, List.cons_append, List.nil_append, List.replicate_succ, List.replicate_zero, List.set_cons_succ, List.set_cons_zero, List.getElem?_cons_succ, List.getElem?_cons_zero, List.filterMap_cons_some, List.filterMap_nil, Nat.reduceAdd, Nat.reduceSub, Nat.sub_self, Nat.reduceLT, Nat.reduceMul, Nat.zero_add, Nat.add_zero, if_true, if_false, and_true, true_and, and_false, false_and, or_true, true_or, or_false, false_or, not_true_eq_false, not_false_eq_true, Bool.not_true, Bool.not_false, Bool.false_eq_true, ite_true, ite_false, reduceIte, reduceCtorEq, eq_self, aStar, eLstRg, eDicT0, eDixT, gSubsT, keysOf, cListT, cSortedP, oSubB, oMulT, iZip2G, eDic0, eDic1, oDix, oDin, oDnin, oDset, iKeysG, cSortedE, cListD, Gx.keyOf, cMaxL, cMinL, cSortedI, mIndex, eSortSet, eLenT, tBi, oIsB, cSumT, eBits, eLenI, eRev, eLZ, eTZ, eZ, iEnZG, mPop, mPopAt, cRng, cLenR, iRngV, eDc, cLenD, sAsg2, eLenIT, eLstRgM, cSortedTI, oNotB, ySeq, yS, yIf, yRaise, yRet, yDrop, yAsg, xE, xCall, xCallN, xCallK, xaNil, xaCons, eCallS, eCallKS, sTry, eLam, getCaps, eAct, xAct, cSortedR, cMinT, $xs,*])
def swL (N : Net) : List (List Nat) := (ringsN (wishN N) (2 ^ N.n)).filter fun c => decide (c.length = 2)
def swD (N : Net) : D := .tup ((swL N).map fun c => encSs (c.map (stateOf N.n)))
def γ_swb (T : Addr) : OL := fun ds S R => ∃ (N : Net), ds = [encN N] ∧ ((N.Ok ∧ Sm N) ∧ S T = some (.tab (lamQ "rings_by"))) ∧ R (swD N) S
def body_swb (γ_rings_by : OL) : ST := sRet (eCall cTuple (aCons (eLc (iSeq (eCall γ_rings_by (aCons (eVar 0) (aNil)))) (gNm 1) (tBl (eBin oEq (eCall cLen (aCons (eVar 1) (aNil))) (eC (.int 2)))) (eVar 1) [1]) (aNil)))
theorem law_swb (T : Addr) : Law 2 (γ_swb T) (body_swb (γ_rgs T)) := by
  intro ds S R ⟨N, e, ⟨⟨ok, sm⟩, hT⟩, h⟩
  subst e
  have p8 := pow8 ok.few
  have hf : ∀ y, y < 2 ^ N.n → wishN N y < 2 ^ N.n := fun y _ => wishN_lt N y
  unfold body_swb γ_rgs
  simp_arith []
  refine ⟨N, rfl, ⟨⟨ok, sm⟩, hT⟩, ?_⟩
  unfold ringsD
  simp_arith []
  refine lc_filter (fun c : List Nat => encSs (c.map (stateOf N.n))) (fun c => decide (c.length = 2)) (fun c => encSs (c.map (stateOf N.n))) (ringsN (wishN N) (2 ^ N.n)) [] (fun c hc Y M hy hM => ?_) trivial (sz1000 (by rw [List.length_nil]; have := rings_few hf; omega)) ?_
  · have e2 : (2 : Int) = ((2 : Nat) : Int) := rfl
    simp_arith [wipeD, encSs, List.length_map, eqD_int]
    refine ⟨⟨pl_int, pl_int⟩, ?_⟩
    have ed : decide ((c.length : Int) = 2) = decide (c.length = 2) := decide_eq_decide.mpr (by omega)
    rw [ed]
    split
    · rename_i z; exact hy z
    · rename_i z; exact hM (by simpa using z)
  · exact fin_of h
def body_swings (γ_check_net γ_swings_by : OL) : ST := sSeq (sDrop (eCall γ_check_net (aCons (eVar 0) (aNil))))
  (sRet (eCall γ_swings_by (aCons (eVar 0) (aNil))))
theorem law_swings (T : Addr) : Law 1 (γ_swb T) (body_swings γ_check_net (γ_swb T)) := by
  intro ds S R ⟨N, e, ⟨⟨ok, sm⟩, hT⟩, h⟩
  subst e
  unfold body_swings γ_check_net γ_swb
  simp_arith []
  exact ⟨N, rfl, ok, N, rfl, ⟨⟨ok, sm⟩, hT⟩, fin_of h⟩
def body_rings (γ_check_net γ_rings_by : OL) : ST := sSeq (sDrop (eCall γ_check_net (aCons (eVar 0) (aNil))))
  (sRet (eCall γ_rings_by (aCons (eVar 0) (aNil))))
theorem law_rings (T : Addr) : Law 1 (γ_rgs T) (body_rings γ_check_net (γ_rgs T)) := by
  intro ds S R ⟨N, e, ⟨⟨ok, sm⟩, hT⟩, h⟩
  subst e
  unfold body_rings γ_check_net γ_rgs
  simp_arith []
  exact ⟨N, rfl, ok, N, rfl, ⟨⟨ok, sm⟩, hT⟩, fin_of h⟩
/-! ### the law's own -/
def γ_ltail : OL := fun ds S R => ∃ (M : Nat) (f : Nat → Nat) (x : Nat), ds = [.lst (encK ((List.range M).map f)), .int (x : Nat)] ∧ (x < M ∧ M ≤ 300 ∧ ∀ y, y < M → f y < M) ∧ R (.tup [.lst (encK (runOf f M x).1), .lst (encK (runOf f M x).2)]) S
def body_ltail : ST := sSeq (sAsg (eLstM (aCons (eVar 1) (aNil))) (gNm 2))
  (sSeq (sFor (iRange1 (aCons (eBin oAdd (eCall cLen (aCons (eVar 0) (aNil))) (eC (.int 1))) (aNil))) (gNm 3) (sSeq (sAsg (eBin oIx (eVar 0) (eBin oIx (eVar 2) (eUn oNeg (eC (.int 1))))) (gNm 4))
  (sSeq (sIf (tBl (eBin oIn (eVar 4) (eVar 2))) (sSeq (sAsg (eMt mIndex (eVar 2) (aCons (eVar 4) (aNil))) (gNm 5))
  (sRet (eTup (aCons (eSl (eVar 2) (pNone) (pSome (eVar 5))) (aCons (eSl (eVar 2) (pSome (eVar 5)) (pNone)) (aNil)))))) (sNext))
  (sDrop (eMt mAppend (eVar 2) (aCons (eVar 4) (aNil)))))))
  (sRet (eTup (aCons (eVar 2) (aCons (eLst (aNil)) (aNil))))))
theorem atI_lastR {l : List Nat} (h : 0 < l.length) {y : Nat} (e : l[l.length - 1]? = some y) : L2.atI (encK l) (-1) = some (.int (y : Nat)) := by
  have e2 : L2.ixN (encK l).length (-1) = some (l.length - 1) := by
    rw [encK_len]
    unfold L2.ixN
    rw [if_neg (by decide), if_pos (by omega)]
    congr 1
    omega
  unfold L2.atI
  rw [e2]
  show (encK l)[l.length - 1]? = _
  unfold encK
  rw [List.getElem?_map, e]; rfl
theorem stp_at {M x : Nat} {f : Nat → Nat} (h : x < M) : L2.atI (encK ((List.range M).map f)) (x : Int) = some (.int (f x : Nat)) := by
  unfold encK
  rw [List.map_map, atI_map (by simpa using h), List.getElem_range]; rfl
theorem law_ltail : Law 6 γ_ltail body_ltail := by
  intro ds S R ⟨M, f, x, e, ⟨hx, M3, hf⟩, h⟩
  subst e
  obtain ⟨lr, hlr⟩ : ∃ lr, runL f (M + 1) [] x = lr := ⟨_, rfl⟩
  unfold runOf at h
  rw [hlr] at h
  unfold body_ltail
  refine seqK fun k hk => ?_
  simp_arith []
  refine ⟨by decide, fun p hp => ?_⟩
  rw [hk]
  clear hk
  refine seqK fun k hk => ?_
  simp_arith [encK_len, List.length_range, List.length_map]
  refine ⟨⟨by omega, by omega⟩, ?_⟩
  rw [show ((M : Int) + 1) = ((M + 1 : Nat) : Int) by omega, Int.toNat_natCast]
  refine for_rng (fun t τ S' => ∃ x3 x4 x5, ∃ l w, 0 < l.length ∧ Orb f M x l w ∧ runL f (M + 1 - l.length) l w = lr ∧ l.length = t + 1 ∧ S' = up S p (.lst (encK l)) ∧ τ = [some (.lst (encK ((List.range M).map f))), some (.int (x : Nat)), some (.ref p), x3, x4, x5]) ⟨_, _, _, [x], f x, by simp, ?_, hlr, rfl, rfl, rfl⟩ (fun t τ S' K ht ⟨x3, x4, x5, l, w, l0, o, er, lt, hS, hτ⟩ hK => ?_) (fun τ S' ⟨x3, x4, x5, l, w, l0, o, er, lt, hS, hτ⟩ => ?_)
  · exact (Orb.start hx).next hf (by simp)
  · subst hS hτ
    have hl : l[l.length - 1]? = some (itF f x (l.length - 1)) := orb_get o (by omega)
    have hlM : itF f x (l.length - 1) < M := o.lt _ (List.mem_of_getElem? hl)
    have eh : f (itF f x (l.length - 1)) = w := by
      rw [o.hd]
      show itF f x (l.length - 1 + 1) = _
      rw [show l.length - 1 + 1 = l.length by omega]
    have a1 := atI_lastR l0 hl
    have a2 := stp_at (f := f) hlM
    rw [eh] at a2
    refine seqK fun k2 hk2 => ?_
    simp_arith [rs_ref up_same, a1, a2]
    rw [hk2]
    clear hk2
    refine seqK fun k2 hk2 => ?_
    simp_arith [rs_ref up_same, inD_K, pl_K, pl_int]
    have few := o.few
    rw [show M + 1 - l.length = (M - l.length) + 1 by omega] at er
    have er : (if w ∈ l then (l, w) else runL f (M - l.length) (l ++ [w]) (f w)) = lr := er
    by_cases z : w ∈ l
    · rw [if_pos z] at er
      have hj : l.idxOf w < l.length := List.idxOf_lt_length_iff.mpr z
      subst er
      simp_arith [decide_eq_true z]
      refine ⟨l.idxOf w, .int (w : Nat), ?_, by rw [eqD_nat]; exact decide_eq_true rfl, fun m z hm' hz => ?_, by decide, ?_⟩
      · unfold encK
        rw [List.getElem?_map, List.getElem?_eq_getElem hj, List.getElem_idxOf]; rfl
      · unfold encK at hz
        rw [List.getElem?_map] at hz
        obtain ⟨y, hy, rfl⟩ := Option.map_eq_some_iff.mp hz
        show eqD (.int (y : Nat)) (.int (w : Nat)) = false
        rw [eqD_nat]
        refine decide_eq_false fun q => ?_
        subst q
        have g : l[l.idxOf y]? = some y := by rw [List.getElem?_eq_getElem hj, List.getElem_idxOf]
        rw [← g] at hy
        have := (List.getElem?_inj (by omega) o.nd).mp hy
        omega
      · rw [cutD_to (by rw [encK_len]; omega), cutD_from (by rw [encK_len]; omega)]
        unfold encK at h ⊢
        rw [← List.map_take, ← List.map_drop]
        exact fin_new hp h
    · rw [if_neg z] at er
      simp_arith [decide_eq_false z]
      rw [hk2]
      simp_arith [rs_ref up_same, up_same, up_up, encK_len]
      refine ⟨Nat.lt_of_le_of_lt (Nat.le_trans few M3) (by decide), hK _ _ ⟨_, _, _, l ++ [w], f w, by simp, o.next hf z, ?_, ?_, ?_, rfl⟩⟩
      · rw [List.length_append, List.length_singleton, show M + 1 - (l.length + 1) = M - l.length by omega]
        exact er
      · rw [List.length_append, List.length_singleton]; omega
      · unfold encK
        rw [List.map_append]; rfl
  · have := o.few
    omega
end Gx

--W11
--NN
/-! Gx, data side 118: the law's own rings. -/
namespace Gx
open PySem L2
local macro_rules | `(tactic| simp_arith [$xs,*]) => `(tactic| try simp only [eVar, eC, eBin, eUn, tBl, tAnd', tOr', tNot', eAnd, eOr, eNot, eIf, aNil, aCons, eTup, eLst, eLstM, eCall, eCallK, pick, sNext, sSeq, sBreak, sCont, sDrop, sRet, sRetN, sIf, sNever, gNm, gsNil, gsCons, gTupl, gSubs, sAsg, sPar, sPar3, sFor, iSeq, seqG_tup, seqG_lst, seqG_scr, iRange1, iRange2, iEnumG, iZipG, td_tup, td_lst, td_scr, eLc, eLcM, tYes', pNone, pSome, eSl, cu_tup, cu_lst, cu_scr, eMt, eMt0, mAppend, isL, rs_non, rs_bl, rs_int, rs_str, rs_tup, rs_lst', rs_scr, itemsOf_tup, itemsOf_lst, itemsOf_scr, oI, oI0, oSub, oFdiv, oMod, oPow, oShl, oShr, oAnd, oOr, oXor, oLt, oLe, oGt, oGe, oNeg, oIsN, oNotN, oAdd, oAdd', oMul, oMul', oMulM, oEq, oNe, oEqS, oNeS, oIn, oNin, eChain, oIx, oSet, cLen, cList, cListM, cTuple, cSum, cAll, cAny, cInt, cAbs, cMax2, cMin2, cDivmod, cGcd, cIsi, cRepr, lstInts, lstBls, startD, wipeD, List.map_cons, List.map_nil, List.length_cons, List.length_nil, List.cons_append, List.nil_append, List.replicate_succ, List.replicate_zero, List.set_cons_succ, List.set_cons_zero, List.getElem?_cons_succ, List.getElem?_cons_zero, List.filterMap_cons_some, List.filterMap_nil, Nat.reduceAdd, Nat.reduceSub, Nat.sub_self, Nat.reduceLT, Nat.reduceMul, Nat.zero_add, Nat.add_zero, if_true, if_false, and_true, true_and, and_false, false_and, or_true, true_or, or_false, false_or, not_true_eq_false, not_false_eq_true, Bool.not_true, Bool.not_false, Bool.false_eq_true, ite_true, ite_false, reduceIte, reduceCtorEq, eq_self, aStar, eLstRg, eDicT0, eDixT, gSubsT, keysOf, cListT, cSortedP, oSubB, oMulT, iZip2G, eDic0, eDic1, oDix, oDin, oDnin, oDset, iKeysG, cSortedE, cListD, Gx.keyOf, cMaxL, cMinL, cSortedI, mIndex, eSortSet, eLenT, tBi, oIsB, cSumT, eBits, eLenI, eRev, eLZ, eTZ, eZ, iEnZG, mPop, mPopAt, cRng, cLenR, iRngV, eDc, cLenD, sAsg2, eLenIT, eLstRgM, cSortedTI, oNotB, ySeq, yS, yIf, yRaise, yRet, yDrop, yAsg, xE, xCall, xCallN, xCallK, xaNil, xaCons, eCallS, eCallKS, sTry, eLam, getCaps, eAct, xAct, cSortedR, cMinT, $xs,*])
def encKs (L : List (List Nat)) : List D := L.map fun c => .lst (encK c)
def γ_lrings : OL := fun ds S R => ∃ (M : Nat) (f : Nat → Nat), ds = [.lst (encK ((List.range M).map f))] ∧ (M ≤ 300 ∧ ∀ y, y < M → f y < M) ∧ R (.lst (encKs (ringsN f M))) S
def body_lrings (γ__law_tail : OL) : ST := sSeq (sAsg (eLstM (aNil)) (gNm 1))
  (sSeq (sFor (iRange1 (aCons (eCall cLen (aCons (eVar 0) (aNil))) (aNil))) (gNm 2) (sSeq (sAsg (eBin oIx (eCall γ__law_tail (aCons (eVar 0) (aCons (eVar 2) (aNil)))) (eC (.int 1))) (gNm 3))
  (sSeq (sAsg (eMt mIndex (eVar 3) (aCons (eCall cMinL (aCons (eVar 3) (aNil))) (aNil))) (gNm 4))
  (sIf (tBl (eBin oNin (eBin oAdd (eSl (eVar 3) (pSome (eVar 4)) (pNone)) (eSl (eVar 3) (pNone) (pSome (eVar 4)))) (eVar 1))) (sDrop (eMt mAppend (eVar 1) (aCons (eBin oAdd (eSl (eVar 3) (pSome (eVar 4)) (pNone)) (eSl (eVar 3) (pNone) (pSome (eVar 4)))) (aNil)))) (sNext)))))
  (sRet (eCall cSortedR (aCons (eVar 1) (aNil)))))
theorem encKs_rw (L : List (List Nat)) : encKs L = (L.map rowI).map rwD := by
  unfold encKs
  rw [List.map_map]
  apply List.map_congr_left
  intro c _
  show D.lst (encK c) = D.lst ((c.map fun i : Nat => (i : Int)).map .int)
  rw [encK_ints]
theorem inD_LK (a : List Nat) (L : List (List Nat)) : inD (.lst (encK a)) (encKs L) = decide (a ∈ L) := (inD_map (f := fun l : List Nat => D.lst (encK l)) eqD_KK a L).trans (decide_eq_decide.mpr Iff.rfl)
theorem pl_Ks (L : List (List Nat)) : pl 60 (.lst (encKs L)) = true := by
  show (encKs L).all (pl 59) = true
  rw [List.all_eq_true]
  intro x hx
  obtain ⟨y, _, rfl⟩ := List.mem_map.mp hx
  show (encK y).all (pl 58) = true
  rw [List.all_eq_true]
  intro z hz
  obtain ⟨w, _, rfl⟩ := List.mem_map.mp hz
  exact pl_int
theorem ring_pos {f : Nat → Nat} {M x : Nat} (hf : ∀ y, y < M → f y < M) (hx : x < M) : 0 < (runOf f M x).2.length ∧ (runOf f M x).2.length ≤ M ∧ (runOf f M x).2.Nodup := by
  obtain ⟨j, m, e1, e2, p, hs, _, _⟩ := run_spec hf hx
  rw [e2]
  refine ⟨by rw [rngF_len]; exact p.pos, by rw [rngF_len]; omega, p.nodup⟩
theorem law_lrings : Law 5 γ_lrings (body_lrings γ_ltail) := by
  intro ds S R ⟨M, f, e, ⟨M3, hf⟩, h⟩
  subst e
  unfold body_lrings
  refine seqK fun k hk => ?_
  simp_arith []
  refine ⟨by decide, fun p hp => ?_⟩
  rw [hk]
  clear hk
  refine seqK fun k hk => ?_
  simp_arith [encK_len, List.length_range, List.length_map]
  refine ⟨⟨by omega, by omega⟩, ?_⟩
  rw [Int.toNat_natCast]
  refine for_rng (fun i τ S' => ∃ x2 x3 x4, ∃ L : List (List Nat), L.Nodup ∧ L.length ≤ i ∧ (∀ r, r ∈ L ↔ ∃ x, x < i ∧ ∃ c, c ∈ (runOf f M x).2 ∧ (∀ y ∈ (runOf f M x).2, c ≤ y) ∧ r = (runOf f M c).2) ∧ S' = up S p (.lst (encKs L)) ∧ τ = [some (.lst (encK ((List.range M).map f))), some (.ref p), x2, x3, x4]) ⟨_, _, _, [], List.nodup_nil, Nat.le_refl _, ?_, rfl, rfl⟩ (fun i τ S' K hi ⟨x2, x3, x4, L, nd, ll, hL, hS, hτ⟩ hK => ?_) (fun τ S' ⟨x2, x3, x4, L, nd, ll, hL, hS, hτ⟩ => ?_)
  · intro r
    constructor
    · intro z; cases z
    · rintro ⟨x, hx, _⟩; exact absurd hx (Nat.not_lt_zero _)
  · subst hS hτ
    obtain ⟨r0, rM, rnd⟩ := ring_pos hf hi
    refine seqK fun k2 hk2 => ?_
    unfold γ_ltail
    simp_arith []
    refine ⟨M, f, i, rfl, ⟨hi, M3, hf⟩, ?_⟩
    simp_arith [atI_1]
    rw [hk2]
    clear hk2
    refine seqK fun k2 hk2 => ?_
    simp_arith [intsOf_K]
    refine ⟨fun z => ?_, fun m hm hle => ?_⟩
    · have := congrArg List.length z
      rw [List.length_map, List.length_nil] at this
      omega
    obtain ⟨c, hc, rfl⟩ := List.mem_map.mp hm
    have hle : ∀ y ∈ (runOf f M i).2, c ≤ y := fun y hy => by
      have := hle _ (List.mem_map.mpr ⟨y, hy, rfl⟩)
      omega
    have hj : (runOf f M i).2.idxOf c < (runOf f M i).2.length := List.idxOf_lt_length_iff.mpr hc
    obtain ⟨cM, cm, rot⟩ := rot_min hf hi hc hle
    simp_arith [pl_K, pl_int]
    refine ⟨(runOf f M i).2.idxOf c, .int (c : Nat), ?_, by rw [eqD_nat]; exact decide_eq_true rfl, fun m z hm' hz => ?_, ?_⟩
    · unfold encK
      rw [List.getElem?_map, List.getElem?_eq_getElem hj, List.getElem_idxOf]; rfl
    · unfold encK at hz
      rw [List.getElem?_map] at hz
      obtain ⟨y, hy, rfl⟩ := Option.map_eq_some_iff.mp hz
      show eqD (.int (y : Nat)) (.int (c : Nat)) = false
      rw [eqD_nat]
      refine decide_eq_false fun q => ?_
      subst q
      have g : (runOf f M i).2[(runOf f M i).2.idxOf y]? = some y := by rw [List.getElem?_eq_getElem hj, List.getElem_idxOf]
      rw [← g] at hy
      have := (List.getElem?_inj (by omega) rnd).mp hy
      omega
    · have e1 : cutD (encK (runOf f M i).2) (some (((runOf f M i).2.idxOf c : Nat) : Int)) none ++ cutD (encK (runOf f M i).2) none (some (((runOf f M i).2.idxOf c : Nat) : Int)) = encK (runOf f M c).2 := by
        rw [cutD_to (by rw [encK_len]; omega), cutD_from (by rw [encK_len]; omega)]
        unfold encK
        rw [← List.map_take, ← List.map_drop, ← List.map_append, rot]
      rw [hk2]
      clear hk2
      simp_arith [rs_ref up_same, e1, inD_LK, pl_Ks, pl_K]
      have lc : (cutD (encK (runOf f M i).2) (some (((runOf f M i).2.idxOf c : Nat) : Int)) none).length + (cutD (encK (runOf f M i).2) none (some (((runOf f M i).2.idxOf c : Nat) : Int))).length ≤ sizeLine := by
        rw [← List.length_append, e1, encK_len]
        exact Nat.le_trans (ring_pos hf cM).2.1 (Nat.le_trans M3 (by decide))
      have key : ∀ r, (r ∈ L ∨ r = (runOf f M c).2) ↔ ∃ x, x < i + 1 ∧ ∃ c, c ∈ (runOf f M x).2 ∧ (∀ y ∈ (runOf f M x).2, c ≤ y) ∧ r = (runOf f M c).2 := fun r => by
        rw [hL]
        constructor
        · rintro (⟨x, hx, w⟩ | rfl)
          · exact ⟨x, by omega, w⟩
          · exact ⟨i, by omega, c, hc, hle, rfl⟩
        · rintro ⟨x, hx, d, hd, hdl, rfl⟩
          rcases Nat.lt_succ_iff_lt_or_eq.mp hx with hx | rfl
          · exact .inl ⟨x, hx, d, hd, hdl, rfl⟩
          · refine .inr ?_
            have : d = c := Nat.le_antisymm (hdl c hc) (hle d hd)
            rw [this]
      refine ⟨lc, ?_⟩
      by_cases z : (runOf f M c).2 ∈ L
      · simp_arith [decide_eq_true z]
        refine hK _ _ ⟨_, _, _, L, nd, by omega, fun r => ?_, rfl, rfl⟩
        rw [← key]
        exact ⟨.inl, fun w => w.elim (fun w => w) fun w => w ▸ z⟩
      · simp_arith [decide_eq_false z, up_same, up_up]
        refine ⟨lc, by unfold encKs; rw [List.length_map]; exact Nat.lt_of_le_of_lt (m := 300) (by omega) (by decide), ?_⟩
        refine hK _ _ ⟨_, _, _, L ++ [(runOf f M c).2], ?_, by rw [List.length_append, List.length_singleton]; omega, fun r => ?_, by unfold encKs; rw [List.map_append]; rfl, rfl⟩
        · rw [List.nodup_append]
          refine ⟨nd, List.nodup_cons.mpr ⟨List.not_mem_nil, List.nodup_nil⟩, fun a ha b hb e => ?_⟩
          rw [List.mem_singleton] at hb
          subst e hb
          exact z ha
        · rw [← key, List.mem_append, List.mem_singleton]
  · subst hS hτ
    rw [hk]
    simp_arith [rs_ref up_same]
    refine ⟨L.map rowI, by rw [encKs_rw], by rw [List.length_map]; omega, fun mss h1 h2 => ?_⟩
    have := rings_one hf nd hL h1 h2
    rw [this, ← encKs_rw]
    exact fin_new hp h
end Gx

--W11
/-! Gx, data side 119: laps of a law that makes lambdas: its tables are there. -/
namespace Gx
open PySem L2
local macro_rules | `(tactic| simp_arith [$xs,*]) => `(tactic| try simp only [eVar, eC, eBin, eUn, tBl, tAnd', tOr', tNot', eAnd, eOr, eNot, eIf, aNil, aCons, eTup, eLst, eLstM, eCall, eCallK, pick, sNext, sSeq, sBreak, sCont, sDrop, sRet, sRetN, sIf, sNever, gNm, gsNil, gsCons, gTupl, gSubs, sAsg, sPar, sPar3, sFor, iSeq, seqG_tup, seqG_lst, seqG_scr, iRange1, iRange2, iEnumG, iZipG, td_tup, td_lst, td_scr, eLc, eLcM, tYes', pNone, pSome, eSl, cu_tup, cu_lst, cu_scr, eMt, eMt0, mAppend, isL, rs_non, rs_bl, rs_int, rs_str, rs_tup, rs_lst', rs_scr, itemsOf_tup, itemsOf_lst, itemsOf_scr, oI, oI0, oSub, oFdiv, oMod, oPow, oShl, oShr, oAnd, oOr, oXor, oLt, oLe, oGt, oGe, oNeg, oIsN, oNotN, Gx.isNon, oAdd, oAdd', oMul, oMul', oMulM, oEq, oNe, oEqS, oNeS, oIn, oNin, eChain, oIx, oSet, cLen, cList, cListM, cTuple, cSum, cAll, cAny, cInt, cAbs, cMax2, cMin2, cDivmod, cGcd, cIsi, cRepr, lstInts, lstBls, startD, wipeD, List.map_cons, List.map_nil, List.length_cons, List.length_nil, List.cons_append, List.nil_append, List.replicate_succ, List.replicate_zero, List.set_cons_succ, List.set_cons_zero, List.getElem?_cons_succ, List.getElem?_cons_zero, List.filterMap_cons_some, List.filterMap_nil, Nat.reduceAdd, Nat.reduceSub, Nat.sub_self, Nat.reduceLT, Nat.reduceMul, Nat.zero_add, Nat.add_zero, if_true, if_false, and_true, true_and, and_false, false_and, or_true, true_or, or_false, false_or, not_true_eq_false, not_false_eq_true, Bool.not_true, Bool.not_false, Bool.false_eq_true, ite_true, ite_false, reduceIte, reduceCtorEq, eq_self, aStar, eLstRg, eDicT0, eDixT, gSubsT, keysOf, cListT, cSortedP, oSubB, oMulT, iZip2G, eDic0, eDic1, oDix, oDin, oDnin, oDset, iKeysG, cSortedE, cListD, Gx.keyOf, cMaxL, cMinL, cSortedI, mIndex, eSortSet, eLenT, tBi, oIsB, cSumT, eBits, eLenI, eRev, eLZ, eTZ, eZ, iEnZG, mPop, mPopAt, cRng, cLenR, iRngV, eDc, cLenD, sAsg2, eLenIT, eLstRgM, cSortedTI, oNotB, ySeq, yS, yIf, yRaise, yRet, yDrop, yAsg, xE, xCall, xCallN, xCallK, xaNil, xaCons, eCallS, eCallKS, sTry, eLam, getCaps, eAct, xAct, cSortedR, cMinT, $xs,*])
/-- tables of code objects, by the names of what they hold -/
def Tabs (ts : List (Addr × Str)) (S : Sto) : Prop := ∀ p ∈ ts, S p.1 = some (.tab p.2)
theorem Tabs.keep {ts : List (Addr × Str)} {S S' : Sto} (h : Tabs ts S) (k : ∀ a q, S a = some (.tab q) → S' a = some (.tab q)) : Tabs ts S' := fun p hp => k _ _ (h p hp)
theorem Drw.tab {p : Addr} {S S' : Sto} (hw : Well p S) (d : Drw p S S') {a : Addr} {q : Str} (h : S a = some (.tab q)) : S' a = some (.tab q) := by
  rw [d.at fun z => ?_]
  · exact h
  · subst z
    obtain ⟨z, m, c, w⟩ := hw
    rw [h] at w
    cases w
def γ_lapT (ts : List (Addr × Str)) : OL := fun ds S R => ∃ p : Addr, ds = [.ref p] ∧ Well p S ∧ Tabs ts S ∧ ∀ S', Drw p S S' → R (.bl true) S'
def γ_wholeT (ts : List (Addr × Str)) : OL := fun ds S R => ∃ ns : List Int, ds = [.scr (ns.map .int)] ∧ (ns.length ≤ 63 ∧ Tabs ts S) ∧ R (.bl true) S
theorem whole_loopT {ts : List (Addr × Str)} {ns : List Int} {S0 : Sto} {R : QD} (h : R (.bl true) S0) (hT : Tabs ts S0) : ∀ (m i k : Nat) (S : Sto), i + m ≤ 100 → k ≤ i → (∀ a o, S0 a = some o → S a = some o) →
    cmpG (gNm 1) tYes' (eCall (γ_lapT ts) (aCons (eCall γ_well (aCons (eVar 0) (aCons (eVar 1) (aNil)))) (aNil))) (fun _ => True) [1] [some (.scr (ns.map .int)), none] (fun acc S2 => cAll [.lst acc] S2 (Fin R)) (rngD i m) ((List.replicate k true).map .bl) S
  | 0, i, k, S, _, _, hs => by
    refine ⟨trivial, ?_⟩
    have e : (List.replicate k true).all id = true := by
      rw [List.all_eq_true]
      intro x hx
      rw [List.eq_of_mem_replicate hx]; rfl
    simp_arith [blsOf_map, e]
    exact ⟨S0, _, hs, .same _, h⟩
  | m + 1, i, k, S, hi, hk, hs => by
    refine ⟨trivial, ?_⟩
    show gNm 1 (.int i) _ S _
    unfold γ_lapT γ_well
    simp_arith [wipeD]
    refine ⟨ns, i, rfl, by omega, fun p S1 hp bt hw => ⟨p, rfl, hw, hT.keep fun a q e => ?_, fun S2 d => ⟨Nat.lt_of_lt_of_le (m := 1000) (by rw [List.length_map, List.length_replicate]; omega) (by decide), ?_⟩⟩⟩
    · have : a ≠ p := fun z => by
        have := hs a _ e
        rw [z, hp] at this; cases this
      rw [bt a this]
      exact hs a _ e
    have e1 : ((i : Int) + 1) = ((i + 1 : Nat) : Int) := by omega
    have e2 : (List.replicate k true).map D.bl ++ [D.bl true] = (List.replicate (k + 1) true).map D.bl := by rw [List.replicate_succ', List.map_append]; rfl
    rw [e1, e2]
    refine whole_loopT h hT m (i + 1) (k + 1) S2 (by omega) (by omega) fun a o e => ?_
    have : a ≠ p := fun z => by
      have := hs a o e
      rw [z, hp] at this; cases this
    rw [d.but a this, bt a this]
    exact hs a o e
theorem law_wholeT (ts : List (Addr × Str)) (k : Int) (hk : k ≤ 90 := by decide) : Law 2 (γ_wholeT ts) (body_whole k (γ_lapT ts) γ_well) := by
  intro ds S R ⟨ns, e, ⟨hl, hT⟩, h⟩
  subst e
  unfold body_whole
  simp only [sRet, eCall, aCons, aNil, eLc, iRange1, eC, eVar, startD, List.map_cons, List.map_nil, List.length_cons, List.length_nil, Nat.reduceAdd, Nat.reduceSub, List.replicate_succ, List.replicate_zero, List.cons_append, List.nil_append, List.getElem?_cons_zero, cMax2, cMin2, cLen, rs_scr, itemsOf_scr]
  generalize hj : (if (if k < ((ns.map D.int).length : Nat) then k else ((ns.map D.int).length : Nat)) > 2 then (if k < ((ns.map D.int).length : Nat) then k else ((ns.map D.int).length : Nat)) else 2) = j
  have h0 : 0 ≤ j ∧ j ≤ 90 := by
    rw [List.length_map] at hj
    rw [← hj]
    repeat' split
    all_goals omega
  refine ⟨⟨by omega, by omega⟩, ?_⟩
  exact whole_loopT h hT j.toNat 0 0 S (by omega) (by omega) fun _ _ e => e
end Gx

namespace K11
open PySem L2 Gx
/-- _law_draw(well, few): slots 0 well 1 few 2 mixed 3 figure -/
def body__law_draw : ST := sSeq (sIf (tBl (eBin oGt (eBin oIx (eVar 0) (eC (.int 0))) (eC (.int 0)))) (sSeq (sAsg (eCall cDivmod (aCons (eBin oIx (eVar 0) (eC (.int 0))) (aCons (eVar 1) (aNil)))) (gTupl 2 (gsCons (gSubs (eVar 0) (eC (.int 0)) oSet) (gsCons (gNm 3) (gsNil)))))
  (sRet (eVar 3))) (sNext))
  (sSeq (sAsg (eBin oAdd (eBin oIx (eVar 0) (eC (.int 2))) (eC (.int 1))) (gSubs (eVar 0) (eC (.int 2)) oSet))
  (sSeq (sAsg (eBin oMod (eCall cInt (aCons (eBin oAdd (eBin oMul (eBin oIx (eVar 0) (eC (.int 1))) (eC (.int 48271))) (eBin oMul (eC (.int 15017)) (eBin oIx (eVar 0) (eC (.int 2))))) (aNil))) (eC (.int 2147483489))) (gNm 2))
  (sSeq (sAsg (eBin oMod (eCall cInt (aCons (eBin oAdd (eBin oMul (eVar 2) (eBin oAdd (eBin oMod (eCall cInt (aCons (eVar 2) (aNil))) (eC (.int 5003))) (eC (.int 20021)))) (eBin oIx (eVar 0) (eC (.int 2)))) (aNil))) (eC (.int 2147483489))) (gSubs (eVar 0) (eC (.int 1)) oSet))
  (sRet (eBin oMod (eCall cInt (aCons (eBin oFdiv (eBin oIx (eVar 0) (eC (.int 1))) (eC (.int 1009))) (aNil))) (eVar 1))))))
/-- _law_one(well, some): slots 0 well 1 some -/
def body__law_one (γ__law_draw : OL) : ST := sRet (eBin oIx (eVar 1) (eCall γ__law_draw (aCons (eVar 0) (aCons (eCall cLen (aCons (eVar 1) (aNil))) (aNil)))))
/-- _law_wheel(well, few): slots 0 well 1 few 2 at 3 rows 4 marks 5 sign 6 row -/
def body__law_wheel (γ__law_one : OL) : ST := sSeq (sPar 3 4 (aCons (eLcM (iRange1 (aCons (eVar 1) (aNil))) (gNm 2) (tYes') (eBin oMulM (eLst (aCons (eTup (aCons (eC (.int 0)) (aCons (eC (.int 1)) (aNil)))) (aNil))) (eVar 1)) [2]) (aCons (eLstM (aNil)) (aNil))))
  (sSeq (sFor (iRange1 (aCons (eVar 1) (aNil))) (gNm 2) (sSeq (sAsg (eCall γ__law_one (aCons (eVar 0) (aCons (eTup (aCons (eC (.int 1)) (aCons (eC (.int 1)) (aCons (eC (.int 1)) (aCons (eUn oNeg (eC (.int 1))) (aNil)))))) (aNil)))) (gNm 5))
  (sSeq (sAsg (eTup (aCons (eIf (tBl (eBin oGt (eVar 1) (eC (.int 1)))) (eVar 5) (eC (.int 0))) (aCons (eC (.int 1)) (aNil)))) (gSubs (eBin oIx (eVar 3) (eVar 2)) (eBin oMod (eCall cInt (aCons (eBin oAdd (eVar 2) (eC (.int 1))) (aNil))) (eVar 1)) oSet))
  (sDrop (eMt mAppend (eVar 4) (aCons (eTup (aCons (eVar 5) (aCons (eC (.int 2)) (aNil)))) (aNil)))))))
  (sRet (eTup (aCons (eCall cTuple (aCons (eLc (iSeq (eVar 3)) (gNm 6) (tYes') (eCall cTuple (aCons (eVar 6) (aNil))) [6]) (aNil))) (aCons (eCall cTuple (aCons (eVar 4) (aNil))) (aNil))))))
/-- _law_lean(top, base): slots 0 top 1 base 2 far 3 rest -/
def body__law_lean : ST := sSeq (sPar 2 3 (aCons (eCall cAbs (aCons (eVar 0) (aNil))) (aCons (eCall cAbs (aCons (eVar 1) (aNil))) (aNil))))
  (sSeq (sWh (tBl (eBin oGt (eVar 3) (eC (.int 0)))) (sPar 2 3 (aCons (eVar 3) (aCons (eBin oMod (eCall cInt (aCons (eVar 2) (aNil))) (eVar 3)) (aNil)))))
  (sSeq (sAsg (eIf (tBl (eBin oGt (eVar 1) (eC (.int 0)))) (eVar 2) (eBin oSub (eC (.int 0)) (eVar 2))) (gNm 2))
  (sRet (eTup (aCons (eBin oFdiv (eVar 0) (eVar 2)) (aCons (eBin oFdiv (eVar 1) (eVar 2)) (aNil)))))))
/-- _law_weight(well): slots 0 well 1 way -/
def body__law_weight (γ__law_draw γ__law_lean γ__law_one : OL) : ST := sSeq (sAsg (eCall γ__law_draw (aCons (eVar 0) (aCons (eC (.int 9)) (aNil)))) (gNm 1))
  (sSeq (sIf (tBl (eBin oLt (eVar 1) (eC (.int 2)))) (sRet (eTup (aCons (eC (.int 0)) (aCons (eC (.int 1)) (aNil))))) (sNext))
  (sSeq (sIf (tBl (eBin oLt (eVar 1) (eC (.int 8)))) (sRet (eCall γ__law_lean (aCons (eCall γ__law_one (aCons (eVar 0) (aCons (eTup (aCons (eC (.int 1)) (aCons (eC (.int 1)) (aCons (eC (.int 2)) (aCons (eC (.int 3)) (aCons (eUn oNeg (eC (.int 1))) (aCons (eUn oNeg (eC (.int 2))) (aCons (eUn oNeg (eC (.int 1))) (aCons (eC (.int 1)) (aNil)))))))))) (aNil)))) (aCons (eCall γ__law_one (aCons (eVar 0) (aCons (eTup (aCons (eC (.int 1)) (aCons (eC (.int 1)) (aCons (eC (.int 1)) (aCons (eC (.int 2)) (aCons (eC (.int 3)) (aNil))))))) (aNil)))) (aNil))))) (sNext))
  (sRet (eCall γ__law_lean (aCons (eBin oSub (eCall γ__law_draw (aCons (eVar 0) (aCons (eC (.int 2000001)) (aNil)))) (eC (.int 1000000))) (aCons (eBin oAdd (eC (.int 1)) (eCall γ__law_draw (aCons (eVar 0) (aCons (eC (.int 60)) (aNil))))) (aNil)))))))
/-- _law_marks(well, few): slots 0 well 1 few 2 found 3 at 4 small -/
def body__law_marks (γ__law_one γ__law_draw γ__law_weight : OL) : ST := sSeq (sAsg (eLstM (aNil)) (gNm 2))
  (sSeq (sFor (iRange1 (aCons (eVar 1) (aNil))) (gNm 3) (sSeq (sAsg (eCall γ__law_one (aCons (eVar 0) (aCons (eTup (aCons (eTup (aCons (eC (.int 1)) (aCons (eC (.int 2)) (aNil)))) (aCons (eTup (aCons (eC (.int 1)) (aCons (eC (.int 2)) (aNil)))) (aCons (eTup (aCons (eC (.int 0)) (aCons (eC (.int 1)) (aNil)))) (aCons (eTup (aCons (eC (.int 1)) (aCons (eC (.int 1)) (aNil)))) (aCons (eTup (aCons (eUn oNeg (eC (.int 1))) (aCons (eC (.int 2)) (aNil)))) (aCons (eTup (aCons (eC (.int 3)) (aCons (eC (.int 2)) (aNil)))) (aCons (eTup (aCons (eUn oNeg (eC (.int 1))) (aCons (eC (.int 1)) (aNil)))) (aCons (eTup (aCons (eC (.int 1)) (aCons (eC (.int 3)) (aNil)))) (aNil)))))))))) (aNil)))) (gNm 4))
  (sDrop (eMt mAppend (eVar 2) (aCons (eIf (tBl (eBin oEq (eCall γ__law_draw (aCons (eVar 0) (aCons (eC (.int 6)) (aNil)))) (eC (.int 0)))) (eCall γ__law_weight (aCons (eVar 0) (aNil))) (eVar 4)) (aNil))))))
  (sRet (eCall cTuple (aCons (eVar 2) (aNil)))))
/-- _law_any_net(well, few): slots 0 well 1 few 2 rows 3 at 4 row 5 to -/
def body__law_any_net (γ__law_weight γ__law_marks : OL) : ST := sSeq (sAsg (eLstM (aNil)) (gNm 2))
  (sSeq (sFor (iRange1 (aCons (eVar 1) (aNil))) (gNm 3) (sSeq (sAsg (eLstM (aNil)) (gNm 4))
  (sSeq (sFor (iRange1 (aCons (eVar 1) (aNil))) (gNm 5) (sDrop (eMt mAppend (eVar 4) (aCons (eIf (tBl (eBin oNe (eVar 3) (eVar 5))) (eCall γ__law_weight (aCons (eVar 0) (aNil))) (eTup (aCons (eC (.int 0)) (aCons (eC (.int 1)) (aNil))))) (aNil)))))
  (sDrop (eMt mAppend (eVar 2) (aCons (eCall cTuple (aCons (eVar 4) (aNil))) (aNil)))))))
  (sRet (eTup (aCons (eCall cTuple (aCons (eVar 2) (aNil))) (aCons (eCall γ__law_marks (aCons (eVar 0) (aCons (eVar 1) (aNil)))) (aNil))))))
/-- _law_over(x, y): slots 0 x 1 y -/
def body__law_over (γ__law_lean : OL) : ST := sRet (eCall γ__law_lean (aCons (eBin oMul (eBin oIx (eVar 0) (eC (.int 0))) (eBin oIx (eVar 1) (eC (.int 1)))) (aCons (eBin oMul (eBin oIx (eVar 0) (eC (.int 1))) (eBin oIx (eVar 1) (eC (.int 0)))) (aNil))))
/-- _law_scaled_net(well, few): slots 0 well 1 few 2 is_even 3 at 4 scales 5 rows 6 to 7 tie 8 row -/
def body__law_scaled_net (γ__law_draw γ__law_one γ__law_weight γ__law_over γ__law_marks : OL) : ST := sSeq (sPar 4 5 (aCons (eLstM (aNil)) (aCons (eLcM (iRange1 (aCons (eVar 1) (aNil))) (gNm 3) (tYes') (eBin oMulM (eLst (aCons (eTup (aCons (eC (.int 0)) (aCons (eC (.int 1)) (aNil)))) (aNil))) (eVar 1)) [3]) (aNil))))
  (sSeq (sAsg (eBin oEq (eCall γ__law_draw (aCons (eVar 0) (aCons (eC (.int 2)) (aNil)))) (eC (.int 0))) (gNm 2))
  (sSeq (sFor (iRange1 (aCons (eVar 1) (aNil))) (gNm 3) (sDrop (eMt mAppend (eVar 4) (aCons (eIf (tBl (eVar 2)) (eTup (aCons (eC (.int 1)) (aCons (eC (.int 1)) (aNil)))) (eCall γ__law_one (aCons (eVar 0) (aCons (eTup (aCons (eTup (aCons (eC (.int 1)) (aCons (eC (.int 1)) (aNil)))) (aCons (eTup (aCons (eC (.int 2)) (aCons (eC (.int 1)) (aNil)))) (aCons (eTup (aCons (eC (.int 1)) (aCons (eC (.int 2)) (aNil)))) (aCons (eTup (aCons (eC (.int 3)) (aCons (eC (.int 1)) (aNil)))) (aCons (eTup (aCons (eC (.int 2)) (aCons (eC (.int 3)) (aNil)))) (aNil))))))) (aNil))))) (aNil)))))
  (sSeq (sFor (iRange1 (aCons (eVar 1) (aNil))) (gNm 3) (sFor (iRange1 (aCons (eVar 3) (aNil))) (gNm 6) (sSeq (sAsg (eCall γ__law_weight (aCons (eVar 0) (aNil))) (gNm 7))
  (sSeq (sAsg (eCall γ__law_over (aCons (eVar 7) (aCons (eBin oIx (eVar 4) (eVar 3)) (aNil)))) (gSubs (eBin oIx (eVar 5) (eVar 3)) (eVar 6) oSet))
  (sAsg (eCall γ__law_over (aCons (eVar 7) (aCons (eBin oIx (eVar 4) (eVar 6)) (aNil)))) (gSubs (eBin oIx (eVar 5) (eVar 6)) (eVar 3) oSet))))))
  (sRet (eTup (aCons (eTup (aCons (eCall cTuple (aCons (eLc (iSeq (eVar 5)) (gNm 8) (tYes') (eCall cTuple (aCons (eVar 8) (aNil))) [8]) (aNil))) (aCons (eCall γ__law_marks (aCons (eVar 0) (aCons (eVar 1) (aNil)))) (aNil)))) (aCons (eCall cTuple (aCons (eVar 4) (aNil))) (aNil))))))))
/-- _law_net(well, few): slots 0 well 1 few 2 way -/
def body__law_net (γ__law_draw γ__law_wheel γ__law_any_net γ__law_scaled_net : OL) : ST := sSeq (sAsg (eCall γ__law_draw (aCons (eVar 0) (aCons (eC (.int 5)) (aNil)))) (gNm 2))
  (sSeq (sIf (tBl (eBin oEq (eVar 2) (eC (.int 0)))) (sRet (eCall γ__law_wheel (aCons (eVar 0) (aCons (eVar 1) (aNil))))) (sNext))
  (sRet (eIf (tBl (eBin oLt (eVar 2) (eC (.int 3)))) (eCall γ__law_any_net (aCons (eVar 0) (aCons (eVar 1) (aNil)))) (eBin oIx (eCall γ__law_scaled_net (aCons (eVar 0) (aCons (eVar 1) (aNil)))) (eC (.int 0))))))
/-- _law_below(x, y): slots 0 x 1 y -/
def body__law_below : ST := sRet (eBin oLt (eBin oMul (eBin oIx (eVar 0) (eC (.int 0))) (eBin oIx (eVar 1) (eC (.int 1)))) (eBin oMul (eBin oIx (eVar 1) (eC (.int 0))) (eBin oIx (eVar 0) (eC (.int 1)))))
/-- _law_plus(x, y): slots 0 x 1 y -/
def body__law_plus (γ__law_lean : OL) : ST := sRet (eCall γ__law_lean (aCons (eBin oAdd (eBin oMul (eBin oIx (eVar 0) (eC (.int 0))) (eBin oIx (eVar 1) (eC (.int 1)))) (eBin oMul (eBin oIx (eVar 1) (eC (.int 0))) (eBin oIx (eVar 0) (eC (.int 1))))) (aCons (eBin oMul (eBin oIx (eVar 0) (eC (.int 1))) (eBin oIx (eVar 1) (eC (.int 1)))) (aNil))))
/-- _law_heard(net, cell, number): slots 0 net 1 cell 2 number 3 found 4 at 5 weight -/
def body__law_heard (γ__law_plus : OL) : ST := sSeq (sAsg (eTup (aCons (eC (.int 0)) (aCons (eC (.int 1)) (aNil)))) (gNm 3))
  (sSeq (sFor (iEnumG (aCons (eBin oIx (eBin oIx (eVar 0) (eC (.int 0))) (eVar 1)) (aNil))) (gTupl 2 (gsCons (gNm 4) (gsCons (gNm 5) (gsNil)))) (sIf (tBl (eBin oEq (eBin oMod (eCall cInt (aCons (eBin oShr (eVar 2) (eVar 4)) (aNil))) (eC (.int 2))) (eC (.int 1)))) (sAsg (eCall γ__law_plus (aCons (eVar 3) (aCons (eVar 5) (aNil)))) (gNm 3)) (sNext)))
  (sRet (eVar 3)))
/-- _law_wishes(net): slots 0 net 1 number 2 few 3 found 4 ons 5 at -/
def body__law_wishes (γ__law_below γ__law_heard : OL) : ST := sSeq (sPar 2 3 (aCons (eCall cLen (aCons (eBin oIx (eVar 0) (eC (.int 1))) (aNil))) (aCons (eLstM (aNil)) (aNil))))
  (sSeq (sFor (iRange1 (aCons (eBin oShl (eC (.int 1)) (eVar 2)) (aNil))) (gNm 1) (sSeq (sAsg (eLc (iRange1 (aCons (eVar 2) (aNil))) (gNm 5) (tBl (eCall γ__law_below (aCons (eBin oIx (eBin oIx (eVar 0) (eC (.int 1))) (eVar 5)) (aCons (eCall γ__law_heard (aCons (eVar 0) (aCons (eVar 5) (aCons (eVar 1) (aNil))))) (aNil))))) (eBin oShl (eC (.int 1)) (eVar 5)) [5]) (gNm 4))
  (sDrop (eMt mAppend (eVar 3) (aCons (eCall cSum (aCons (eVar 4) (aNil))) (aNil))))))
  (sRet (eVar 3)))
/-- _law_tail(steps, number): slots 0 steps 1 number 2 row 3 turn 4 then 5 spot -/
def body__law_tail : ST := sSeq (sAsg (eLstM (aCons (eVar 1) (aNil))) (gNm 2))
  (sSeq (sFor (iRange1 (aCons (eBin oAdd (eCall cLen (aCons (eVar 0) (aNil))) (eC (.int 1))) (aNil))) (gNm 3) (sSeq (sAsg (eBin oIx (eVar 0) (eBin oIx (eVar 2) (eUn oNeg (eC (.int 1))))) (gNm 4))
  (sSeq (sIf (tBl (eBin oIn (eVar 4) (eVar 2))) (sSeq (sAsg (eMt mIndex (eVar 2) (aCons (eVar 4) (aNil))) (gNm 5))
  (sRet (eTup (aCons (eSl (eVar 2) (pNone) (pSome (eVar 5))) (aCons (eSl (eVar 2) (pSome (eVar 5)) (pNone)) (aNil)))))) (sNext))
  (sDrop (eMt mAppend (eVar 2) (aCons (eVar 4) (aNil)))))))
  (sRet (eTup (aCons (eVar 2) (aCons (eLst (aNil)) (aNil))))))
/-- _law_all_rings(steps): slots 0 steps 1 found 2 number 3 ring 4 spot -/
def body__law_all_rings (γ__law_tail : OL) : ST := sSeq (sAsg (eLstM (aNil)) (gNm 1))
  (sSeq (sFor (iRange1 (aCons (eCall cLen (aCons (eVar 0) (aNil))) (aNil))) (gNm 2) (sSeq (sAsg (eBin oIx (eCall γ__law_tail (aCons (eVar 0) (aCons (eVar 2) (aNil)))) (eC (.int 1))) (gNm 3))
  (sSeq (sAsg (eMt mIndex (eVar 3) (aCons (eCall cMinL (aCons (eVar 3) (aNil))) (aNil))) (gNm 4))
  (sIf (tBl (eBin oNin (eBin oAdd (eSl (eVar 3) (pSome (eVar 4)) (pNone)) (eSl (eVar 3) (pNone) (pSome (eVar 4)))) (eVar 1))) (sDrop (eMt mAppend (eVar 1) (aCons (eBin oAdd (eSl (eVar 3) (pSome (eVar 4)) (pNone)) (eSl (eVar 3) (pNone) (pSome (eVar 4)))) (aNil)))) (sNext)))))
  (sRet (eCall cSortedR (aCons (eVar 1) (aNil)))))
/-- _law_as_state(number, few): slots 0 number 1 few 2 at -/
def body__law_as_state : ST := sRet (eCall cTuple (aCons (eLc (iRange1 (aCons (eVar 1) (aNil))) (gNm 2) (tYes') (eBin oMod (eCall cInt (aCons (eBin oShr (eVar 0) (eVar 2)) (aNil))) (eC (.int 2))) [2]) (aNil)))
/-- _law_as_states(numbers, few): slots 0 numbers 1 few 2 number -/
def body__law_as_states (γ__law_as_state : OL) : ST := sRet (eCall cTuple (aCons (eLc (iSeq (eVar 0)) (gNm 2) (tYes') (eCall γ__law_as_state (aCons (eVar 2) (aCons (eVar 1) (aNil)))) [2]) (aNil)))
/-- is_tuple_of(value, many): slots 0 value 1 many -/
def body_is_tuple_of : ST := sRet (eAnd (eCall cIsi (aCons (eVar 0) (aCons (eC (.ty "tuple")) (aNil)))) (eBin oEq (eCall cLen (aCons (eVar 0) (aNil))) (eVar 1)))
/-- is_whole(value): slots 0 value -/
def body_is_whole : ST := sRet (eAnd (eCall cIsi (aCons (eVar 0) (aCons (eC (.ty "int")) (aNil)))) (eNot (eCall cIsi (aCons (eVar 0) (aCons (eC (.ty "bool")) (aNil))))))
/-- is_ratio(value): slots 0 value -/
def body_is_ratio (γ_is_tuple_of γ_is_whole : OL) : ST := sSeq (sIf (tOr' (tNot' (tBl (eCall γ_is_tuple_of (aCons (eVar 0) (aCons (eC (.int 2)) (aNil)))))) (tOr' (tNot' (tBl (eCall γ_is_whole (aCons (eBin oIx (eVar 0) (eC (.int 0))) (aNil))))) (tNot' (tBl (eCall γ_is_whole (aCons (eBin oIx (eVar 0) (eC (.int 1))) (aNil))))))) (sRet (eC (.bl false))) (sNext))
  (sRet (eAnd (eBin oGt (eBin oIx (eVar 0) (eC (.int 1))) (eC (.int 0))) (eBin oEq (eCall cGcd (aCons (eBin oIx (eVar 0) (eC (.int 0))) (aCons (eBin oIx (eVar 0) (eC (.int 1))) (aNil)))) (eC (.int 1)))))
/-- is_row(value, many): slots 0 value 1 many 2 each -/
def body_is_row (γ_is_tuple_of γ_is_ratio : OL) : ST := sRet (eAnd (eCall γ_is_tuple_of (aCons (eVar 0) (aCons (eVar 1) (aNil)))) (eCall cAll (aCons (eLc (iSeq (eVar 0)) (gNm 2) (tYes') (eCall γ_is_ratio (aCons (eVar 2) (aNil))) [2]) (aNil))))
/-- is_net_by(value): slots 0 value 1 many 2 cell 3 row -/
def body_is_net_by (γ_is_tuple_of γ_is_row : OL) (d_MOST_CELLS d_ZERO : D) : ST := sSeq (sIf (tOr' (tNot' (tBl (eCall γ_is_tuple_of (aCons (eVar 0) (aCons (eC (.int 2)) (aNil)))))) (tOr' (tNot' (tBl (eCall cIsi (aCons (eBin oIx (eVar 0) (eC (.int 0))) (aCons (eC (.ty "tuple")) (aNil)))))) (tNot' (tBl (eChain oLe oLe (eC (.int 1)) (eCall cLen (aCons (eBin oIx (eVar 0) (eC (.int 0))) (aNil))) (eC d_MOST_CELLS)))))) (sRet (eC (.bl false))) (sNext))
  (sSeq (sAsg (eCall cLen (aCons (eBin oIx (eVar 0) (eC (.int 0))) (aNil))) (gNm 1))
  (sSeq (sIf (tOr' (tNot' (tBl (eCall cAll (aCons (eLc (iSeq (eBin oIx (eVar 0) (eC (.int 0)))) (gNm 3) (tYes') (eCall γ_is_row (aCons (eVar 3) (aCons (eVar 1) (aNil)))) [3]) (aNil))))) (tNot' (tBl (eCall γ_is_row (aCons (eBin oIx (eVar 0) (eC (.int 1))) (aCons (eVar 1) (aNil))))))) (sRet (eC (.bl false))) (sNext))
  (sRet (eCall cAll (aCons (eLc (iRange1 (aCons (eVar 1) (aNil))) (gNm 2) (tYes') (eBin oEq (eBin oIx (eBin oIx (eBin oIx (eVar 0) (eC (.int 0))) (eVar 2)) (eVar 2)) (eC d_ZERO)) [2]) (aNil))))))
/-- check_net(value): slots 0 value -/
def body_check_net (γ_is_net_by : OL) : ST := sIf (tNot' (tBl (eCall γ_is_net_by (aCons (eVar 0) (aNil))))) (sNever) (sNext)
/-- many_cells(net): slots 0 net -/
def body_many_cells : ST := sRet (eCall cLen (aCons (eBin oIx (eVar 0) (eC (.int 1))) (aNil)))
/-- state_by(many, number): slots 0 many 1 number 2 cell -/
def body_state_by : ST := sRet (eCall cTuple (aCons (eLc (iRange1 (aCons (eVar 0) (aNil))) (gNm 2) (tYes') (eBin oAnd (eBin oShr (eVar 1) (eVar 2)) (eC (.int 1))) [2]) (aNil)))
/-- all_states(net): slots 0 net 1 number -/
def body_all_states (γ_many_cells γ_state_by : OL) : ST := sRet (eLc (iRange1 (aCons (eBin oShl (eC (.int 1)) (eCall γ_many_cells (aCons (eVar 0) (aNil)))) (aNil))) (gNm 1) (tYes') (eCall γ_state_by (aCons (eCall γ_many_cells (aCons (eVar 0) (aNil))) (aCons (eVar 1) (aNil)))) [1])
/-- number_by(state): slots 0 state 1 cell 2 each -/
def body_number_by : ST := sRet (eCall cSum (aCons (eLc (iEnumG (aCons (eVar 0) (aNil))) (gTupl 2 (gsCons (gNm 1) (gsCons (gNm 2) (gsNil)))) (tYes') (eBin oShl (eVar 2) (eVar 1)) [1, 2]) (aNil)))
/-- is_less(one, two): slots 0 one 1 two -/
def body_is_less : ST := sRet (eBin oLt (eBin oMul (eBin oIx (eVar 0) (eC (.int 0))) (eBin oIx (eVar 1) (eC (.int 1)))) (eBin oMul (eBin oIx (eVar 1) (eC (.int 0))) (eBin oIx (eVar 0) (eC (.int 1)))))
/-- ratio(top, low): slots 0 top 1 low 2 part -/
def body_ratio : ST := sSeq (sAsg (eIf (tBl (eBin oGt (eVar 1) (eC (.int 0)))) (eCall cGcd (aCons (eVar 0) (aCons (eVar 1) (aNil)))) (eUn oNeg (eCall cGcd (aCons (eVar 0) (aCons (eVar 1) (aNil)))))) (gNm 2))
  (sRet (eTup (aCons (eBin oFdiv (eVar 0) (eVar 2)) (aCons (eBin oFdiv (eVar 1) (eVar 2)) (aNil)))))
/-- plus(one, two): slots 0 one 1 two -/
def body_plus (γ_ratio : OL) : ST := sRet (eCall γ_ratio (aCons (eBin oAdd (eBin oMul (eBin oIx (eVar 0) (eC (.int 0))) (eBin oIx (eVar 1) (eC (.int 1)))) (eBin oMul (eBin oIx (eVar 1) (eC (.int 0))) (eBin oIx (eVar 0) (eC (.int 1))))) (aCons (eBin oMul (eBin oIx (eVar 0) (eC (.int 1))) (eBin oIx (eVar 1) (eC (.int 1)))) (aNil))))
/-- total(fractions): slots 0 fractions 1 found 2 each -/
def body_total (γ_plus : OL) (d_ZERO : D) : ST := sSeq (sAsg (eC d_ZERO) (gNm 1))
  (sSeq (sFor (iSeq (eVar 0)) (gNm 2) (sAsg (eCall γ_plus (aCons (eVar 1) (aCons (eVar 2) (aNil)))) (gNm 1)))
  (sRet (eVar 1)))
/-- heard_by(net, cell, state): slots 0 net 1 cell 2 state 3 weight 4 each -/
def body_heard_by (γ_total : OL) : ST := sRet (eCall γ_total (aCons (eLc (iZipG (aCons (eBin oIx (eBin oIx (eVar 0) (eC (.int 0))) (eVar 1)) (aCons (eVar 2) (aNil)))) (gTupl 2 (gsCons (gNm 3) (gsCons (gNm 4) (gsNil)))) (tBl (eBin oEq (eVar 4) (eC (.int 1)))) (eVar 3) [3, 4]) (aNil)))
/-- wanted_by(net, state): slots 0 net 1 state 2 cell -/
def body_wanted_by (γ_many_cells γ_is_less γ_heard_by : OL) : ST := sRet (eCall cTuple (aCons (eLc (iRange1 (aCons (eCall γ_many_cells (aCons (eVar 0) (aNil))) (aNil))) (gNm 2) (tYes') (eIf (tBl (eCall γ_is_less (aCons (eBin oIx (eBin oIx (eVar 0) (eC (.int 1))) (eVar 2)) (aCons (eCall γ_heard_by (aCons (eVar 0) (aCons (eVar 2) (aCons (eVar 1) (aNil))))) (aNil))))) (eC (.int 1)) (eC (.int 0))) [2]) (aNil)))
/-- run_by(first, step): slots 0 first 1 step 2 at 3 found 4 here -/
def body_run_by (d_fn : D) (φ_fn : OLX) : ST := sSeq (sPar 3 4 (aCons (eLstM (aNil)) (aCons (eVar 0) (aNil))))
  (sSeq (sWh (tBl (eBin oNin (eVar 4) (eVar 3))) (sSeq (sDrop (eMt mAppend (eVar 3) (aCons (eVar 4) (aNil))))
  (sAsg (eAct 1 d_fn 1 φ_fn (aCons (eVar 4) (aNil))) (gNm 4))))
  (sSeq (sAsg (eMt mIndex (eVar 3) (aCons (eVar 4) (aNil))) (gNm 2))
  (sRet (eTup (aCons (eCall cTuple (aCons (eSl (eVar 3) (pNone) (pSome (eVar 2))) (aNil))) (aCons (eCall cTuple (aCons (eSl (eVar 3) (pSome (eVar 2)) (pNone)) (aNil))) (aNil)))))))
/-- rings_by(net): slots 0 net 1 nexts 2 found 3 number 4 tail 5 ring 6 state 7 each -/
def body_rings_by (γ_all_states : OL) (γ_number_by : OL) (γ_wanted_by : OL) (γ_run_by : D → OLX → OL) (γ_state_by : OL) (γ_many_cells : OL) (T : Addr) : ST := sSeq (sAsg (eLc (iSeq (eCall γ_all_states (aCons (eVar 0) (aNil)))) (gNm 6) (tYes') (eCall γ_number_by (aCons (eCall γ_wanted_by (aCons (eVar 0) (aCons (eVar 6) (aNil)))) (aNil))) [6]) (gNm 1))
  (sSeq (sAsg (eLstM (aNil)) (gNm 2))
  (sSeq (sFor (iRange1 (aCons (eCall cLen (aCons (eVar 1) (aNil))) (aNil))) (gNm 3) (sSeq (sAsg (eLam T (lamQ "rings_by") [1] (xE (eBin oIx (eVar 1) (eVar 0))) γ_run_by (aCons (eVar 3) aNil)) (gTupl 2 (gsCons (gNm 4) (gsCons (gNm 5) (gsNil)))))
  (sIf (tAnd' (tBl (eBin oEq (eVar 4) (eTup (aNil)))) (tBl (eBin oEq (eVar 3) (eCall cMinT (aCons (eVar 5) (aNil)))))) (sDrop (eMt mAppend (eVar 2) (aCons (eCall cTuple (aCons (eLc (iSeq (eVar 5)) (gNm 7) (tYes') (eCall γ_state_by (aCons (eCall γ_many_cells (aCons (eVar 0) (aNil))) (aCons (eVar 7) (aNil)))) [7]) (aNil))) (aNil)))) (sNext))))
  (sRet (eCall cTuple (aCons (eVar 2) (aNil))))))
/-- rings(net): slots 0 net -/
def body_rings (γ_check_net γ_rings_by : OL) : ST := sSeq (sDrop (eCall γ_check_net (aCons (eVar 0) (aNil))))
  (sRet (eCall γ_rings_by (aCons (eVar 0) (aNil))))
/-- is_between(value, low, high): slots 0 value 1 low 2 high -/
def body_is_between (γ_is_whole : OL) : ST := sRet (eAnd (eCall γ_is_whole (aCons (eVar 0) (aNil))) (eChain oLe oLe (eVar 1) (eVar 0) (eVar 2)))
/-- is_state_by(net, value): slots 0 net 1 value 2 each -/
def body_is_state_by (γ_is_tuple_of γ_many_cells γ_is_between : OL) : ST := sRet (eAnd (eCall γ_is_tuple_of (aCons (eVar 1) (aCons (eCall γ_many_cells (aCons (eVar 0) (aNil))) (aNil)))) (eCall cAll (aCons (eLc (iSeq (eVar 1)) (gNm 2) (tYes') (eCall γ_is_between (aCons (eVar 2) (aCons (eC (.int 0)) (aCons (eC (.int 1)) (aNil))))) [2]) (aNil))))
/-- check_state(net, value): slots 0 net 1 value -/
def body_check_state (γ_is_state_by : OL) : ST := sIf (tNot' (tBl (eCall γ_is_state_by (aCons (eVar 0) (aCons (eVar 1) (aNil)))))) (sNever) (sNext)
/-- check_both(net, state): slots 0 net 1 state -/
def body_check_both (γ_check_net γ_check_state : OL) : ST := sSeq (sDrop (eCall γ_check_net (aCons (eVar 0) (aNil))))
  (sDrop (eCall γ_check_state (aCons (eVar 0) (aCons (eVar 1) (aNil)))))
/-- wanted(net, state): slots 0 net 1 state -/
def body_wanted (γ_check_both γ_wanted_by : OL) : ST := sSeq (sDrop (eCall γ_check_both (aCons (eVar 0) (aCons (eVar 1) (aNil)))))
  (sRet (eCall γ_wanted_by (aCons (eVar 0) (aCons (eVar 1) (aNil)))))
/-- at_once_by(net, state): slots 0 net 1 state -/
def body_at_once_by (γ_run_by : D → OLX → OL) (γ_wanted_by : OL) (T : Addr) : ST := sRet (eLam T (lamQ "at_once_by") [0] (xE (eCall γ_wanted_by (aCons (eVar 1) (aCons (eVar 0) (aNil))))) γ_run_by (aCons (eVar 1) aNil))
/-- run(net, state): slots 0 net 1 state -/
def body_run (γ_check_both γ_at_once_by : OL) : ST := sSeq (sDrop (eCall γ_check_both (aCons (eVar 0) (aCons (eVar 1) (aNil)))))
  (sRet (eCall γ_at_once_by (aCons (eVar 0) (aCons (eVar 1) (aNil)))))
/-- _law_are_states_right(well, net, steps): slots 0 well 1 net 2 steps 3 few 4 turn 5 number 6 due 7 state 8 then 9 tail 10 ring -/
def body__law_are_states_right (γ__law_draw γ__law_as_state γ__law_tail γ__law_as_states γ_wanted γ_run : OL) : ST := sSeq (sAsg (eCall cLen (aCons (eBin oIx (eVar 1) (eC (.int 1))) (aNil))) (gNm 3))
  (sSeq (sFor (iRange1 (aCons (eC (.int 3)) (aNil))) (gNm 4) (sSeq (sAsg (eCall γ__law_draw (aCons (eVar 0) (aCons (eBin oShl (eC (.int 1)) (eVar 3)) (aNil)))) (gNm 5))
  (sSeq (sPar 7 8 (aCons (eCall γ__law_as_state (aCons (eVar 5) (aCons (eVar 3) (aNil)))) (aCons (eCall γ__law_as_state (aCons (eBin oIx (eVar 2) (eVar 5)) (aCons (eVar 3) (aNil)))) (aNil))))
  (sSeq (sAsg (eCall γ__law_tail (aCons (eVar 2) (aCons (eVar 5) (aNil)))) (gTupl 2 (gsCons (gNm 9) (gsCons (gNm 10) (gsNil)))))
  (sSeq (sAsg (eTup (aCons (eCall γ__law_as_states (aCons (eVar 9) (aCons (eVar 3) (aNil)))) (aCons (eCall γ__law_as_states (aCons (eVar 10) (aCons (eVar 3) (aNil)))) (aNil)))) (gNm 6))
  (sSeq (sIf (tBl (eBin oNeS (eCall cRepr (aCons (eLst (aCons (eCall γ_wanted (aCons (eVar 1) (aCons (eVar 7) (aNil)))) (aCons (eCallK γ_wanted 0 2 [1, 0] aNil (aCons (eVar 7) (aCons (eVar 1) (aNil)))) (aNil)))) (aNil))) (eCall cRepr (aCons (eLst (aCons (eVar 8) (aCons (eVar 8) (aNil)))) (aNil))))) (sRet (eC (.bl false))) (sNext))
  (sIf (tBl (eBin oNeS (eCall cRepr (aCons (eLst (aCons (eCall γ_run (aCons (eVar 1) (aCons (eVar 7) (aNil)))) (aCons (eCallK γ_run 0 2 [1, 0] aNil (aCons (eVar 7) (aCons (eVar 1) (aNil)))) (aNil)))) (aNil))) (eCall cRepr (aCons (eLst (aCons (eVar 6) (aCons (eVar 6) (aNil)))) (aNil))))) (sRet (eC (.bl false))) (sNext))))))))
  (sRet (eC (.bl true))))
/-- swings_by(net): slots 0 net 1 ring -/
def body_swings_by (γ_rings_by : OL) : ST := sRet (eCall cTuple (aCons (eLc (iSeq (eCall γ_rings_by (aCons (eVar 0) (aNil)))) (gNm 1) (tBl (eBin oEq (eCall cLen (aCons (eVar 1) (aNil))) (eC (.int 2)))) (eVar 1) [1]) (aNil)))
/-- swings(net): slots 0 net -/
def body_swings (γ_check_net γ_swings_by : OL) : ST := sSeq (sDrop (eCall γ_check_net (aCons (eVar 0) (aNil))))
  (sRet (eCall γ_swings_by (aCons (eVar 0) (aNil))))
/-- _law_right(well): slots 0 well 1 net 2 every 3 due 4 pairs 5 few 6 steps 7 ring 8 at -/
def body__law_right (γ__law_net γ__law_one γ__law_wishes γ__law_all_rings γ__law_as_states γ_rings γ__law_are_states_right γ_swings : OL) : ST := sSeq (sAsg (eCall γ__law_net (aCons (eVar 0) (aCons (eCall γ__law_one (aCons (eVar 0) (aCons (eTup (aCons (eC (.int 2)) (aCons (eC (.int 3)) (aCons (eC (.int 4)) (aCons (eC (.int 1)) (aCons (eC (.int 3)) (aCons (eC (.int 5)) (aNil)))))))) (aNil)))) (aNil)))) (gNm 1))
  (sSeq (sAsg (eTup (aCons (eCall cLen (aCons (eBin oIx (eVar 1) (eC (.int 1))) (aNil))) (aCons (eCall γ__law_wishes (aCons (eVar 1) (aNil))) (aNil)))) (gTupl 2 (gsCons (gNm 5) (gsCons (gNm 6) (gsNil)))))
  (sSeq (sAsg (eCall γ__law_all_rings (aCons (eVar 6) (aNil))) (gNm 2))
  (sSeq (sAsg (eCall cTuple (aCons (eLc (iSeq (eVar 2)) (gNm 7) (tYes') (eCall γ__law_as_states (aCons (eVar 7) (aCons (eVar 5) (aNil)))) [7]) (aNil))) (gNm 3))
  (sSeq (sIf (tOr' (tBl (eBin oNeS (eCall cRepr (aCons (eLst (aCons (eCall γ_rings (aCons (eVar 1) (aNil))) (aCons (eCallK γ_rings 0 1 [0] aNil (aCons (eVar 1) (aNil))) (aNil)))) (aNil))) (eCall cRepr (aCons (eLst (aCons (eVar 3) (aCons (eVar 3) (aNil)))) (aNil))))) (tNot' (tBl (eCall γ__law_are_states_right (aCons (eVar 0) (aCons (eVar 1) (aCons (eVar 6) (aNil)))))))) (sRet (eC (.bl false))) (sNext))
  (sSeq (sIf (tBl (eBin oNe (eLc (iSeq (eVar 2)) (gNm 7) (tBl (eBin oEq (eCall cLen (aCons (eVar 7) (aNil))) (eC (.int 1)))) (eBin oIx (eVar 7) (eC (.int 0))) [7]) (eLc (iRange1 (aCons (eBin oShl (eC (.int 1)) (eVar 5)) (aNil))) (gNm 8) (tBl (eBin oEq (eBin oIx (eVar 6) (eVar 8)) (eVar 8))) (eVar 8) [8]))) (sRet (eC (.bl false))) (sNext))
  (sSeq (sAsg (eCall cTuple (aCons (eLc (iSeq (eVar 2)) (gNm 7) (tBl (eBin oEq (eCall cLen (aCons (eVar 7) (aNil))) (eC (.int 2)))) (eCall γ__law_as_states (aCons (eVar 7) (aCons (eVar 5) (aNil)))) [7]) (aNil))) (gNm 4))
  (sRet (eBin oEqS (eCall cRepr (aCons (eLst (aCons (eCall γ_swings (aCons (eVar 1) (aNil))) (aCons (eCallK γ_swings 0 1 [0] aNil (aCons (eVar 1) (aNil))) (aNil)))) (aNil))) (eCall cRepr (aCons (eLst (aCons (eVar 4) (aCons (eVar 4) (aNil)))) (aNil)))))))))))
/-- _law_well(script, lap): slots 0 script 1 lap 2 mixed 3 cell 4 own -/
def body__law_well : ST := sSeq (sAsg (eBin oAdd (eC (.int 11821)) (eBin oMul (eC (.int 7919)) (eVar 1))) (gNm 2))
  (sSeq (sFor (iSeq (eSl (eVar 0) (pNone) (pSome (eC (.int 10))))) (gNm 3) (sAsg (eBin oMod (eCall cInt (aCons (eBin oAdd (eBin oAdd (eBin oMul (eVar 2) (eC (.int 52361))) (eBin oMul (eBin oMod (eCall cInt (aCons (eVar 3) (aNil))) (eC (.int 2147483489))) (eC (.int 7)))) (eC (.int 19))) (aNil))) (eC (.int 2147483489))) (gNm 2)))
  (sSeq (sAsg (eIf (tBl (eBin oLt (eVar 1) (eCall cLen (aCons (eVar 0) (aNil))))) (eCall cInt (aCons (eBin oIx (eVar 0) (eVar 1)) (aNil))) (eC (.int 0))) (gNm 4))
  (sSeq (sAsg (eBin oMod (eCall cInt (aCons (eBin oAdd (eBin oAdd (eBin oMul (eVar 2) (eC (.int 47))) (eBin oMul (eBin oMod (eCall cInt (aCons (eVar 4) (aNil))) (eC (.int 2147483489))) (eC (.int 30109)))) (eC (.int 5))) (aNil))) (eC (.int 2147483489))) (gNm 2))
  (sRet (eLstM (aCons (eIf (tOr' (tBl (eBin oLt (eVar 4) (eC (.int 0)))) (tBl (eBin oGe (eVar 4) (eBin oPow (eC (.int 10)) (eC (.int 14)))))) (eCall cAbs (aCons (eVar 4) (aNil))) (eC (.int 0))) (aCons (eVar 2) (aCons (eC (.int 0)) (aNil)))))))))
/-- law(script): slots 0 script 1 lap -/
def body_law (γ__law_right γ__law_well : OL) : ST := sRet (eCall cAll (aCons (eLc (iRange1 (aCons (eCall cMax2 (aCons (eC (.int 2)) (aCons (eCall cMin2 (aCons (eCall cLen (aCons (eVar 0) (aNil))) (aCons (eC (.int 4)) (aNil)))) (aNil)))) (aNil))) (gNm 1) (tYes') (eCall γ__law_right (aCons (eCall γ__law_well (aCons (eVar 0) (aCons (eVar 1) (aNil)))) (aNil))) [1]) (aNil)))
end K11

--W11
--NN
set_option exponentiation.threshold 60000
namespace K11
open PySem L2 Gx
local macro_rules | `(tactic| simp_arith [$xs,*]) => `(tactic| try simp only [eVar, eC, eBin, eUn, tBl, tAnd', tOr', tNot', eAnd, eOr, eNot, eIf, aNil, aCons, eTup, eLst, eLstM, eCall, eCallK, pick, sNext, sSeq, sBreak, sCont, sDrop, sRet, sRetN, sIf, sNever, gNm, gsNil, gsCons, gTupl, gSubs, sAsg, sPar, sPar3, sFor, iSeq, seqG_tup, seqG_lst, seqG_scr, iRange1, iRange2, iEnumG, iZipG, td_tup, td_lst, td_scr, eLc, eLcM, tYes', pNone, pSome, eSl, cu_tup, cu_lst, cu_scr, eMt, eMt0, mAppend, isL, rs_non, rs_bl, rs_int, rs_str, rs_tup, rs_lst', rs_scr, itemsOf_tup, itemsOf_lst, itemsOf_scr, oI, oI0, oSub, oFdiv, oMod, oPow, oShl, oShr, oAnd, oOr, oXor, oLt, oLe, oGt, oGe, oNeg, oIsN, oNotN, oAdd, oAdd', oMul, oMul', oMulM, oEq, oNe, oEqS, oNeS, oIn, oNin, eChain, oIx, oSet, cLen, cList, cListM, cTuple, cSum, cAll, cAny, cInt, cAbs, cMax2, cMin2, cDivmod, cGcd, cIsi, cRepr, lstInts, lstBls, startD, wipeD, List.map_cons, List.map_nil, List.length_cons, List.length_nil, List.cons_append, List.nil_append, List.replicate_succ, List.replicate_zero, List.set_cons_succ, List.set_cons_zero, List.getElem?_cons_succ, List.getElem?_cons_zero, List.filterMap_cons_some, List.filterMap_nil, Nat.reduceAdd, Nat.reduceSub, Nat.sub_self, Nat.reduceLT, Nat.reduceMul, Nat.zero_add, Nat.add_zero, if_true, if_false, and_true, true_and, and_false, false_and, or_true, true_or, or_false, false_or, not_true_eq_false, not_false_eq_true, Bool.not_true, Bool.not_false, Bool.false_eq_true, ite_true, ite_false, reduceIte, reduceCtorEq, eq_self, aStar, eLstRg, eDicT0, eDixT, gSubsT, keysOf, cListT, cSortedP, oSubB, oMulT, iZip2G, eDic0, eDic1, oDix, oDin, oDnin, oDset, iKeysG, cSortedE, cListD, Gx.keyOf, cMaxL, cMinL, cSortedI, mIndex, eSortSet, eLenT, tBi, oIsB, cSumT, eBits, eLenI, eRev, eLZ, eTZ, eZ, iEnZG, mPop, mPopAt, cRng, cLenR, iRngV, eDc, cLenD, sAsg2, eLenIT, eLstRgM, cSortedTI, oNotB, ySeq, yS, yIf, yRaise, yRet, yDrop, yAsg, xE, xCall, xCallN, xCallK, xaNil, xaCons, eCallS, eCallKS, sTry, eLam, getCaps, eAct, xAct, cSortedR, cMinT, $xs,*])
local macro_rules | `(tactic| simp_arith! [$xs,*]) => `(tactic| try simp only [eVar, eC, eBin, eUn, tBl, tAnd', tOr', tNot', eAnd, eOr, eNot, eIf, aNil, aCons, eTup, eLst, eLstM, eCall, eCallK, pick, sNext, sSeq, sBreak, sCont, sDrop, sRet, sRetN, sIf, sNever, gNm, gsNil, gsCons, gTupl, gSubs, sAsg, sPar, sPar3, sFor, iSeq, seqG_tup, seqG_lst, seqG_scr, iRange1, iRange2, iEnumG, iZipG, td_tup, td_lst, td_scr, eLc, eLcM, tYes', pNone, pSome, eSl, cu_tup, cu_lst, cu_scr, eMt, eMt0, mAppend, isL, rs_non, rs_bl, rs_int, rs_str, rs_tup, rs_lst', rs_scr, itemsOf_tup, itemsOf_lst, itemsOf_scr, oI, oI0, oSub, oFdiv, oMod, oPow, oShl, oShr, oAnd, oOr, oXor, oLt, oLe, oGt, oGe, oNeg, oIsN, oNotN, oAdd, oAdd', oMul, oMul', oMulM, oEq, oNe, oEqS, oNeS, oIn, oNin, eChain, oIx, oSet, cLen, cList, cListM, cTuple, cSum, cAll, cAny, cInt, cAbs, cMax2, cMin2, cDivmod, cGcd, cIsi, cRepr, lstInts, lstBls, startD, wipeD, List.map_cons, List.map_nil, List.length_cons, List.length_nil, List.cons_append, List.nil_append, List.replicate_succ, List.replicate_zero, List.set_cons_succ, List.set_cons_zero, List.getElem?_cons_succ, List.getElem?_cons_zero, List.filterMap_cons_some, List.filterMap_nil, Nat.reduceAdd, Nat.reduceSub, Nat.sub_self, Nat.reduceLT, Nat.reduceMul, Nat.zero_add, Nat.add_zero, if_true, if_false, and_true, true_and, and_false, false_and, or_true, true_or, or_false, false_or, not_true_eq_false, not_false_eq_true, Bool.not_true, Bool.not_false, Bool.false_eq_true, ite_true, ite_false, reduceIte, reduceCtorEq, eq_self, aStar, eLstRg, eDicT0, eDixT, gSubsT, keysOf, cListT, cSortedP, oSubB, oMulT, iZip2G, eDic0, eDic1, oDix, oDin, oDnin, oDset, iKeysG, cSortedE, cListD, Gx.keyOf, cMaxL, cMinL, cSortedI, mIndex, eSortSet, eLenT, tBi, oIsB, cSumT, eBits, eLenI, eRev, eLZ, eTZ, eZ, iEnZG, mPop, mPopAt, cRng, cLenR, iRngV, eDc, cLenD, sAsg2, eLenIT, eLstRgM, cSortedTI, oNotB, ySeq, yS, yIf, yRaise, yRet, yDrop, yAsg, xE, xCall, xCallN, xCallK, xaNil, xaCons, eCallS, eCallKS, sTry, eLam, getCaps, eAct, xAct, cSortedR, cMinT, rs_N, rs_W, rs_Row, rs_S, rs_R, rs_B, it_N, it_W, it_Row, it_S, it_R, sq_W, sq_Row, sq_S, td_N, td_W, td_Row, td_S, rs_I, it_I, sq_I, td_I, rs_Ss, it_Ss, sq_Ss, td_Ss, cu_S, cu_W, cu_Row, atI_0, atI_1, $xs,*])
abbrev ts (T1 T2 : Addr) : List (Addr × Str) := [(T1, lamQ "at_once_by"), (T2, lamQ "rings_by")]
theorem pn_sm {N : Net} (d : Drn PN PN N) : Sm N := ⟨fun r hr q hq => (d.w r hr q hq).mono (Nat.le_trans (m := 2 ^ 21) (by decide) (pow2_le (by decide))) (by decide), fun q hq => (d.m q hq).mono (Nat.le_trans (m := 2 ^ 21) (by decide) (pow2_le (by decide))) (by decide)⟩
abbrev N5 (N : Net) : Prop := N.Ok ∧ Sm N ∧ N.n ≤ 5
theorem pow5 {n : Nat} (h : n ≤ 5) : 2 ^ n ≤ 32 := Nat.pow_le_pow_right (n := 2) (by decide) h
abbrev stp (N : Net) : D := .lst (encK ((List.range (2 ^ N.n)).map (wishN N)))
def γ_sr (T : Addr) : OL := fun ds S R => ∃ (p : Addr) (N : Net), ds = [.ref p, encN N, stp N] ∧ (Well p S ∧ N5 N ∧ S T = some (.tab (lamQ "at_once_by"))) ∧ ∀ S', Drw p S S' → R (.bl true) S'
def body_sr (γ__law_draw γ__law_as_state γ__law_tail γ__law_as_states γ_wanted γ_run : OL) : ST := sSeq (sAsg (eCall cLen (aCons (eBin oIx (eVar 1) (eC (.int 1))) (aNil))) (gNm 3))
  (sSeq (sFor (iRange1 (aCons (eC (.int 3)) (aNil))) (gNm 4) (sSeq (sAsg (eCall γ__law_draw (aCons (eVar 0) (aCons (eBin oShl (eC (.int 1)) (eVar 3)) (aNil)))) (gNm 5))
  (sSeq (sPar 7 8 (aCons (eCall γ__law_as_state (aCons (eVar 5) (aCons (eVar 3) (aNil)))) (aCons (eCall γ__law_as_state (aCons (eBin oIx (eVar 2) (eVar 5)) (aCons (eVar 3) (aNil)))) (aNil))))
  (sSeq (sAsg (eCall γ__law_tail (aCons (eVar 2) (aCons (eVar 5) (aNil)))) (gTupl 2 (gsCons (gNm 9) (gsCons (gNm 10) (gsNil)))))
  (sSeq (sAsg (eTup (aCons (eCall γ__law_as_states (aCons (eVar 9) (aCons (eVar 3) (aNil)))) (aCons (eCall γ__law_as_states (aCons (eVar 10) (aCons (eVar 3) (aNil)))) (aNil)))) (gNm 6))
  (sSeq (sIf (tBl (eBin oNeS (eCall cRepr (aCons (eLst (aCons (eCall γ_wanted (aCons (eVar 1) (aCons (eVar 7) (aNil)))) (aCons (eCallK γ_wanted 0 2 [1, 0] aNil (aCons (eVar 7) (aCons (eVar 1) (aNil)))) (aNil)))) (aNil))) (eCall cRepr (aCons (eLst (aCons (eVar 8) (aCons (eVar 8) (aNil)))) (aNil))))) (sRet (eC (.bl false))) (sNext))
  (sIf (tBl (eBin oNeS (eCall cRepr (aCons (eLst (aCons (eCall γ_run (aCons (eVar 1) (aCons (eVar 7) (aNil)))) (aCons (eCallK γ_run 0 2 [1, 0] aNil (aCons (eVar 7) (aCons (eVar 1) (aNil)))) (aNil)))) (aNil))) (eCall cRepr (aCons (eLst (aCons (eVar 6) (aCons (eVar 6) (aNil)))) (aNil))))) (sRet (eC (.bl false))) (sNext))))))))
  (sRet (eC (.bl true))))
theorem rp_run {N : Net} (h5 : N5 N) {k : Nat} (hk : k < 2 ^ N.n) : RP 3 500 (runD N k) := by
  have hf : ∀ y, y < 2 ^ N.n → wishN N y < 2 ^ N.n := fun y _ => wishN_lt N y
  have p5 := pow5 h5.2.2
  obtain ⟨j, m, e1, e2, p, hs, _, _⟩ := run_spec hf hk
  have l1 : (runOf (wishN N) (2 ^ N.n) k).1.length ≤ 32 := by rw [e1, List.length_map, List.length_range]; omega
  have l2 : (runOf (wishN N) (2 ^ N.n) k).2.length ≤ 32 := by rw [e2, rngF_len]; omega
  have rs5 : ∀ l : List Nat, l.length ≤ 32 → RP 2 200 (encSs (l.map (stateOf N.n))) := fun l hl => by
    have := rp_Ss (n := 5) (ss := l.map (stateOf N.n)) fun s hs => by
      obtain ⟨k, _, rfl⟩ := List.mem_map.mp hs
      rw [stateOf_length]; exact h5.2.2
    exact ⟨this.pl, this.ok, Nat.le_trans this.sz (by rw [List.length_map]; omega)⟩
  exact (RPs.cons (rs5 _ l1) (.cons (rs5 _ l2) .nil)).tup.mono
theorem law_sr (T : Addr) : Law 11 (γ_sr T) (body_sr γ_draw γ_as_state γ_ltail γ_as_states γ_wanted_by (γ_ato T)) := by
  intro ds S R ⟨p, N, e, ⟨hw, h5, hT⟩, h⟩
  subst e
  obtain ⟨ok, sm, n5⟩ := h5
  have h5 : N5 N := ⟨ok, sm, n5⟩
  have hf : ∀ y, y < 2 ^ N.n → wishN N y < 2 ^ N.n := fun y _ => wishN_lt N y
  have p5 := pow5 n5
  have pp := Nat.two_pow_pos N.n
  have hN : N.ms.length = N.n := rfl
  have sr := shl_rng ok.few
  unfold body_sr
  refine seqK fun k hk => ?_
  simp_arith! [List.length_map, hN]
  rw [hk]
  clear hk
  refine seqK fun k hk => ?_
  simp only [sFor, iRange1, aCons, aNil, eC]
  refine ⟨by decide, ?_⟩
  refine for_rng (n := 3) (fun t τ S' => Drw p S S' ∧ ∃ x4 x5 x6 x7 x8 x9 x10, τ = [some (.ref p), some (encN N), some (stp N), some (.int N.n), x4, x5, x6, x7, x8, x9, x10]) ⟨.refl hw, _, _, _, _, _, _, _, rfl⟩ (fun t τ S' K ht ⟨d, x4, x5, x6, x7, x8, x9, x10, hτ⟩ hK => ?_) fun τ S' ⟨d, x4, x5, x6, x7, x8, x9, x10, hτ⟩ => ?_
  · subst hτ
    simp only [gNm, List.set_cons_succ, List.set_cons_zero]
    refine seqK fun k1 hk1 => ?_
    unfold γ_draw
    simp_arith [shl_one]
    refine ⟨sr.1, p, _, rfl, d.well, ⟨by omega, by omega⟩, fun a S3 a0 a1 d3 => ?_⟩
    obtain ⟨a, rfl⟩ := Int.eq_ofNat_of_zero_le a0
    have ha : a < 2 ^ N.n := by omega
    have d3 := d.trans d3
    have hT3 := d3.tab hw hT
    have sa := stp_at (f := wishN N) ha
    rw [hk1]
    clear hk1
    refine seqK fun k1 hk1 => ?_
    unfold γ_as_state
    simp_arith [sa]
    refine ⟨N.n, a, rfl, by omega, N.n, wishN N a, rfl, by omega, ?_⟩
    rw [hk1]
    clear hk1
    refine seqK fun k1 hk1 => ?_
    unfold γ_ltail
    simp_arith []
    refine ⟨2 ^ N.n, wishN N, a, rfl, ⟨ha, by omega, hf⟩, ?_⟩
    simp_arith []
    rw [hk1]
    clear hk1
    obtain ⟨j, m, e1, e2, q, hs, _, _⟩ := run_spec hf ha
    have l1 : (runOf (wishN N) (2 ^ N.n) a).1.length ≤ 32 := by rw [e1, List.length_map, List.length_range]; omega
    have l2 : (runOf (wishN N) (2 ^ N.n) a).2.length ≤ 32 := by rw [e2, rngF_len]; omega
    refine seqK fun k1 hk1 => ?_
    unfold γ_as_states
    simp_arith []
    refine ⟨N.n, _, rfl, ⟨by omega, by omega⟩, N.n, _, rfl, ⟨by omega, by omega⟩, by decide, ?_⟩
    rw [hk1]
    clear hk1
    have rw1 : RP 1 5 (encS (stateOf N.n (wishN N a))) := ⟨(rp_S _).pl, (rp_S _).ok, Nat.le_trans (rp_S _).sz (by rw [stateOf_length]; exact n5)⟩
    have rw2 := (RPs.cons rw1 (.cons rw1 .nil)).lst.rp (by decide) (by decide)
    have rr1 := rp_run h5 ha
    have rr2 := (RPs.cons rr1 (.cons rr1 .nil)).lst.rp (by decide) (by decide)
    refine seqK fun k1 hk1 => ?_
    unfold γ_wanted_by
    simp_arith []
    have ew : wants N (stateOf N.n a) = stateOf N.n (wishN N a) := (stateOf_wish N a).symm
    refine ⟨N, _, rfl, ⟨ok, sm, stateOf_length _ _⟩, N, _, rfl, ⟨ok, sm, stateOf_length _ _⟩, ?_⟩
    rw [ew]
    refine ⟨by decide, rw2, by decide, rw2, ?_⟩
    simp_arith [not_dec_self]
    rw [hk1]
    clear hk1
    unfold γ_ato
    simp_arith []
    refine ⟨N, a, rfl, ⟨⟨ok, sm, ha⟩, hT3⟩, N, a, rfl, ⟨⟨ok, sm, ha⟩, hT3⟩, ?_⟩
    refine ⟨by decide, rr2, by decide, rr2, ?_⟩
    simp_arith [not_dec_self, runD]
    exact hK _ _ ⟨d3, _, _, _, _, _, _, _, rfl⟩
  · subst hτ
    show k _ _
    rw [hk]
    simp_arith []
    exact fin_of (h _ d)
/-! ### one lap -/
def body_right (γ__law_net γ__law_one γ__law_wishes γ__law_all_rings γ__law_as_states γ_rings γ__law_are_states_right γ_swings : OL) : ST := sSeq (sAsg (eCall γ__law_net (aCons (eVar 0) (aCons (eCall γ__law_one (aCons (eVar 0) (aCons (eTup (aCons (eC (.int 2)) (aCons (eC (.int 3)) (aCons (eC (.int 4)) (aCons (eC (.int 1)) (aCons (eC (.int 3)) (aCons (eC (.int 5)) (aNil)))))))) (aNil)))) (aNil)))) (gNm 1))
  (sSeq (sAsg (eTup (aCons (eCall cLen (aCons (eBin oIx (eVar 1) (eC (.int 1))) (aNil))) (aCons (eCall γ__law_wishes (aCons (eVar 1) (aNil))) (aNil)))) (gTupl 2 (gsCons (gNm 5) (gsCons (gNm 6) (gsNil)))))
  (sSeq (sAsg (eCall γ__law_all_rings (aCons (eVar 6) (aNil))) (gNm 2))
  (sSeq (sAsg (eCall cTuple (aCons (eLc (iSeq (eVar 2)) (gNm 7) (tYes') (eCall γ__law_as_states (aCons (eVar 7) (aCons (eVar 5) (aNil)))) [7]) (aNil))) (gNm 3))
  (sSeq (sIf (tOr' (tBl (eBin oNeS (eCall cRepr (aCons (eLst (aCons (eCall γ_rings (aCons (eVar 1) (aNil))) (aCons (eCallK γ_rings 0 1 [0] aNil (aCons (eVar 1) (aNil))) (aNil)))) (aNil))) (eCall cRepr (aCons (eLst (aCons (eVar 3) (aCons (eVar 3) (aNil)))) (aNil))))) (tNot' (tBl (eCall γ__law_are_states_right (aCons (eVar 0) (aCons (eVar 1) (aCons (eVar 6) (aNil)))))))) (sRet (eC (.bl false))) (sNext))
  (sSeq (sIf (tBl (eBin oNe (eLc (iSeq (eVar 2)) (gNm 7) (tBl (eBin oEq (eCall cLen (aCons (eVar 7) (aNil))) (eC (.int 1)))) (eBin oIx (eVar 7) (eC (.int 0))) [7]) (eLc (iRange1 (aCons (eBin oShl (eC (.int 1)) (eVar 5)) (aNil))) (gNm 8) (tBl (eBin oEq (eBin oIx (eVar 6) (eVar 8)) (eVar 8))) (eVar 8) [8]))) (sRet (eC (.bl false))) (sNext))
  (sSeq (sAsg (eCall cTuple (aCons (eLc (iSeq (eVar 2)) (gNm 7) (tBl (eBin oEq (eCall cLen (aCons (eVar 7) (aNil))) (eC (.int 2)))) (eCall γ__law_as_states (aCons (eVar 7) (aCons (eVar 5) (aNil)))) [7]) (aNil))) (gNm 4))
  (sRet (eBin oEqS (eCall cRepr (aCons (eLst (aCons (eCall γ_swings (aCons (eVar 1) (aNil))) (aCons (eCallK γ_swings 0 1 [0] aNil (aCons (eVar 1) (aNil))) (aNil)))) (aNil))) (eCall cRepr (aCons (eLst (aCons (eVar 4) (aCons (eVar 4) (aNil)))) (aNil)))))))))))
theorem sw_all {N : Net} : (swL N).flatten.length ≤ 2 ^ N.n ∧ (swL N).length ≤ 2 ^ N.n := by
  have hf : ∀ y, y < 2 ^ N.n → wishN N y < 2 ^ N.n := fun y _ => wishN_lt N y
  unfold swL
  exact ⟨Nat.le_trans (flat_filter _ _) (rings_all hf), Nat.le_trans (List.length_filter_le _ _) (rings_few hf)⟩
theorem law_right (T1 T2 : Addr) : Law 9 (γ_lapT (ts T1 T2)) (body_right (γ_net PN PN) γ_one γ_wishes γ_lrings γ_as_states (γ_rgs T2) (γ_sr T1) (γ_swb T2)) := by
  intro ds S R ⟨p, e, hw, hT, h⟩
  subst e
  have hT1 : S T1 = some (.tab (lamQ "at_once_by")) := hT (T1, lamQ "at_once_by") List.mem_cons_self
  have hT2 : S T2 = some (.tab (lamQ "rings_by")) := hT (T2, lamQ "rings_by") (List.mem_cons_of_mem _ List.mem_cons_self)
  unfold body_right
  refine seqK fun k hk => ?_
  unfold γ_one γ_net
  simp_arith []
  refine ⟨by decide, p, _, _, rfl, rfl, hw, by decide, fun x S1 hx d1 => ?_⟩
  obtain ⟨n, rfl, n1, n5⟩ := natsIn_mem (a := 1) (b := 5) (by decide) hx
  refine ⟨p, n, rfl, d1.well, ⟨n1, by omega⟩, fun N S2 ok hn dr d2 => ?_⟩
  have d2 := d1.trans d2
  subst hn
  have sm : Sm N := pn_sm dr
  have h5 : N5 N := ⟨ok, sm, by omega⟩
  have hf : ∀ y, y < 2 ^ N.n → wishN N y < 2 ^ N.n := fun y _ => wishN_lt N y
  have p5 := pow5 h5.2.2
  have pp := Nat.two_pow_pos N.n
  have hN : N.ms.length = N.n := rfl
  have sr := shl_rng ok.few
  rw [hk]
  clear hk
  refine seqK fun k hk => ?_
  unfold γ_wishes
  simp_arith! [List.length_map, hN]
  refine ⟨N, rfl, ⟨ok, sm⟩, ?_⟩
  simp_arith []
  refine ⟨by decide, ?_⟩
  rw [hk]
  clear hk
  refine seqK fun k hk => ?_
  unfold γ_lrings
  simp_arith []
  refine ⟨2 ^ N.n, wishN N, rfl, ⟨by omega, hf⟩, ?_⟩
  rw [hk]
  clear hk
  have rf := rings_few hf
  refine seqK fun k hk => ?_
  unfold γ_as_states
  simp_arith []
  refine lc_map (fun c : List Nat => D.lst (encK c)) (fun c => encSs (c.map (stateOf N.n))) (ringsN (wishN N) (2 ^ N.n)) [] (fun c hc Q hQ => ?_) trivial (sz1000 (by rw [List.length_nil]; omega)) ?_
  · simp_arith [wipeD]
    have : c.length ≤ 2 ^ N.n := by
      obtain ⟨k, hk, mk, rfl⟩ := rings_mem hf hc
      exact (ring_pos hf hk).2.1
    exact ⟨N.n, c, rfl, ⟨by omega, by omega⟩, hQ⟩
  rw [List.nil_append, hk]
  clear hk
  refine seqK fun k hk => ?_
  unfold γ_rgs γ_sr
  simp_arith []
  have rr1 := rp_rows (n := N.n) h5.2.2 (L := ringsN (wishN N) (2 ^ N.n)) (Nat.le_trans (rings_all hf) p5) (Nat.le_trans rf p5)
  have rr2 := (RPs.cons rr1 (.cons rr1 .nil)).lst.rp (by decide) (by decide)
  have hT22 := d2.tab hw hT2
  have hT12 := d2.tab hw hT1
  refine ⟨N, rfl, ⟨⟨ok, sm⟩, hT22⟩, N, rfl, ⟨⟨ok, sm⟩, hT22⟩, by decide, rr2, by decide, rr2, ?_⟩
  simp_arith [not_dec_self, ringsD]
  refine ⟨p, N, rfl, ⟨d2.well, h5, hT12⟩, fun S3 d3 => ?_⟩
  have d3 := d2.trans d3
  have hT23 := d3.tab hw hT2
  simp_arith []
  rw [hk]
  clear hk
  refine seqK fun k hk => ?_
  simp_arith [encKs]
  refine lc_filter (fun c : List Nat => D.lst (encK c)) (fun c => decide (c.length = 1)) (fun c => .int (c.headD 0 : Nat)) (ringsN (wishN N) (2 ^ N.n)) [] (fun c hc Y M hy hM => ?_) trivial (sz1000 (by rw [List.length_nil]; omega)) ?_
  · simp_arith [wipeD, encK_len, eqD_int]
    refine ⟨⟨pl_int, pl_int⟩, ?_⟩
    have ed : decide ((c.length : Int) = 1) = decide (c.length = 1) := decide_eq_decide.mpr (by omega)
    rw [ed]
    split
    · rename_i z
      cases c with
      | nil => cases z
      | cons y c =>
        have a0 : L2.atI (encK (y :: c)) 0 = some (.int (y : Nat)) := L2.atI_nat (xs := encK (y :: c)) (j := 0) rfl
        rw [a0]
        exact hy z
    · rename_i z; exact hM (by simpa using z)
  have ro : ((ringsN (wishN N) (2 ^ N.n)).filter fun c => decide (c.length = 1)).map (fun c : List Nat => D.int (c.headD 0 : Nat)) = ((List.range (2 ^ N.n)).filter fun k => decide (wishN N k = k)).map fun i : Nat => D.int (i : Int) := by
    rw [← rings_ones hf, List.map_map]; rfl
  rw [List.nil_append, ro]
  simp_arith [shl_one]
  refine ⟨sr.1, ⟨by omega, by omega⟩, ?_⟩
  rw [Int.toNat_natCast]
  refine rng_filter (fun i => decide (wishN N i = i)) (fun i => .int (i : Int)) (2 ^ N.n) (fun i hi Y M hy hM => ?_) trivial (sz1000 (by omega)) ?_
  · have sa := stp_at (f := wishN N) hi
    simp_arith [wipeD, sa, eqD_nat]
    refine ⟨⟨pl_int, pl_int⟩, ?_⟩
    split
    · rename_i z; exact hy z
    · rename_i z; exact hM (by simpa using z)
  have eqs : ∀ l : List Nat, eqD (.lst (l.map fun i : Nat => D.int (i : Int))) (.lst (l.map fun i : Nat => D.int (i : Int))) = true := fun l => (eqD_KK l l).trans (decide_eq_true rfl)
  have pls : ∀ l : List Nat, pl 60 (.lst (l.map fun i : Nat => D.int (i : Int))) = true := fun l => pl_K l
  simp_arith [eqs, pls]
  rw [hk]
  clear hk
  refine seqK fun k hk => ?_
  simp_arith []
  refine lc_filter (fun c : List Nat => D.lst (encK c)) (fun c => decide (c.length = 2)) (fun c => encSs (c.map (stateOf N.n))) (ringsN (wishN N) (2 ^ N.n)) [] (fun c hc Y M hy hM => ?_) trivial (sz1000 (by rw [List.length_nil]; omega)) ?_
  · simp_arith [wipeD, encK_len, eqD_int]
    refine ⟨⟨pl_int, pl_int⟩, ?_⟩
    have ed : decide ((c.length : Int) = 2) = decide (c.length = 2) := decide_eq_decide.mpr (by omega)
    rw [ed]
    have : c.length ≤ 2 ^ N.n := by
      obtain ⟨k, hk, mk, rfl⟩ := rings_mem hf hc
      exact (ring_pos hf hk).2.1
    split
    · rename_i z; exact ⟨N.n, c, rfl, ⟨by omega, by omega⟩, hy z⟩
    · rename_i z; exact hM (by simpa using z)
  rw [List.nil_append, hk]
  clear hk
  have rs1 := rp_rows (n := N.n) h5.2.2 (L := swL N) (Nat.le_trans sw_all.1 p5) (Nat.le_trans sw_all.2 p5)
  have rs2 := (RPs.cons rs1 (.cons rs1 .nil)).lst.rp (by decide) (by decide)
  unfold γ_swb
  simp_arith []
  refine ⟨N, rfl, ⟨⟨ok, sm⟩, hT23⟩, N, rfl, ⟨⟨ok, sm⟩, hT23⟩, by decide, rs2, by decide, rs2, ?_⟩
  simp_arith [swD, swL, decide_true]
  exact fin_of (h _ d3)
end K11

namespace K11
open PySem PySem.Spec PyProof.Rows L2 Gx
def topS (i : Nat) : Stmt := PySem.Challenge.pw_heedlore_k11_runs_rings_and_swings.main.body.getD i (.Pass ⟨0, 0, 0, 0⟩)
section
variable {P : Program} {w : World} {K : PySem.W.Frag} {mg : Str → Option Value} {base : Heap} {k : Nat}
abbrev s__law_draw : Stmt := topS 44
abbrev N__law_draw : List Str := ["well", "few", "mixed", "figure"]
theorem sc__law_draw : FnScope N__law_draw ["well", "few"] (defScope s__law_draw) := ⟨rfl, rfl, rfl, by decide +kernel, rfl, by decide +kernel, by decide +kernel⟩
theorem tm__law_draw {f : Addr} {cdv : Value} {A : Around} {outer : List Env} {s : Shared} {H : Hp} (B : Blt mg)
    (hr : Room k (A.deeper (envOfC "_law_draw" (defScope s__law_draw) s.heap.objs.size f cdv))) (hgd : (A.deeper (envOfC "_law_draw" (defScope s__law_draw) s.heap.objs.size f cdv)).guards = some []) :
    GSs (cxOf CX0 P w K mg base N__law_draw "_law_draw" (defScope s__law_draw) f cdv A outer s H E0).nox (defBody s__law_draw) (body__law_draw) := by
  exact gss_cons (gs_if (gt_cmp o_gt (g_ix o_ix (g_var 0) (g_int)) (g_int)) (gss_cons (gs_asg (g_callB c_divmod (by rfl) B.divmod bt_divmod (ga_cons (g_ix o_ix (g_var 0) (g_int)) (ga_cons (g_var 1) (ga_nil)))) (gg_tup rfl (ggs_cons (gg_sub (g_var 0) (g_int) o_set) (ggs_cons (gg_name 3 sc__law_draw.nd) (ggs_nil)))))
    (gss_one (gs_ret (g_var 3)))) (gss_nil))
    (gss_cons (gs_asg (g_bin o_add (g_ix o_ix (g_var 0) (g_int)) (g_int)) (gg_sub (g_var 0) (g_int) o_set))
    (gss_cons (gs_set 2 sc__law_draw.nd (g_bin o_mod (g_callTy c_int (by rfl) B.int bt_int (ga_cons (g_bin o_add (g_bin o_mul (g_ix o_ix (g_var 0) (g_int)) (g_int)) (g_bin o_mul (g_int) (g_ix o_ix (g_var 0) (g_int)))) (ga_nil))) (g_int)))
    (gss_cons (gs_asg (g_bin o_mod (g_callTy c_int (by rfl) B.int bt_int (ga_cons (g_bin o_add (g_bin o_mul (g_var 2) (g_bin o_add (g_bin o_mod (g_callTy c_int (by rfl) B.int bt_int (ga_cons (g_var 2) (ga_nil))) (g_int)) (g_int))) (g_ix o_ix (g_var 0) (g_int))) (ga_nil))) (g_int)) (gg_sub (g_var 0) (g_int) o_set))
    (gss_one (gs_ret (g_bin o_mod (g_callTy c_int (by rfl) B.int bt_int (ga_cons (g_bin o_fdiv (g_ix o_ix (g_var 0) (g_int)) (g_int)) (ga_nil))) (g_var 1)))))))
abbrev s__law_one : Stmt := topS 45
abbrev N__law_one : List Str := ["well", "some"]
theorem sc__law_one : FnScope N__law_one ["well", "some"] (defScope s__law_one) := ⟨rfl, rfl, rfl, by decide +kernel, rfl, by decide +kernel, by decide +kernel⟩
theorem tm__law_one {γ__law_draw : OL} {f__law_draw : Addr} {fd__law_draw : FuncData} {f : Addr} {cdv : Value} {A : Around} {outer : List Env} {s : Shared} {H : Hp} (B : Blt mg) (h__law_draw : Has P w K mg base k "_law_draw" f__law_draw fd__law_draw ["well", "few"] γ__law_draw)
    (hr : Room k (A.deeper (envOfC "_law_one" (defScope s__law_one) s.heap.objs.size f cdv))) (hgd : (A.deeper (envOfC "_law_one" (defScope s__law_one) s.heap.objs.size f cdv)).guards = some []) :
    GSs (cxOf CX0 P w K mg base N__law_one "_law_one" (defScope s__law_one) f cdv A outer s H E0).nox (defBody s__law_one) (body__law_one γ__law_draw) := by
  exact gss_one (gs_ret (g_ix o_ix (g_var 1) (g_call h__law_draw hr hgd (Nat.le_refl _) (by rfl) (ga_cons (g_var 0) (ga_cons (g_callB c_len (by rfl) B.len bt_len (ga_cons (g_var 1) (ga_nil))) (ga_nil))))))
abbrev s__law_wheel : Stmt := topS 54
abbrev N__law_wheel : List Str := ["well", "few", "at", "rows", "marks", "sign", "row"]
theorem sc__law_wheel : FnScope N__law_wheel ["well", "few"] (defScope s__law_wheel) := ⟨rfl, rfl, rfl, by decide +kernel, rfl, by decide +kernel, by decide +kernel⟩
theorem tm__law_wheel {γ__law_one : OL} {f__law_one : Addr} {fd__law_one : FuncData} {f : Addr} {cdv : Value} {A : Around} {outer : List Env} {s : Shared} {H : Hp} (B : Blt mg) (h__law_one : Has P w K mg base k "_law_one" f__law_one fd__law_one ["well", "some"] γ__law_one)
    (hr : Room k (A.deeper (envOfC "_law_wheel" (defScope s__law_wheel) s.heap.objs.size f cdv))) (hgd : (A.deeper (envOfC "_law_wheel" (defScope s__law_wheel) s.heap.objs.size f cdv)).guards = some []) :
    GSs (cxOf CX0 P w K mg base N__law_wheel "_law_wheel" (defScope s__law_wheel) f cdv A outer s H E0).nox (defBody s__law_wheel) (body__law_wheel γ__law_one) := by
  exact gss_cons (gs_par 3 4 rfl sc__law_wheel.nd (ga_cons (g_lcM (own := [("at", 2)])  rfl sc__law_wheel.nd (gi_range1 (by rfl) B.range (ga_cons (g_var 1) (ga_nil))) (blkOk_by (own := [("at", 2)]) (N := N__law_wheel) (sc := defScope s__law_wheel) (by decide +kernel)) (fun _ _ _ _ _ => ggc_name 2 sc__law_wheel.nd) (fun _ _ _ _ _ => gts_nil) (fun _ _ _ _ _ => g_bin o_mulM (g_lst (ga_cons (g_tup (ga_cons (g_int) (ga_cons (g_int) (ga_nil)))) (ga_nil))) (g_var 1))) (ga_cons (g_lstM (ga_nil)) (ga_nil))))
    (gss_cons (gs_for PassesOwn.never rfl (gi_range1 (by rfl) B.range (ga_cons (g_var 1) (ga_nil))) (gg_name 2 sc__law_wheel.nd) (gss_cons (gs_set 5 sc__law_wheel.nd (g_call h__law_one hr hgd (Nat.le_refl _) (by rfl) (ga_cons (g_var 0) (ga_cons (g_tup (ga_cons (g_int) (ga_cons (g_int) (ga_cons (g_int) (ga_cons (g_un o_neg (g_int)) (ga_nil)))))) (ga_nil)))))
    (gss_cons (gs_asg (g_tup (ga_cons (g_ifExp (gt_cmp o_gt (g_var 1) (g_int)) (g_var 5) (g_int)) (ga_cons (g_int) (ga_nil)))) (gg_sub (g_ix o_ix (g_var 3) (g_var 2)) (g_bin o_mod (g_callTy c_int (by rfl) B.int bt_int (ga_cons (g_bin o_add (g_var 2) (g_int)) (ga_nil))) (g_var 1)) o_set))
    (gss_one (gs_expr (g_mt F.slot_list_append F.type_list_append m_append (g_var 4) (ga_cons (g_tup (ga_cons (g_var 5) (ga_cons (g_int) (ga_nil)))) (ga_nil))))))))
    (gss_one (gs_ret (g_tup (ga_cons (g_callTy c_tuple (by rfl) B.tuple bt_tuple (ga_cons (g_lc (own := [("row", 6)])  rfl sc__law_wheel.nd (gi_seq (g_var 3)) (blkOk_by (own := [("row", 6)]) (N := N__law_wheel) (sc := defScope s__law_wheel) (by decide +kernel)) (fun _ _ _ _ _ => ggc_name 6 sc__law_wheel.nd) (fun _ _ _ _ _ => gts_nil) (fun _ _ _ _ _ => g_callTy c_tuple (by rfl) B.tuple bt_tuple (ga_cons (g_var 6) (ga_nil)))) (ga_nil))) (ga_cons (g_callTy c_tuple (by rfl) B.tuple bt_tuple (ga_cons (g_var 4) (ga_nil))) (ga_nil)))))))
abbrev s__law_lean : Stmt := topS 46
abbrev N__law_lean : List Str := ["top", "base", "far", "rest"]
theorem sc__law_lean : FnScope N__law_lean ["top", "base"] (defScope s__law_lean) := ⟨rfl, rfl, rfl, by decide +kernel, rfl, by decide +kernel, by decide +kernel⟩
theorem tm__law_lean {f : Addr} {cdv : Value} {A : Around} {outer : List Env} {s : Shared} {H : Hp} (B : Blt mg)
    (hr : Room k (A.deeper (envOfC "_law_lean" (defScope s__law_lean) s.heap.objs.size f cdv))) (hgd : (A.deeper (envOfC "_law_lean" (defScope s__law_lean) s.heap.objs.size f cdv)).guards = some []) :
    GSs (cxOf CX0 P w K mg base N__law_lean "_law_lean" (defScope s__law_lean) f cdv A outer s H E0).nox (defBody s__law_lean) (body__law_lean) := by
  exact gss_cons (gs_par 2 3 rfl sc__law_lean.nd (ga_cons (g_callB c_abs (by rfl) B.abs bt_abs (ga_cons (g_var 0) (ga_nil))) (ga_cons (g_callB c_abs (by rfl) B.abs bt_abs (ga_cons (g_var 1) (ga_nil))) (ga_nil))))
    (gss_cons (gs_while PassesOwn.never (gt_cmp o_gt (g_var 3) (g_int)) (gss_one (gs_par 2 3 rfl sc__law_lean.nd (ga_cons (g_var 3) (ga_cons (g_bin o_mod (g_callTy c_int (by rfl) B.int bt_int (ga_cons (g_var 2) (ga_nil))) (g_var 3)) (ga_nil))))))
    (gss_cons (gs_set 2 sc__law_lean.nd (g_ifExp (gt_cmp o_gt (g_var 1) (g_int)) (g_var 2) (g_bin o_sub (g_int) (g_var 2))))
    (gss_one (gs_ret (g_tup (ga_cons (g_bin o_fdiv (g_var 0) (g_var 2)) (ga_cons (g_bin o_fdiv (g_var 1) (g_var 2)) (ga_nil))))))))
abbrev s__law_weight : Stmt := topS 50
abbrev N__law_weight : List Str := ["well", "way"]
theorem sc__law_weight : FnScope N__law_weight ["well"] (defScope s__law_weight) := ⟨rfl, rfl, rfl, by decide +kernel, rfl, by decide +kernel, by decide +kernel⟩
theorem tm__law_weight {γ__law_draw : OL} {γ__law_lean : OL} {γ__law_one : OL} {f__law_draw f__law_lean f__law_one : Addr} {fd__law_draw fd__law_lean fd__law_one : FuncData} {f : Addr} {cdv : Value} {A : Around} {outer : List Env} {s : Shared} {H : Hp} (B : Blt mg) (h__law_draw : Has P w K mg base k "_law_draw" f__law_draw fd__law_draw ["well", "few"] γ__law_draw) (h__law_lean : Has P w K mg base k "_law_lean" f__law_lean fd__law_lean ["top", "base"] γ__law_lean) (h__law_one : Has P w K mg base k "_law_one" f__law_one fd__law_one ["well", "some"] γ__law_one)
    (hr : Room k (A.deeper (envOfC "_law_weight" (defScope s__law_weight) s.heap.objs.size f cdv))) (hgd : (A.deeper (envOfC "_law_weight" (defScope s__law_weight) s.heap.objs.size f cdv)).guards = some []) :
    GSs (cxOf CX0 P w K mg base N__law_weight "_law_weight" (defScope s__law_weight) f cdv A outer s H E0).nox (defBody s__law_weight) (body__law_weight γ__law_draw γ__law_lean γ__law_one) := by
  exact gss_cons (gs_set 1 sc__law_weight.nd (g_call h__law_draw hr hgd (Nat.le_refl _) (by rfl) (ga_cons (g_var 0) (ga_cons (g_int) (ga_nil)))))
    (gss_cons (gs_if (gt_cmp o_lt (g_var 1) (g_int)) (gss_one (gs_ret (g_tup (ga_cons (g_int) (ga_cons (g_int) (ga_nil)))))) (gss_nil))
    (gss_cons (gs_if (gt_cmp o_lt (g_var 1) (g_int)) (gss_one (gs_ret (g_call h__law_lean hr hgd (Nat.le_refl _) (by rfl) (ga_cons (g_call h__law_one hr hgd (Nat.le_refl _) (by rfl) (ga_cons (g_var 0) (ga_cons (g_tup (ga_cons (g_int) (ga_cons (g_int) (ga_cons (g_int) (ga_cons (g_int) (ga_cons (g_un o_neg (g_int)) (ga_cons (g_un o_neg (g_int)) (ga_cons (g_un o_neg (g_int)) (ga_cons (g_int) (ga_nil)))))))))) (ga_nil)))) (ga_cons (g_call h__law_one hr hgd (Nat.le_refl _) (by rfl) (ga_cons (g_var 0) (ga_cons (g_tup (ga_cons (g_int) (ga_cons (g_int) (ga_cons (g_int) (ga_cons (g_int) (ga_cons (g_int) (ga_nil))))))) (ga_nil)))) (ga_nil)))))) (gss_nil))
    (gss_one (gs_ret (g_call h__law_lean hr hgd (Nat.le_refl _) (by rfl) (ga_cons (g_bin o_sub (g_call h__law_draw hr hgd (Nat.le_refl _) (by rfl) (ga_cons (g_var 0) (ga_cons (g_int) (ga_nil)))) (g_int)) (ga_cons (g_bin o_add (g_int) (g_call h__law_draw hr hgd (Nat.le_refl _) (by rfl) (ga_cons (g_var 0) (ga_cons (g_int) (ga_nil))))) (ga_nil))))))))
abbrev s__law_marks : Stmt := topS 51
abbrev N__law_marks : List Str := ["well", "few", "found", "at", "small"]
theorem sc__law_marks : FnScope N__law_marks ["well", "few"] (defScope s__law_marks) := ⟨rfl, rfl, rfl, by decide +kernel, rfl, by decide +kernel, by decide +kernel⟩
theorem tm__law_marks {γ__law_one : OL} {γ__law_draw : OL} {γ__law_weight : OL} {f__law_one f__law_draw f__law_weight : Addr} {fd__law_one fd__law_draw fd__law_weight : FuncData} {f : Addr} {cdv : Value} {A : Around} {outer : List Env} {s : Shared} {H : Hp} (B : Blt mg) (h__law_one : Has P w K mg base k "_law_one" f__law_one fd__law_one ["well", "some"] γ__law_one) (h__law_draw : Has P w K mg base k "_law_draw" f__law_draw fd__law_draw ["well", "few"] γ__law_draw) (h__law_weight : Has P w K mg base k "_law_weight" f__law_weight fd__law_weight ["well"] γ__law_weight)
    (hr : Room k (A.deeper (envOfC "_law_marks" (defScope s__law_marks) s.heap.objs.size f cdv))) (hgd : (A.deeper (envOfC "_law_marks" (defScope s__law_marks) s.heap.objs.size f cdv)).guards = some []) :
    GSs (cxOf CX0 P w K mg base N__law_marks "_law_marks" (defScope s__law_marks) f cdv A outer s H E0).nox (defBody s__law_marks) (body__law_marks γ__law_one γ__law_draw γ__law_weight) := by
  exact gss_cons (gs_set 2 sc__law_marks.nd (g_lstM (ga_nil)))
    (gss_cons (gs_for PassesOwn.never rfl (gi_range1 (by rfl) B.range (ga_cons (g_var 1) (ga_nil))) (gg_name 3 sc__law_marks.nd) (gss_cons (gs_set 4 sc__law_marks.nd (g_call h__law_one hr hgd (Nat.le_refl _) (by rfl) (ga_cons (g_var 0) (ga_cons (g_tup (ga_cons (g_tup (ga_cons (g_int) (ga_cons (g_int) (ga_nil)))) (ga_cons (g_tup (ga_cons (g_int) (ga_cons (g_int) (ga_nil)))) (ga_cons (g_tup (ga_cons (g_int) (ga_cons (g_int) (ga_nil)))) (ga_cons (g_tup (ga_cons (g_int) (ga_cons (g_int) (ga_nil)))) (ga_cons (g_tup (ga_cons (g_un o_neg (g_int)) (ga_cons (g_int) (ga_nil)))) (ga_cons (g_tup (ga_cons (g_int) (ga_cons (g_int) (ga_nil)))) (ga_cons (g_tup (ga_cons (g_un o_neg (g_int)) (ga_cons (g_int) (ga_nil)))) (ga_cons (g_tup (ga_cons (g_int) (ga_cons (g_int) (ga_nil)))) (ga_nil)))))))))) (ga_nil)))))
    (gss_one (gs_expr (g_mt F.slot_list_append F.type_list_append m_append (g_var 2) (ga_cons (g_ifExp (gt_cmp (o_eq hr.units) (g_call h__law_draw hr hgd (Nat.le_refl _) (by rfl) (ga_cons (g_var 0) (ga_cons (g_int) (ga_nil)))) (g_int)) (g_call h__law_weight hr hgd (Nat.le_refl _) (by rfl) (ga_cons (g_var 0) (ga_nil))) (g_var 4)) (ga_nil)))))))
    (gss_one (gs_ret (g_callTy c_tuple (by rfl) B.tuple bt_tuple (ga_cons (g_var 2) (ga_nil))))))
abbrev s__law_any_net : Stmt := topS 52
abbrev N__law_any_net : List Str := ["well", "few", "rows", "at", "row", "to"]
theorem sc__law_any_net : FnScope N__law_any_net ["well", "few"] (defScope s__law_any_net) := ⟨rfl, rfl, rfl, by decide +kernel, rfl, by decide +kernel, by decide +kernel⟩
theorem tm__law_any_net {γ__law_weight : OL} {γ__law_marks : OL} {f__law_weight f__law_marks : Addr} {fd__law_weight fd__law_marks : FuncData} {f : Addr} {cdv : Value} {A : Around} {outer : List Env} {s : Shared} {H : Hp} (B : Blt mg) (h__law_weight : Has P w K mg base k "_law_weight" f__law_weight fd__law_weight ["well"] γ__law_weight) (h__law_marks : Has P w K mg base k "_law_marks" f__law_marks fd__law_marks ["well", "few"] γ__law_marks)
    (hr : Room k (A.deeper (envOfC "_law_any_net" (defScope s__law_any_net) s.heap.objs.size f cdv))) (hgd : (A.deeper (envOfC "_law_any_net" (defScope s__law_any_net) s.heap.objs.size f cdv)).guards = some []) :
    GSs (cxOf CX0 P w K mg base N__law_any_net "_law_any_net" (defScope s__law_any_net) f cdv A outer s H E0).nox (defBody s__law_any_net) (body__law_any_net γ__law_weight γ__law_marks) := by
  exact gss_cons (gs_set 2 sc__law_any_net.nd (g_lstM (ga_nil)))
    (gss_cons (gs_for PassesOwn.never rfl (gi_range1 (by rfl) B.range (ga_cons (g_var 1) (ga_nil))) (gg_name 3 sc__law_any_net.nd) (gss_cons (gs_set 4 sc__law_any_net.nd (g_lstM (ga_nil)))
    (gss_cons (gs_for PassesOwn.never rfl (gi_range1 (by rfl) B.range (ga_cons (g_var 1) (ga_nil))) (gg_name 5 sc__law_any_net.nd) (gss_one (gs_expr (g_mt F.slot_list_append F.type_list_append m_append (g_var 4) (ga_cons (g_ifExp (gt_cmp (o_ne hr.units) (g_var 3) (g_var 5)) (g_call h__law_weight hr hgd (Nat.le_refl _) (by rfl) (ga_cons (g_var 0) (ga_nil))) (g_tup (ga_cons (g_int) (ga_cons (g_int) (ga_nil))))) (ga_nil))))))
    (gss_one (gs_expr (g_mt F.slot_list_append F.type_list_append m_append (g_var 2) (ga_cons (g_callTy c_tuple (by rfl) B.tuple bt_tuple (ga_cons (g_var 4) (ga_nil))) (ga_nil))))))))
    (gss_one (gs_ret (g_tup (ga_cons (g_callTy c_tuple (by rfl) B.tuple bt_tuple (ga_cons (g_var 2) (ga_nil))) (ga_cons (g_call h__law_marks hr hgd (Nat.le_refl _) (by rfl) (ga_cons (g_var 0) (ga_cons (g_var 1) (ga_nil)))) (ga_nil)))))))
abbrev s__law_over : Stmt := topS 48
abbrev N__law_over : List Str := ["x", "y"]
theorem sc__law_over : FnScope N__law_over ["x", "y"] (defScope s__law_over) := ⟨rfl, rfl, rfl, by decide +kernel, rfl, by decide +kernel, by decide +kernel⟩
theorem tm__law_over {γ__law_lean : OL} {f__law_lean : Addr} {fd__law_lean : FuncData} {f : Addr} {cdv : Value} {A : Around} {outer : List Env} {s : Shared} {H : Hp} (B : Blt mg) (h__law_lean : Has P w K mg base k "_law_lean" f__law_lean fd__law_lean ["top", "base"] γ__law_lean)
    (hr : Room k (A.deeper (envOfC "_law_over" (defScope s__law_over) s.heap.objs.size f cdv))) (hgd : (A.deeper (envOfC "_law_over" (defScope s__law_over) s.heap.objs.size f cdv)).guards = some []) :
    GSs (cxOf CX0 P w K mg base N__law_over "_law_over" (defScope s__law_over) f cdv A outer s H E0).nox (defBody s__law_over) (body__law_over γ__law_lean) := by
  exact gss_one (gs_ret (g_call h__law_lean hr hgd (Nat.le_refl _) (by rfl) (ga_cons (g_bin o_mul (g_ix o_ix (g_var 0) (g_int)) (g_ix o_ix (g_var 1) (g_int))) (ga_cons (g_bin o_mul (g_ix o_ix (g_var 0) (g_int)) (g_ix o_ix (g_var 1) (g_int))) (ga_nil)))))
abbrev s__law_scaled_net : Stmt := topS 53
abbrev N__law_scaled_net : List Str := ["well", "few", "is_even", "at", "scales", "rows", "to", "tie", "row"]
theorem sc__law_scaled_net : FnScope N__law_scaled_net ["well", "few"] (defScope s__law_scaled_net) := ⟨rfl, rfl, rfl, by decide +kernel, rfl, by decide +kernel, by decide +kernel⟩
theorem tm__law_scaled_net {γ__law_draw : OL} {γ__law_one : OL} {γ__law_weight : OL} {γ__law_over : OL} {γ__law_marks : OL} {f__law_draw f__law_one f__law_weight f__law_over f__law_marks : Addr} {fd__law_draw fd__law_one fd__law_weight fd__law_over fd__law_marks : FuncData} {f : Addr} {cdv : Value} {A : Around} {outer : List Env} {s : Shared} {H : Hp} (B : Blt mg) (h__law_draw : Has P w K mg base k "_law_draw" f__law_draw fd__law_draw ["well", "few"] γ__law_draw) (h__law_one : Has P w K mg base k "_law_one" f__law_one fd__law_one ["well", "some"] γ__law_one) (h__law_weight : Has P w K mg base k "_law_weight" f__law_weight fd__law_weight ["well"] γ__law_weight) (h__law_over : Has P w K mg base k "_law_over" f__law_over fd__law_over ["x", "y"] γ__law_over) (h__law_marks : Has P w K mg base k "_law_marks" f__law_marks fd__law_marks ["well", "few"] γ__law_marks)
    (hr : Room k (A.deeper (envOfC "_law_scaled_net" (defScope s__law_scaled_net) s.heap.objs.size f cdv))) (hgd : (A.deeper (envOfC "_law_scaled_net" (defScope s__law_scaled_net) s.heap.objs.size f cdv)).guards = some []) :
    GSs (cxOf CX0 P w K mg base N__law_scaled_net "_law_scaled_net" (defScope s__law_scaled_net) f cdv A outer s H E0).nox (defBody s__law_scaled_net) (body__law_scaled_net γ__law_draw γ__law_one γ__law_weight γ__law_over γ__law_marks) := by
  exact gss_cons (gs_par 4 5 rfl sc__law_scaled_net.nd (ga_cons (g_lstM (ga_nil)) (ga_cons (g_lcM (own := [("at", 3)])  rfl sc__law_scaled_net.nd (gi_range1 (by rfl) B.range (ga_cons (g_var 1) (ga_nil))) (blkOk_by (own := [("at", 3)]) (N := N__law_scaled_net) (sc := defScope s__law_scaled_net) (by decide +kernel)) (fun _ _ _ _ _ => ggc_name 3 sc__law_scaled_net.nd) (fun _ _ _ _ _ => gts_nil) (fun _ _ _ _ _ => g_bin o_mulM (g_lst (ga_cons (g_tup (ga_cons (g_int) (ga_cons (g_int) (ga_nil)))) (ga_nil))) (g_var 1))) (ga_nil))))
    (gss_cons (gs_set 2 sc__law_scaled_net.nd (g_cmp (o_eq hr.units) (g_call h__law_draw hr hgd (Nat.le_refl _) (by rfl) (ga_cons (g_var 0) (ga_cons (g_int) (ga_nil)))) (g_int)))
    (gss_cons (gs_for PassesOwn.never rfl (gi_range1 (by rfl) B.range (ga_cons (g_var 1) (ga_nil))) (gg_name 3 sc__law_scaled_net.nd) (gss_one (gs_expr (g_mt F.slot_list_append F.type_list_append m_append (g_var 4) (ga_cons (g_ifExp (gt_val (g_var 2)) (g_tup (ga_cons (g_int) (ga_cons (g_int) (ga_nil)))) (g_call h__law_one hr hgd (Nat.le_refl _) (by rfl) (ga_cons (g_var 0) (ga_cons (g_tup (ga_cons (g_tup (ga_cons (g_int) (ga_cons (g_int) (ga_nil)))) (ga_cons (g_tup (ga_cons (g_int) (ga_cons (g_int) (ga_nil)))) (ga_cons (g_tup (ga_cons (g_int) (ga_cons (g_int) (ga_nil)))) (ga_cons (g_tup (ga_cons (g_int) (ga_cons (g_int) (ga_nil)))) (ga_cons (g_tup (ga_cons (g_int) (ga_cons (g_int) (ga_nil)))) (ga_nil))))))) (ga_nil))))) (ga_nil))))))
    (gss_cons (gs_for PassesOwn.never rfl (gi_range1 (by rfl) B.range (ga_cons (g_var 1) (ga_nil))) (gg_name 3 sc__law_scaled_net.nd) (gss_one (gs_for PassesOwn.never rfl (gi_range1 (by rfl) B.range (ga_cons (g_var 3) (ga_nil))) (gg_name 6 sc__law_scaled_net.nd) (gss_cons (gs_set 7 sc__law_scaled_net.nd (g_call h__law_weight hr hgd (Nat.le_refl _) (by rfl) (ga_cons (g_var 0) (ga_nil))))
    (gss_cons (gs_asg (g_call h__law_over hr hgd (Nat.le_refl _) (by rfl) (ga_cons (g_var 7) (ga_cons (g_ix o_ix (g_var 4) (g_var 3)) (ga_nil)))) (gg_sub (g_ix o_ix (g_var 5) (g_var 3)) (g_var 6) o_set))
    (gss_one (gs_asg (g_call h__law_over hr hgd (Nat.le_refl _) (by rfl) (ga_cons (g_var 7) (ga_cons (g_ix o_ix (g_var 4) (g_var 6)) (ga_nil)))) (gg_sub (g_ix o_ix (g_var 5) (g_var 6)) (g_var 3) o_set))))))))
    (gss_one (gs_ret (g_tup (ga_cons (g_tup (ga_cons (g_callTy c_tuple (by rfl) B.tuple bt_tuple (ga_cons (g_lc (own := [("row", 8)])  rfl sc__law_scaled_net.nd (gi_seq (g_var 5)) (blkOk_by (own := [("row", 8)]) (N := N__law_scaled_net) (sc := defScope s__law_scaled_net) (by decide +kernel)) (fun _ _ _ _ _ => ggc_name 8 sc__law_scaled_net.nd) (fun _ _ _ _ _ => gts_nil) (fun _ _ _ _ _ => g_callTy c_tuple (by rfl) B.tuple bt_tuple (ga_cons (g_var 8) (ga_nil)))) (ga_nil))) (ga_cons (g_call h__law_marks hr hgd (Nat.le_refl _) (by rfl) (ga_cons (g_var 0) (ga_cons (g_var 1) (ga_nil)))) (ga_nil)))) (ga_cons (g_callTy c_tuple (by rfl) B.tuple bt_tuple (ga_cons (g_var 4) (ga_nil))) (ga_nil)))))))))
abbrev s__law_net : Stmt := topS 55
abbrev N__law_net : List Str := ["well", "few", "way"]
theorem sc__law_net : FnScope N__law_net ["well", "few"] (defScope s__law_net) := ⟨rfl, rfl, rfl, by decide +kernel, rfl, by decide +kernel, by decide +kernel⟩
theorem tm__law_net {γ__law_draw : OL} {γ__law_wheel : OL} {γ__law_any_net : OL} {γ__law_scaled_net : OL} {f__law_draw f__law_wheel f__law_any_net f__law_scaled_net : Addr} {fd__law_draw fd__law_wheel fd__law_any_net fd__law_scaled_net : FuncData} {f : Addr} {cdv : Value} {A : Around} {outer : List Env} {s : Shared} {H : Hp} (B : Blt mg) (h__law_draw : Has P w K mg base k "_law_draw" f__law_draw fd__law_draw ["well", "few"] γ__law_draw) (h__law_wheel : Has P w K mg base k "_law_wheel" f__law_wheel fd__law_wheel ["well", "few"] γ__law_wheel) (h__law_any_net : Has P w K mg base k "_law_any_net" f__law_any_net fd__law_any_net ["well", "few"] γ__law_any_net) (h__law_scaled_net : Has P w K mg base k "_law_scaled_net" f__law_scaled_net fd__law_scaled_net ["well", "few"] γ__law_scaled_net)
    (hr : Room k (A.deeper (envOfC "_law_net" (defScope s__law_net) s.heap.objs.size f cdv))) (hgd : (A.deeper (envOfC "_law_net" (defScope s__law_net) s.heap.objs.size f cdv)).guards = some []) :
    GSs (cxOf CX0 P w K mg base N__law_net "_law_net" (defScope s__law_net) f cdv A outer s H E0).nox (defBody s__law_net) (body__law_net γ__law_draw γ__law_wheel γ__law_any_net γ__law_scaled_net) := by
  exact gss_cons (gs_set 2 sc__law_net.nd (g_call h__law_draw hr hgd (Nat.le_refl _) (by rfl) (ga_cons (g_var 0) (ga_cons (g_int) (ga_nil)))))
    (gss_cons (gs_if (gt_cmp (o_eq hr.units) (g_var 2) (g_int)) (gss_one (gs_ret (g_call h__law_wheel hr hgd (Nat.le_refl _) (by rfl) (ga_cons (g_var 0) (ga_cons (g_var 1) (ga_nil)))))) (gss_nil))
    (gss_one (gs_ret (g_ifExp (gt_cmp o_lt (g_var 2) (g_int)) (g_call h__law_any_net hr hgd (Nat.le_refl _) (by rfl) (ga_cons (g_var 0) (ga_cons (g_var 1) (ga_nil)))) (g_ix o_ix (g_call h__law_scaled_net hr hgd (Nat.le_refl _) (by rfl) (ga_cons (g_var 0) (ga_cons (g_var 1) (ga_nil)))) (g_int))))))
abbrev s__law_below : Stmt := topS 49
abbrev N__law_below : List Str := ["x", "y"]
theorem sc__law_below : FnScope N__law_below ["x", "y"] (defScope s__law_below) := ⟨rfl, rfl, rfl, by decide +kernel, rfl, by decide +kernel, by decide +kernel⟩
theorem tm__law_below {f : Addr} {cdv : Value} {A : Around} {outer : List Env} {s : Shared} {H : Hp} (B : Blt mg)
    (hr : Room k (A.deeper (envOfC "_law_below" (defScope s__law_below) s.heap.objs.size f cdv))) (hgd : (A.deeper (envOfC "_law_below" (defScope s__law_below) s.heap.objs.size f cdv)).guards = some []) :
    GSs (cxOf CX0 P w K mg base N__law_below "_law_below" (defScope s__law_below) f cdv A outer s H E0).nox (defBody s__law_below) (body__law_below) := by
  exact gss_one (gs_ret (g_cmp o_lt (g_bin o_mul (g_ix o_ix (g_var 0) (g_int)) (g_ix o_ix (g_var 1) (g_int))) (g_bin o_mul (g_ix o_ix (g_var 1) (g_int)) (g_ix o_ix (g_var 0) (g_int)))))
abbrev s__law_plus : Stmt := topS 47
abbrev N__law_plus : List Str := ["x", "y"]
theorem sc__law_plus : FnScope N__law_plus ["x", "y"] (defScope s__law_plus) := ⟨rfl, rfl, rfl, by decide +kernel, rfl, by decide +kernel, by decide +kernel⟩
theorem tm__law_plus {γ__law_lean : OL} {f__law_lean : Addr} {fd__law_lean : FuncData} {f : Addr} {cdv : Value} {A : Around} {outer : List Env} {s : Shared} {H : Hp} (B : Blt mg) (h__law_lean : Has P w K mg base k "_law_lean" f__law_lean fd__law_lean ["top", "base"] γ__law_lean)
    (hr : Room k (A.deeper (envOfC "_law_plus" (defScope s__law_plus) s.heap.objs.size f cdv))) (hgd : (A.deeper (envOfC "_law_plus" (defScope s__law_plus) s.heap.objs.size f cdv)).guards = some []) :
    GSs (cxOf CX0 P w K mg base N__law_plus "_law_plus" (defScope s__law_plus) f cdv A outer s H E0).nox (defBody s__law_plus) (body__law_plus γ__law_lean) := by
  exact gss_one (gs_ret (g_call h__law_lean hr hgd (Nat.le_refl _) (by rfl) (ga_cons (g_bin o_add (g_bin o_mul (g_ix o_ix (g_var 0) (g_int)) (g_ix o_ix (g_var 1) (g_int))) (g_bin o_mul (g_ix o_ix (g_var 1) (g_int)) (g_ix o_ix (g_var 0) (g_int)))) (ga_cons (g_bin o_mul (g_ix o_ix (g_var 0) (g_int)) (g_ix o_ix (g_var 1) (g_int))) (ga_nil)))))
abbrev s__law_heard : Stmt := topS 58
abbrev N__law_heard : List Str := ["net", "cell", "number", "found", "at", "weight"]
theorem sc__law_heard : FnScope N__law_heard ["net", "cell", "number"] (defScope s__law_heard) := ⟨rfl, rfl, rfl, by decide +kernel, rfl, by decide +kernel, by decide +kernel⟩
theorem tm__law_heard {γ__law_plus : OL} {f__law_plus : Addr} {fd__law_plus : FuncData} {f : Addr} {cdv : Value} {A : Around} {outer : List Env} {s : Shared} {H : Hp} (B : Blt mg) (h__law_plus : Has P w K mg base k "_law_plus" f__law_plus fd__law_plus ["x", "y"] γ__law_plus)
    (hr : Room k (A.deeper (envOfC "_law_heard" (defScope s__law_heard) s.heap.objs.size f cdv))) (hgd : (A.deeper (envOfC "_law_heard" (defScope s__law_heard) s.heap.objs.size f cdv)).guards = some []) :
    GSs (cxOf CX0 P w K mg base N__law_heard "_law_heard" (defScope s__law_heard) f cdv A outer s H E0).nox (defBody s__law_heard) (body__law_heard γ__law_plus) := by
  exact gss_cons (gs_set 3 sc__law_heard.nd (g_tup (ga_cons (g_int) (ga_cons (g_int) (ga_nil)))))
    (gss_cons (gs_for PassesOwn.never rfl (gi_enum (by rfl) B.enumerate (ga_cons (g_ix o_ix (g_ix o_ix (g_var 0) (g_int)) (g_var 1)) (ga_nil))) (gg_tup rfl (ggs_cons (gg_name 4 sc__law_heard.nd) (ggs_cons (gg_name 5 sc__law_heard.nd) (ggs_nil)))) (gss_one (gs_if (gt_cmp (o_eq hr.units) (g_bin o_mod (g_callTy c_int (by rfl) B.int bt_int (ga_cons (g_bin o_shr (g_var 2) (g_var 4)) (ga_nil))) (g_int)) (g_int)) (gss_one (gs_set 3 sc__law_heard.nd (g_call h__law_plus hr hgd (Nat.le_refl _) (by rfl) (ga_cons (g_var 3) (ga_cons (g_var 5) (ga_nil)))))) (gss_nil))))
    (gss_one (gs_ret (g_var 3))))
abbrev s__law_wishes : Stmt := topS 59
abbrev N__law_wishes : List Str := ["net", "number", "few", "found", "ons", "at"]
theorem sc__law_wishes : FnScope N__law_wishes ["net"] (defScope s__law_wishes) := ⟨rfl, rfl, rfl, by decide +kernel, rfl, by decide +kernel, by decide +kernel⟩
theorem tm__law_wishes {γ__law_below : OL} {γ__law_heard : OL} {f__law_below f__law_heard : Addr} {fd__law_below fd__law_heard : FuncData} {f : Addr} {cdv : Value} {A : Around} {outer : List Env} {s : Shared} {H : Hp} (B : Blt mg) (h__law_below : Has P w K mg base k "_law_below" f__law_below fd__law_below ["x", "y"] γ__law_below) (h__law_heard : Has P w K mg base k "_law_heard" f__law_heard fd__law_heard ["net", "cell", "number"] γ__law_heard)
    (hr : Room k (A.deeper (envOfC "_law_wishes" (defScope s__law_wishes) s.heap.objs.size f cdv))) (hgd : (A.deeper (envOfC "_law_wishes" (defScope s__law_wishes) s.heap.objs.size f cdv)).guards = some []) :
    GSs (cxOf CX0 P w K mg base N__law_wishes "_law_wishes" (defScope s__law_wishes) f cdv A outer s H E0).nox (defBody s__law_wishes) (body__law_wishes γ__law_below γ__law_heard) := by
  exact gss_cons (gs_par 2 3 rfl sc__law_wishes.nd (ga_cons (g_callB c_len (by rfl) B.len bt_len (ga_cons (g_ix o_ix (g_var 0) (g_int)) (ga_nil))) (ga_cons (g_lstM (ga_nil)) (ga_nil))))
    (gss_cons (gs_for PassesOwn.never rfl (gi_range1 (by rfl) B.range (ga_cons (g_bin o_shl (g_int) (g_var 2)) (ga_nil))) (gg_name 1 sc__law_wishes.nd) (gss_cons (gs_setLc 4 (own := [("at", 5)])  rfl sc__law_wishes.nd (sw_true rfl rfl rfl (by decide +kernel)) (gi_range1 (by rfl) B.range (ga_cons (g_var 2) (ga_nil))) (blkOk_by (own := [("at", 5)]) (N := N__law_wishes) (sc := defScope s__law_wishes) (by decide +kernel)) (fun _ _ _ _ _ => ggc_name 5 sc__law_wishes.nd) (fun _ _ _ _ _ => gts_one (gt_val (g_call h__law_below hr hgd (Nat.le_refl _) (by rfl) (ga_cons (g_ix o_ix (g_ix o_ix (g_var 0) (g_int)) (g_var 5)) (ga_cons (g_call h__law_heard hr hgd (Nat.le_refl _) (by rfl) (ga_cons (g_var 0) (ga_cons (g_var 5) (ga_cons (g_var 1) (ga_nil))))) (ga_nil)))))) (fun _ _ _ _ _ => g_bin o_shl (g_int) (g_var 5)))
    (gss_one (gs_expr (g_mt F.slot_list_append F.type_list_append m_append (g_var 3) (ga_cons (g_callB (c_sum rfl) (by rfl) B.sum bt_sum (ga_cons (g_var 4) (ga_nil))) (ga_nil)))))))
    (gss_one (gs_ret (g_var 3))))
abbrev s__law_tail : Stmt := topS 60
abbrev N__law_tail : List Str := ["steps", "number", "row", "turn", "then", "spot"]
theorem sc__law_tail : FnScope N__law_tail ["steps", "number"] (defScope s__law_tail) := ⟨rfl, rfl, rfl, by decide +kernel, rfl, by decide +kernel, by decide +kernel⟩
theorem tm__law_tail {f : Addr} {cdv : Value} {A : Around} {outer : List Env} {s : Shared} {H : Hp} (B : Blt mg)
    (hr : Room k (A.deeper (envOfC "_law_tail" (defScope s__law_tail) s.heap.objs.size f cdv))) (hgd : (A.deeper (envOfC "_law_tail" (defScope s__law_tail) s.heap.objs.size f cdv)).guards = some []) :
    GSs (cxOf CX0 P w K mg base N__law_tail "_law_tail" (defScope s__law_tail) f cdv A outer s H E0).nox (defBody s__law_tail) (body__law_tail) := by
  exact gss_cons (gs_set 2 sc__law_tail.nd (g_lstM (ga_cons (g_var 1) (ga_nil))))
    (gss_cons (gs_for PassesOwn.never rfl (gi_range1 (by rfl) B.range (ga_cons (g_bin o_add (g_callB c_len (by rfl) B.len bt_len (ga_cons (g_var 0) (ga_nil))) (g_int)) (ga_nil))) (gg_name 3 sc__law_tail.nd) (gss_cons (gs_set 4 sc__law_tail.nd (g_ix o_ix (g_var 0) (g_ix o_ix (g_var 2) (g_un o_neg (g_int)))))
    (gss_cons (gs_if (gt_cmp (o_in (Room_units65 hr)) (g_var 4) (g_var 2)) (gss_cons (gs_set 5 sc__law_tail.nd (g_mt F.slot_list_index F.type_list_index (m_index (Room_units65 hr)) (g_var 2) (ga_cons (g_var 4) (ga_nil))))
    (gss_one (gs_ret (g_tup (ga_cons (g_slice (g_var 2) (go_none) (go_some (g_var 5))) (ga_cons (g_slice (g_var 2) (go_some (g_var 5)) (go_none)) (ga_nil))))))) (gss_nil))
    (gss_one (gs_expr (g_mt F.slot_list_append F.type_list_append m_append (g_var 2) (ga_cons (g_var 4) (ga_nil))))))))
    (gss_one (gs_ret (g_tup (ga_cons (g_var 2) (ga_cons (g_lst (ga_nil)) (ga_nil)))))))
abbrev s__law_all_rings : Stmt := topS 61
abbrev N__law_all_rings : List Str := ["steps", "found", "number", "ring", "spot"]
theorem sc__law_all_rings : FnScope N__law_all_rings ["steps"] (defScope s__law_all_rings) := ⟨rfl, rfl, rfl, by decide +kernel, rfl, by decide +kernel, by decide +kernel⟩
theorem tm__law_all_rings {γ__law_tail : OL} {f__law_tail : Addr} {fd__law_tail : FuncData} {f : Addr} {cdv : Value} {A : Around} {outer : List Env} {s : Shared} {H : Hp} (B : Blt mg) (h__law_tail : Has P w K mg base k "_law_tail" f__law_tail fd__law_tail ["steps", "number"] γ__law_tail)
    (hr : Room k (A.deeper (envOfC "_law_all_rings" (defScope s__law_all_rings) s.heap.objs.size f cdv))) (hgd : (A.deeper (envOfC "_law_all_rings" (defScope s__law_all_rings) s.heap.objs.size f cdv)).guards = some []) :
    GSs (cxOf CX0 P w K mg base N__law_all_rings "_law_all_rings" (defScope s__law_all_rings) f cdv A outer s H E0).nox (defBody s__law_all_rings) (body__law_all_rings γ__law_tail) := by
  exact gss_cons (gs_set 1 sc__law_all_rings.nd (g_lstM (ga_nil)))
    (gss_cons (gs_for PassesOwn.never rfl (gi_range1 (by rfl) B.range (ga_cons (g_callB c_len (by rfl) B.len bt_len (ga_cons (g_var 0) (ga_nil))) (ga_nil))) (gg_name 2 sc__law_all_rings.nd) (gss_cons (gs_set 3 sc__law_all_rings.nd (g_ix o_ix (g_call h__law_tail hr hgd (Nat.le_refl _) (by rfl) (ga_cons (g_var 0) (ga_cons (g_var 2) (ga_nil)))) (g_int)))
    (gss_cons (gs_set 4 sc__law_all_rings.nd (g_mt F.slot_list_index F.type_list_index (m_index (Room_units65 hr)) (g_var 3) (ga_cons (g_callB (c_minL rfl) (by rfl) B.min bt_min (ga_cons (g_var 3) (ga_nil))) (ga_nil))))
    (gss_one (gs_if (gt_cmp (o_nin (Room_units65 hr)) (g_bin o_add (g_slice (g_var 3) (go_some (g_var 4)) (go_none)) (g_slice (g_var 3) (go_none) (go_some (g_var 4)))) (g_var 1)) (gss_one (gs_expr (g_mt F.slot_list_append F.type_list_append m_append (g_var 1) (ga_cons (g_bin o_add (g_slice (g_var 3) (go_some (g_var 4)) (go_none)) (g_slice (g_var 3) (go_none) (go_some (g_var 4)))) (ga_nil))))) (gss_nil))))))
    (gss_one (gs_ret (g_callB (c_sortedR (Room_units65 hr)) (by rfl) B.sorted bt_sorted (ga_cons (g_var 1) (ga_nil))))))
abbrev s__law_as_state : Stmt := topS 56
abbrev N__law_as_state : List Str := ["number", "few", "at"]
theorem sc__law_as_state : FnScope N__law_as_state ["number", "few"] (defScope s__law_as_state) := ⟨rfl, rfl, rfl, by decide +kernel, rfl, by decide +kernel, by decide +kernel⟩
theorem tm__law_as_state {f : Addr} {cdv : Value} {A : Around} {outer : List Env} {s : Shared} {H : Hp} (B : Blt mg)
    (hr : Room k (A.deeper (envOfC "_law_as_state" (defScope s__law_as_state) s.heap.objs.size f cdv))) (hgd : (A.deeper (envOfC "_law_as_state" (defScope s__law_as_state) s.heap.objs.size f cdv)).guards = some []) :
    GSs (cxOf CX0 P w K mg base N__law_as_state "_law_as_state" (defScope s__law_as_state) f cdv A outer s H E0).nox (defBody s__law_as_state) (body__law_as_state) := by
  exact gss_one (gs_ret (g_callTy c_tuple (by rfl) B.tuple bt_tuple (ga_cons (g_lc (own := [("at", 2)])  rfl sc__law_as_state.nd (gi_range1 (by rfl) B.range (ga_cons (g_var 1) (ga_nil))) (blkOk_by (own := [("at", 2)]) (N := N__law_as_state) (sc := defScope s__law_as_state) (by decide +kernel)) (fun _ _ _ _ _ => ggc_name 2 sc__law_as_state.nd) (fun _ _ _ _ _ => gts_nil) (fun _ _ _ _ _ => g_bin o_mod (g_callTy c_int (by rfl) B.int bt_int (ga_cons (g_bin o_shr (g_var 0) (g_var 2)) (ga_nil))) (g_int))) (ga_nil))))
abbrev s__law_as_states : Stmt := topS 57
abbrev N__law_as_states : List Str := ["numbers", "few", "number"]
theorem sc__law_as_states : FnScope N__law_as_states ["numbers", "few"] (defScope s__law_as_states) := ⟨rfl, rfl, rfl, by decide +kernel, rfl, by decide +kernel, by decide +kernel⟩
theorem tm__law_as_states {γ__law_as_state : OL} {f__law_as_state : Addr} {fd__law_as_state : FuncData} {f : Addr} {cdv : Value} {A : Around} {outer : List Env} {s : Shared} {H : Hp} (B : Blt mg) (h__law_as_state : Has P w K mg base k "_law_as_state" f__law_as_state fd__law_as_state ["number", "few"] γ__law_as_state)
    (hr : Room k (A.deeper (envOfC "_law_as_states" (defScope s__law_as_states) s.heap.objs.size f cdv))) (hgd : (A.deeper (envOfC "_law_as_states" (defScope s__law_as_states) s.heap.objs.size f cdv)).guards = some []) :
    GSs (cxOf CX0 P w K mg base N__law_as_states "_law_as_states" (defScope s__law_as_states) f cdv A outer s H E0).nox (defBody s__law_as_states) (body__law_as_states γ__law_as_state) := by
  exact gss_one (gs_ret (g_callTy c_tuple (by rfl) B.tuple bt_tuple (ga_cons (g_lc (own := [("number", 2)])  rfl sc__law_as_states.nd (gi_seq (g_var 0)) (blkOk_by (own := [("number", 2)]) (N := N__law_as_states) (sc := defScope s__law_as_states) (by decide +kernel)) (fun _ _ _ _ _ => ggc_name 2 sc__law_as_states.nd) (fun _ _ _ _ _ => gts_nil) (fun _ _ _ _ _ => g_call h__law_as_state hr hgd (Nat.le_refl _) (by rfl) (ga_cons (g_var 2) (ga_cons (g_var 1) (ga_nil))))) (ga_nil))))
abbrev s_is_tuple_of : Stmt := topS 8
abbrev N_is_tuple_of : List Str := ["value", "many"]
theorem sc_is_tuple_of : FnScope N_is_tuple_of ["value", "many"] (defScope s_is_tuple_of) := ⟨rfl, rfl, rfl, by decide +kernel, rfl, by decide +kernel, by decide +kernel⟩
theorem tm_is_tuple_of {f : Addr} {cdv : Value} {A : Around} {outer : List Env} {s : Shared} {H : Hp} (B : Blt mg)
    (hr : Room k (A.deeper (envOfC "is_tuple_of" (defScope s_is_tuple_of) s.heap.objs.size f cdv))) (hgd : (A.deeper (envOfC "is_tuple_of" (defScope s_is_tuple_of) s.heap.objs.size f cdv)).guards = some []) :
    GSs (cxOf CX0 P w K mg base N_is_tuple_of "is_tuple_of" (defScope s_is_tuple_of) f cdv A outer s H E0).nox (defBody s_is_tuple_of) (body_is_tuple_of) := by
  exact gss_one (gs_ret (g_and (g_callB c_isi (by rfl) B.isinstance bt_isinstance (ga_cons (g_var 0) (ga_cons (g_bltn (d := .ty "tuple") (v := .ty "tuple") (by rfl) B.tuple bt_tuple rfl (fun _ _ => rfl)) (ga_nil)))) (g_one (g_cmp (o_eq hr.units) (g_callB c_len (by rfl) B.len bt_len (ga_cons (g_var 0) (ga_nil))) (g_var 1)))))
abbrev s_is_whole : Stmt := topS 6
abbrev N_is_whole : List Str := ["value"]
theorem sc_is_whole : FnScope N_is_whole ["value"] (defScope s_is_whole) := ⟨rfl, rfl, rfl, by decide +kernel, rfl, by decide +kernel, by decide +kernel⟩
theorem tm_is_whole {f : Addr} {cdv : Value} {A : Around} {outer : List Env} {s : Shared} {H : Hp} (B : Blt mg)
    (hr : Room k (A.deeper (envOfC "is_whole" (defScope s_is_whole) s.heap.objs.size f cdv))) (hgd : (A.deeper (envOfC "is_whole" (defScope s_is_whole) s.heap.objs.size f cdv)).guards = some []) :
    GSs (cxOf CX0 P w K mg base N_is_whole "is_whole" (defScope s_is_whole) f cdv A outer s H E0).nox (defBody s_is_whole) (body_is_whole) := by
  exact gss_one (gs_ret (g_and (g_callB c_isi (by rfl) B.isinstance bt_isinstance (ga_cons (g_var 0) (ga_cons (g_bltn (d := .ty "int") (v := .ty "int") (by rfl) B.int bt_int rfl (fun _ _ => rfl)) (ga_nil)))) (g_one (g_not (g_callB c_isi (by rfl) B.isinstance bt_isinstance (ga_cons (g_var 0) (ga_cons (g_bltn (d := .ty "bool") (v := .ty "bool") (by rfl) B.bool bt_bool rfl (fun _ _ => rfl)) (ga_nil))))))))
abbrev s_is_ratio : Stmt := topS 11
abbrev N_is_ratio : List Str := ["value"]
theorem sc_is_ratio : FnScope N_is_ratio ["value"] (defScope s_is_ratio) := ⟨rfl, rfl, rfl, by decide +kernel, rfl, by decide +kernel, by decide +kernel⟩
theorem tm_is_ratio {γ_is_tuple_of : OL} {γ_is_whole : OL} {f_is_tuple_of f_is_whole : Addr} {fd_is_tuple_of fd_is_whole : FuncData} {f : Addr} {cdv : Value} {A : Around} {outer : List Env} {s : Shared} {H : Hp} (B : Blt mg) (h_is_tuple_of : Has P w K mg base k "is_tuple_of" f_is_tuple_of fd_is_tuple_of ["value", "many"] γ_is_tuple_of) (h_is_whole : Has P w K mg base k "is_whole" f_is_whole fd_is_whole ["value"] γ_is_whole) (m_gcd : mg "gcd" = some (.builtin "math.gcd"))
    (hr : Room k (A.deeper (envOfC "is_ratio" (defScope s_is_ratio) s.heap.objs.size f cdv))) (hgd : (A.deeper (envOfC "is_ratio" (defScope s_is_ratio) s.heap.objs.size f cdv)).guards = some []) :
    GSs (cxOf CX0 P w K mg base N_is_ratio "is_ratio" (defScope s_is_ratio) f cdv A outer s H E0).nox (defBody s_is_ratio) (body_is_ratio γ_is_tuple_of γ_is_whole) := by
  exact gss_cons (gs_if (gw_pt (gw_or (gt_not (gt_val (g_call h_is_tuple_of hr hgd (Nat.le_refl _) (by rfl) (ga_cons (g_var 0) (ga_cons (g_int) (ga_nil)))))) (gw_or (gt_not (gt_val (g_call h_is_whole hr hgd (Nat.le_refl _) (by rfl) (ga_cons (g_ix o_ix (g_var 0) (g_int)) (ga_nil))))) (gw_or1 (gt_not (gt_val (g_call h_is_whole hr hgd (Nat.le_refl _) (by rfl) (ga_cons (g_ix o_ix (g_var 0) (g_int)) (ga_nil))))))))) (gss_one (gs_ret (g_bl))) (gss_nil))
    (gss_one (gs_ret (g_and (g_cmp o_gt (g_ix o_ix (g_var 0) (g_int)) (g_int)) (g_one (g_cmp (o_eq hr.units) (g_callBfun c_gcd (by rfl) m_gcd (ga_cons (g_ix o_ix (g_var 0) (g_int)) (ga_cons (g_ix o_ix (g_var 0) (g_int)) (ga_nil)))) (g_int))))))
abbrev s_is_row : Stmt := topS 16
abbrev N_is_row : List Str := ["value", "many", "each"]
theorem sc_is_row : FnScope N_is_row ["value", "many"] (defScope s_is_row) := ⟨rfl, rfl, rfl, by decide +kernel, rfl, by decide +kernel, by decide +kernel⟩
theorem tm_is_row {γ_is_tuple_of : OL} {γ_is_ratio : OL} {f_is_tuple_of f_is_ratio : Addr} {fd_is_tuple_of fd_is_ratio : FuncData} {f : Addr} {cdv : Value} {A : Around} {outer : List Env} {s : Shared} {H : Hp} (B : Blt mg) (h_is_tuple_of : Has P w K mg base k "is_tuple_of" f_is_tuple_of fd_is_tuple_of ["value", "many"] γ_is_tuple_of) (h_is_ratio : Has P w K mg base k "is_ratio" f_is_ratio fd_is_ratio ["value"] γ_is_ratio)
    (hr : Room k (A.deeper (envOfC "is_row" (defScope s_is_row) s.heap.objs.size f cdv))) (hgd : (A.deeper (envOfC "is_row" (defScope s_is_row) s.heap.objs.size f cdv)).guards = some []) :
    GSs (cxOf CX0 P w K mg base N_is_row "is_row" (defScope s_is_row) f cdv A outer s H E0).nox (defBody s_is_row) (body_is_row γ_is_tuple_of γ_is_ratio) := by
  exact gss_one (gs_ret (g_and (g_call h_is_tuple_of hr hgd (Nat.le_refl _) (by rfl) (ga_cons (g_var 0) (ga_cons (g_var 1) (ga_nil)))) (g_one (g_callB (c_all rfl) (by rfl) B.all bt_all (ga_cons (g_lc (own := [("each", 2)])  rfl sc_is_row.nd (gi_seq (g_var 0)) (blkOk_by (own := [("each", 2)]) (N := N_is_row) (sc := defScope s_is_row) (by decide +kernel)) (fun _ _ _ _ _ => ggc_name 2 sc_is_row.nd) (fun _ _ _ _ _ => gts_nil) (fun _ _ _ _ _ => g_call h_is_ratio hr hgd (Nat.le_refl _) (by rfl) (ga_cons (g_var 2) (ga_nil)))) (ga_nil))))))
abbrev s_is_net_by : Stmt := topS 19
abbrev N_is_net_by : List Str := ["value", "many", "cell", "row"]
theorem sc_is_net_by : FnScope N_is_net_by ["value"] (defScope s_is_net_by) := ⟨rfl, rfl, rfl, by decide +kernel, rfl, by decide +kernel, by decide +kernel⟩
theorem tm_is_net_by {γ_is_tuple_of : OL} {γ_is_row : OL} {f_is_tuple_of f_is_row : Addr} {fd_is_tuple_of fd_is_row : FuncData} {d_MOST_CELLS d_ZERO : D} {f : Addr} {cdv : Value} {A : Around} {outer : List Env} {s : Shared} {H : Hp} (B : Blt mg) (h_is_tuple_of : Has P w K mg base k "is_tuple_of" f_is_tuple_of fd_is_tuple_of ["value", "many"] γ_is_tuple_of) (c_MOST_CELLS : Cst K mg "MOST_CELLS" d_MOST_CELLS) (h_is_row : Has P w K mg base k "is_row" f_is_row fd_is_row ["value", "many"] γ_is_row) (c_ZERO : Cst K mg "ZERO" d_ZERO)
    (hr : Room k (A.deeper (envOfC "is_net_by" (defScope s_is_net_by) s.heap.objs.size f cdv))) (hgd : (A.deeper (envOfC "is_net_by" (defScope s_is_net_by) s.heap.objs.size f cdv)).guards = some []) :
    GSs (cxOf CX0 P w K mg base N_is_net_by "is_net_by" (defScope s_is_net_by) f cdv A outer s H E0).nox (defBody s_is_net_by) (body_is_net_by γ_is_tuple_of γ_is_row d_MOST_CELLS d_ZERO) := by
  exact gss_cons (gs_if (gw_pt (gw_or (gt_not (gt_val (g_call h_is_tuple_of hr hgd (Nat.le_refl _) (by rfl) (ga_cons (g_var 0) (ga_cons (g_int) (ga_nil)))))) (gw_or (gt_not (gt_val (g_callB c_isi (by rfl) B.isinstance bt_isinstance (ga_cons (g_ix o_ix (g_var 0) (g_int)) (ga_cons (g_bltn (d := .ty "tuple") (v := .ty "tuple") (by rfl) B.tuple bt_tuple rfl (fun _ _ => rfl)) (ga_nil)))))) (gw_or1 (gt_not (gt_chain o_le o_le (g_int) (g_callB c_len (by rfl) B.len bt_len (ga_cons (g_ix o_ix (g_var 0) (g_int)) (ga_nil))) (g_cst c_MOST_CELLS (by rfl)))))))) (gss_one (gs_ret (g_bl))) (gss_nil))
    (gss_cons (gs_set 1 sc_is_net_by.nd (g_callB c_len (by rfl) B.len bt_len (ga_cons (g_ix o_ix (g_var 0) (g_int)) (ga_nil))))
    (gss_cons (gs_if (gw_pt (gw_or (gt_not (gt_val (g_callB (c_all rfl) (by rfl) B.all bt_all (ga_cons (g_lc (own := [("row", 3)])  rfl sc_is_net_by.nd (gi_seq (g_ix o_ix (g_var 0) (g_int))) (blkOk_by (own := [("row", 3)]) (N := N_is_net_by) (sc := defScope s_is_net_by) (by decide +kernel)) (fun _ _ _ _ _ => ggc_name 3 sc_is_net_by.nd) (fun _ _ _ _ _ => gts_nil) (fun _ _ _ _ _ => g_call h_is_row hr hgd (Nat.le_refl _) (by rfl) (ga_cons (g_var 3) (ga_cons (g_var 1) (ga_nil))))) (ga_nil))))) (gw_or1 (gt_not (gt_val (g_call h_is_row hr hgd (Nat.le_refl _) (by rfl) (ga_cons (g_ix o_ix (g_var 0) (g_int)) (ga_cons (g_var 1) (ga_nil))))))))) (gss_one (gs_ret (g_bl))) (gss_nil))
    (gss_one (gs_ret (g_callB (c_all rfl) (by rfl) B.all bt_all (ga_cons (g_lc (own := [("cell", 2)])  rfl sc_is_net_by.nd (gi_range1 (by rfl) B.range (ga_cons (g_var 1) (ga_nil))) (blkOk_by (own := [("cell", 2)]) (N := N_is_net_by) (sc := defScope s_is_net_by) (by decide +kernel)) (fun _ _ _ _ _ => ggc_name 2 sc_is_net_by.nd) (fun _ _ _ _ _ => gts_nil) (fun _ _ _ _ _ => g_cmp (o_eq hr.units) (g_ix o_ix (g_ix o_ix (g_ix o_ix (g_var 0) (g_int)) (g_var 2)) (g_var 2)) (g_cst c_ZERO (by rfl)))) (ga_nil)))))))
abbrev s_check_net : Stmt := topS 28
abbrev N_check_net : List Str := ["value"]
theorem sc_check_net : FnScope N_check_net ["value"] (defScope s_check_net) := ⟨rfl, rfl, rfl, by decide +kernel, rfl, by decide +kernel, by decide +kernel⟩
theorem tm_check_net {γ_is_net_by : OL} {f_is_net_by : Addr} {fd_is_net_by : FuncData} {f : Addr} {cdv : Value} {A : Around} {outer : List Env} {s : Shared} {H : Hp} (B : Blt mg) (h_is_net_by : Has P w K mg base k "is_net_by" f_is_net_by fd_is_net_by ["value"] γ_is_net_by)
    (hr : Room k (A.deeper (envOfC "check_net" (defScope s_check_net) s.heap.objs.size f cdv))) (hgd : (A.deeper (envOfC "check_net" (defScope s_check_net) s.heap.objs.size f cdv)).guards = some []) :
    GSs (cxOf CX0 P w K mg base N_check_net "check_net" (defScope s_check_net) f cdv A outer s H E0).nox (defBody s_check_net) (body_check_net γ_is_net_by) := by
  exact gss_one (gs_if (gt_not (gt_val (g_call h_is_net_by hr hgd (Nat.le_refl _) (by rfl) (ga_cons (g_var 0) (ga_nil))))) (gss_one (gs_never)) (gss_nil))
abbrev s_many_cells : Stmt := topS 20
abbrev N_many_cells : List Str := ["net"]
theorem sc_many_cells : FnScope N_many_cells ["net"] (defScope s_many_cells) := ⟨rfl, rfl, rfl, by decide +kernel, rfl, by decide +kernel, by decide +kernel⟩
theorem tm_many_cells {f : Addr} {cdv : Value} {A : Around} {outer : List Env} {s : Shared} {H : Hp} (B : Blt mg)
    (hr : Room k (A.deeper (envOfC "many_cells" (defScope s_many_cells) s.heap.objs.size f cdv))) (hgd : (A.deeper (envOfC "many_cells" (defScope s_many_cells) s.heap.objs.size f cdv)).guards = some []) :
    GSs (cxOf CX0 P w K mg base N_many_cells "many_cells" (defScope s_many_cells) f cdv A outer s H E0).nox (defBody s_many_cells) (body_many_cells) := by
  exact gss_one (gs_ret (g_callB c_len (by rfl) B.len bt_len (ga_cons (g_ix o_ix (g_var 0) (g_int)) (ga_nil))))
abbrev s_state_by : Stmt := topS 23
abbrev N_state_by : List Str := ["many", "number", "cell"]
theorem sc_state_by : FnScope N_state_by ["many", "number"] (defScope s_state_by) := ⟨rfl, rfl, rfl, by decide +kernel, rfl, by decide +kernel, by decide +kernel⟩
theorem tm_state_by {f : Addr} {cdv : Value} {A : Around} {outer : List Env} {s : Shared} {H : Hp} (B : Blt mg)
    (hr : Room k (A.deeper (envOfC "state_by" (defScope s_state_by) s.heap.objs.size f cdv))) (hgd : (A.deeper (envOfC "state_by" (defScope s_state_by) s.heap.objs.size f cdv)).guards = some []) :
    GSs (cxOf CX0 P w K mg base N_state_by "state_by" (defScope s_state_by) f cdv A outer s H E0).nox (defBody s_state_by) (body_state_by) := by
  exact gss_one (gs_ret (g_callTy c_tuple (by rfl) B.tuple bt_tuple (ga_cons (g_lc (own := [("cell", 2)])  rfl sc_state_by.nd (gi_range1 (by rfl) B.range (ga_cons (g_var 0) (ga_nil))) (blkOk_by (own := [("cell", 2)]) (N := N_state_by) (sc := defScope s_state_by) (by decide +kernel)) (fun _ _ _ _ _ => ggc_name 2 sc_state_by.nd) (fun _ _ _ _ _ => gts_nil) (fun _ _ _ _ _ => g_bin o_and (g_bin o_shr (g_var 1) (g_var 2)) (g_int))) (ga_nil))))
abbrev s_all_states : Stmt := topS 24
abbrev N_all_states : List Str := ["net", "number"]
theorem sc_all_states : FnScope N_all_states ["net"] (defScope s_all_states) := ⟨rfl, rfl, rfl, by decide +kernel, rfl, by decide +kernel, by decide +kernel⟩
theorem tm_all_states {γ_many_cells : OL} {γ_state_by : OL} {f_many_cells f_state_by : Addr} {fd_many_cells fd_state_by : FuncData} {f : Addr} {cdv : Value} {A : Around} {outer : List Env} {s : Shared} {H : Hp} (B : Blt mg) (h_many_cells : Has P w K mg base k "many_cells" f_many_cells fd_many_cells ["net"] γ_many_cells) (h_state_by : Has P w K mg base k "state_by" f_state_by fd_state_by ["many", "number"] γ_state_by)
    (hr : Room k (A.deeper (envOfC "all_states" (defScope s_all_states) s.heap.objs.size f cdv))) (hgd : (A.deeper (envOfC "all_states" (defScope s_all_states) s.heap.objs.size f cdv)).guards = some []) :
    GSs (cxOf CX0 P w K mg base N_all_states "all_states" (defScope s_all_states) f cdv A outer s H E0).nox (defBody s_all_states) (body_all_states γ_many_cells γ_state_by) := by
  exact gss_one (gs_ret (g_lc (own := [("number", 1)])  rfl sc_all_states.nd (gi_range1 (by rfl) B.range (ga_cons (g_bin o_shl (g_int) (g_call h_many_cells hr hgd (Nat.le_refl _) (by rfl) (ga_cons (g_var 0) (ga_nil)))) (ga_nil))) (blkOk_by (own := [("number", 1)]) (N := N_all_states) (sc := defScope s_all_states) (by decide +kernel)) (fun _ _ _ _ _ => ggc_name 1 sc_all_states.nd) (fun _ _ _ _ _ => gts_nil) (fun _ _ _ _ _ => g_call h_state_by hr hgd (Nat.le_refl _) (by rfl) (ga_cons (g_call h_many_cells hr hgd (Nat.le_refl _) (by rfl) (ga_cons (g_var 0) (ga_nil))) (ga_cons (g_var 1) (ga_nil))))))
abbrev s_number_by : Stmt := topS 22
abbrev N_number_by : List Str := ["state", "cell", "each"]
theorem sc_number_by : FnScope N_number_by ["state"] (defScope s_number_by) := ⟨rfl, rfl, rfl, by decide +kernel, rfl, by decide +kernel, by decide +kernel⟩
theorem tm_number_by {f : Addr} {cdv : Value} {A : Around} {outer : List Env} {s : Shared} {H : Hp} (B : Blt mg)
    (hr : Room k (A.deeper (envOfC "number_by" (defScope s_number_by) s.heap.objs.size f cdv))) (hgd : (A.deeper (envOfC "number_by" (defScope s_number_by) s.heap.objs.size f cdv)).guards = some []) :
    GSs (cxOf CX0 P w K mg base N_number_by "number_by" (defScope s_number_by) f cdv A outer s H E0).nox (defBody s_number_by) (body_number_by) := by
  exact gss_one (gs_ret (g_callB (c_sum rfl) (by rfl) B.sum bt_sum (ga_cons (g_lc (own := [("cell", 1), ("each", 2)])  rfl sc_number_by.nd (gi_enum (by rfl) B.enumerate (ga_cons (g_var 0) (ga_nil))) (blkOk_by (own := [("cell", 1), ("each", 2)]) (N := N_number_by) (sc := defScope s_number_by) (by decide +kernel)) (fun _ _ _ _ _ => ggc_tup rfl (ggcs_cons (ggc_name 1 sc_number_by.nd) (ggcs_cons (ggc_name 2 sc_number_by.nd) (ggcs_nil)))) (fun _ _ _ _ _ => gts_nil) (fun _ _ _ _ _ => g_bin o_shl (g_var 2) (g_var 1))) (ga_nil))))
abbrev s_is_less : Stmt := topS 14
abbrev N_is_less : List Str := ["one", "two"]
theorem sc_is_less : FnScope N_is_less ["one", "two"] (defScope s_is_less) := ⟨rfl, rfl, rfl, by decide +kernel, rfl, by decide +kernel, by decide +kernel⟩
theorem tm_is_less {f : Addr} {cdv : Value} {A : Around} {outer : List Env} {s : Shared} {H : Hp} (B : Blt mg)
    (hr : Room k (A.deeper (envOfC "is_less" (defScope s_is_less) s.heap.objs.size f cdv))) (hgd : (A.deeper (envOfC "is_less" (defScope s_is_less) s.heap.objs.size f cdv)).guards = some []) :
    GSs (cxOf CX0 P w K mg base N_is_less "is_less" (defScope s_is_less) f cdv A outer s H E0).nox (defBody s_is_less) (body_is_less) := by
  exact gss_one (gs_ret (g_cmp o_lt (g_bin o_mul (g_ix o_ix (g_var 0) (g_int)) (g_ix o_ix (g_var 1) (g_int))) (g_bin o_mul (g_ix o_ix (g_var 1) (g_int)) (g_ix o_ix (g_var 0) (g_int)))))
abbrev s_ratio : Stmt := topS 12
abbrev N_ratio : List Str := ["top", "low", "part"]
theorem sc_ratio : FnScope N_ratio ["top", "low"] (defScope s_ratio) := ⟨rfl, rfl, rfl, by decide +kernel, rfl, by decide +kernel, by decide +kernel⟩
theorem tm_ratio {f : Addr} {cdv : Value} {A : Around} {outer : List Env} {s : Shared} {H : Hp} (B : Blt mg) (m_gcd : mg "gcd" = some (.builtin "math.gcd"))
    (hr : Room k (A.deeper (envOfC "ratio" (defScope s_ratio) s.heap.objs.size f cdv))) (hgd : (A.deeper (envOfC "ratio" (defScope s_ratio) s.heap.objs.size f cdv)).guards = some []) :
    GSs (cxOf CX0 P w K mg base N_ratio "ratio" (defScope s_ratio) f cdv A outer s H E0).nox (defBody s_ratio) (body_ratio) := by
  exact gss_cons (gs_set 2 sc_ratio.nd (g_ifExp (gt_cmp o_gt (g_var 1) (g_int)) (g_callBfun c_gcd (by rfl) m_gcd (ga_cons (g_var 0) (ga_cons (g_var 1) (ga_nil)))) (g_un o_neg (g_callBfun c_gcd (by rfl) m_gcd (ga_cons (g_var 0) (ga_cons (g_var 1) (ga_nil)))))))
    (gss_one (gs_ret (g_tup (ga_cons (g_bin o_fdiv (g_var 0) (g_var 2)) (ga_cons (g_bin o_fdiv (g_var 1) (g_var 2)) (ga_nil))))))
abbrev s_plus : Stmt := topS 13
abbrev N_plus : List Str := ["one", "two"]
theorem sc_plus : FnScope N_plus ["one", "two"] (defScope s_plus) := ⟨rfl, rfl, rfl, by decide +kernel, rfl, by decide +kernel, by decide +kernel⟩
theorem tm_plus {γ_ratio : OL} {f_ratio : Addr} {fd_ratio : FuncData} {f : Addr} {cdv : Value} {A : Around} {outer : List Env} {s : Shared} {H : Hp} (B : Blt mg) (h_ratio : Has P w K mg base k "ratio" f_ratio fd_ratio ["top", "low"] γ_ratio)
    (hr : Room k (A.deeper (envOfC "plus" (defScope s_plus) s.heap.objs.size f cdv))) (hgd : (A.deeper (envOfC "plus" (defScope s_plus) s.heap.objs.size f cdv)).guards = some []) :
    GSs (cxOf CX0 P w K mg base N_plus "plus" (defScope s_plus) f cdv A outer s H E0).nox (defBody s_plus) (body_plus γ_ratio) := by
  exact gss_one (gs_ret (g_call h_ratio hr hgd (Nat.le_refl _) (by rfl) (ga_cons (g_bin o_add (g_bin o_mul (g_ix o_ix (g_var 0) (g_int)) (g_ix o_ix (g_var 1) (g_int))) (g_bin o_mul (g_ix o_ix (g_var 1) (g_int)) (g_ix o_ix (g_var 0) (g_int)))) (ga_cons (g_bin o_mul (g_ix o_ix (g_var 0) (g_int)) (g_ix o_ix (g_var 1) (g_int))) (ga_nil)))))
abbrev s_total : Stmt := topS 15
abbrev N_total : List Str := ["fractions", "found", "each"]
theorem sc_total : FnScope N_total ["fractions"] (defScope s_total) := ⟨rfl, rfl, rfl, by decide +kernel, rfl, by decide +kernel, by decide +kernel⟩
theorem tm_total {γ_plus : OL} {f_plus : Addr} {fd_plus : FuncData} {d_ZERO : D} {f : Addr} {cdv : Value} {A : Around} {outer : List Env} {s : Shared} {H : Hp} (B : Blt mg) (c_ZERO : Cst K mg "ZERO" d_ZERO) (h_plus : Has P w K mg base k "plus" f_plus fd_plus ["one", "two"] γ_plus)
    (hr : Room k (A.deeper (envOfC "total" (defScope s_total) s.heap.objs.size f cdv))) (hgd : (A.deeper (envOfC "total" (defScope s_total) s.heap.objs.size f cdv)).guards = some []) :
    GSs (cxOf CX0 P w K mg base N_total "total" (defScope s_total) f cdv A outer s H E0).nox (defBody s_total) (body_total γ_plus d_ZERO) := by
  exact gss_cons (gs_set 1 sc_total.nd (g_cst c_ZERO (by rfl)))
    (gss_cons (gs_for PassesOwn.never rfl (gi_seq (g_var 0)) (gg_name 2 sc_total.nd) (gss_one (gs_set 1 sc_total.nd (g_call h_plus hr hgd (Nat.le_refl _) (by rfl) (ga_cons (g_var 1) (ga_cons (g_var 2) (ga_nil)))))))
    (gss_one (gs_ret (g_var 1))))
abbrev s_heard_by : Stmt := topS 25
abbrev N_heard_by : List Str := ["net", "cell", "state", "weight", "each"]
theorem sc_heard_by : FnScope N_heard_by ["net", "cell", "state"] (defScope s_heard_by) := ⟨rfl, rfl, rfl, by decide +kernel, rfl, by decide +kernel, by decide +kernel⟩
theorem tm_heard_by {γ_total : OL} {f_total : Addr} {fd_total : FuncData} {f : Addr} {cdv : Value} {A : Around} {outer : List Env} {s : Shared} {H : Hp} (B : Blt mg) (h_total : Has P w K mg base k "total" f_total fd_total ["fractions"] γ_total)
    (hr : Room k (A.deeper (envOfC "heard_by" (defScope s_heard_by) s.heap.objs.size f cdv))) (hgd : (A.deeper (envOfC "heard_by" (defScope s_heard_by) s.heap.objs.size f cdv)).guards = some []) :
    GSs (cxOf CX0 P w K mg base N_heard_by "heard_by" (defScope s_heard_by) f cdv A outer s H E0).nox (defBody s_heard_by) (body_heard_by γ_total) := by
  exact gss_one (gs_ret (g_call h_total hr hgd (Nat.le_refl _) (by rfl) (ga_cons (g_lc (own := [("weight", 3), ("each", 4)])  rfl sc_heard_by.nd (gi_zip (by rfl) B.zip (ga_cons (g_ix o_ix (g_ix o_ix (g_var 0) (g_int)) (g_var 1)) (ga_cons (g_var 2) (ga_nil)))) (blkOk_by (own := [("weight", 3), ("each", 4)]) (N := N_heard_by) (sc := defScope s_heard_by) (by decide +kernel)) (fun _ _ _ _ _ => ggc_tup rfl (ggcs_cons (ggc_name 3 sc_heard_by.nd) (ggcs_cons (ggc_name 4 sc_heard_by.nd) (ggcs_nil)))) (fun _ _ _ _ _ => gts_one (gt_cmp (o_eq hr.units) (g_var 4) (g_int))) (fun _ _ _ _ _ => g_var 3)) (ga_nil))))
abbrev s_wanted_by : Stmt := topS 26
abbrev N_wanted_by : List Str := ["net", "state", "cell"]
theorem sc_wanted_by : FnScope N_wanted_by ["net", "state"] (defScope s_wanted_by) := ⟨rfl, rfl, rfl, by decide +kernel, rfl, by decide +kernel, by decide +kernel⟩
theorem tm_wanted_by {γ_many_cells : OL} {γ_is_less : OL} {γ_heard_by : OL} {f_many_cells f_is_less f_heard_by : Addr} {fd_many_cells fd_is_less fd_heard_by : FuncData} {f : Addr} {cdv : Value} {A : Around} {outer : List Env} {s : Shared} {H : Hp} (B : Blt mg) (h_many_cells : Has P w K mg base k "many_cells" f_many_cells fd_many_cells ["net"] γ_many_cells) (h_is_less : Has P w K mg base k "is_less" f_is_less fd_is_less ["one", "two"] γ_is_less) (h_heard_by : Has P w K mg base k "heard_by" f_heard_by fd_heard_by ["net", "cell", "state"] γ_heard_by)
    (hr : Room k (A.deeper (envOfC "wanted_by" (defScope s_wanted_by) s.heap.objs.size f cdv))) (hgd : (A.deeper (envOfC "wanted_by" (defScope s_wanted_by) s.heap.objs.size f cdv)).guards = some []) :
    GSs (cxOf CX0 P w K mg base N_wanted_by "wanted_by" (defScope s_wanted_by) f cdv A outer s H E0).nox (defBody s_wanted_by) (body_wanted_by γ_many_cells γ_is_less γ_heard_by) := by
  exact gss_one (gs_ret (g_callTy c_tuple (by rfl) B.tuple bt_tuple (ga_cons (g_lc (own := [("cell", 2)])  rfl sc_wanted_by.nd (gi_range1 (by rfl) B.range (ga_cons (g_call h_many_cells hr hgd (Nat.le_refl _) (by rfl) (ga_cons (g_var 0) (ga_nil))) (ga_nil))) (blkOk_by (own := [("cell", 2)]) (N := N_wanted_by) (sc := defScope s_wanted_by) (by decide +kernel)) (fun _ _ _ _ _ => ggc_name 2 sc_wanted_by.nd) (fun _ _ _ _ _ => gts_nil) (fun _ _ _ _ _ => g_ifExp (gt_val (g_call h_is_less hr hgd (Nat.le_refl _) (by rfl) (ga_cons (g_ix o_ix (g_ix o_ix (g_var 0) (g_int)) (g_var 2)) (ga_cons (g_call h_heard_by hr hgd (Nat.le_refl _) (by rfl) (ga_cons (g_var 0) (ga_cons (g_var 2) (ga_cons (g_var 1) (ga_nil))))) (ga_nil))))) (g_int) (g_int))) (ga_nil))))
abbrev s_run_by : Stmt := topS 32
abbrev N_run_by : List Str := ["first", "step", "at", "found", "here"]
theorem sc_run_by : FnScope N_run_by ["first", "step"] (defScope s_run_by) := ⟨rfl, rfl, rfl, by decide +kernel, rfl, by decide +kernel, by decide +kernel⟩
theorem tm_run_by {g c0 : Addr} {q : Str} {ho : HO} {caps : List D} {cv : List V} {φ : OLX} {f : Addr} {cdv : Value} {A : Around} {outer : List Env} {s : Shared} {H : Hp} (B : Blt mg)
    (hfi : FnIn g ho) (act : Acts (cxOf CX0 P w K mg base N_run_by "run_by" (defScope s_run_by) f cdv A outer s H E0) (.fn g c0 q ho caps cv) g 1 φ)
    (hr : Room k (A.deeper (envOfC "run_by" (defScope s_run_by) s.heap.objs.size f cdv))) (hgd : (A.deeper (envOfC "run_by" (defScope s_run_by) s.heap.objs.size f cdv)).guards = some []) :
    GSs (cxOf CX0 P w K mg base N_run_by "run_by" (defScope s_run_by) f cdv A outer s H E0).nox (defBody s_run_by) (body_run_by (.fn g c0 q ho caps cv) φ) := by
  exact gss_cons (gs_par 3 4 rfl sc_run_by.nd (ga_cons (g_lstM (ga_nil)) (ga_cons (g_var 0) (ga_nil))))
    (gss_cons (gs_while PassesOwn.never (gt_cmp (o_nin (Room_units65 hr)) (g_var 4) (g_var 3)) (gss_cons (gs_expr (g_mt F.slot_list_append F.type_list_append m_append (g_var 3) (ga_cons (g_var 4) (ga_nil))))
    (gss_one (gs_set 4 sc_run_by.nd (g_act 1 hfi act (ga_cons (g_var 4) (ga_nil)) (by rfl) (by first | exact Or.inl rfl | exact Or.inr (Or.inl rfl) | exact Or.inr (Or.inr rfl)))))))
    (gss_cons (gs_set 2 sc_run_by.nd (g_mt F.slot_list_index F.type_list_index (m_index (Room_units65 hr)) (g_var 3) (ga_cons (g_var 4) (ga_nil))))
    (gss_one (gs_ret (g_tup (ga_cons (g_callTy c_tuple (by rfl) B.tuple bt_tuple (ga_cons (g_slice (g_var 3) (go_none) (go_some (g_var 2))) (ga_nil))) (ga_cons (g_callTy c_tuple (by rfl) B.tuple bt_tuple (ga_cons (g_slice (g_var 3) (go_some (g_var 2)) (go_none)) (ga_nil))) (ga_nil))))))))
abbrev s_rings_by : Stmt := topS 34
abbrev N_rings_by : List Str := ["net", "nexts", "found", "number", "tail", "ring", "state", "each"]
theorem sc_rings_by : FnScope N_rings_by ["net"] (defScope s_rings_by) := ⟨rfl, rfl, rfl, by decide +kernel, rfl, by decide +kernel, by decide +kernel⟩
theorem tm_rings_by {γ_all_states : OL} {γ_number_by : OL} {γ_wanted_by : OL} {γ_run_by : D → OLX → OL} {γ_state_by : OL} {γ_many_cells : OL} {f_all_states f_number_by f_wanted_by f_run_by f_state_by f_many_cells : Addr} {fd_all_states fd_number_by fd_wanted_by fd_run_by fd_state_by fd_many_cells : FuncData} {c T : Addr} {f : Addr} {A : Around} {outer : List Env} {s : Shared} {H : Hp} (B : Blt mg) (h_all_states : Has P w K mg base k "all_states" f_all_states fd_all_states ["net"] γ_all_states) (h_number_by : Has P w K mg base k "number_by" f_number_by fd_number_by ["state"] γ_number_by) (h_wanted_by : Has P w K mg base k "wanted_by" f_wanted_by fd_wanted_by ["net", "state"] γ_wanted_by) (h_run_by : HasF P w K mg base (k + 1) "run_by" f_run_by fd_run_by ["first", "step"] 1 γ_run_by) (h_state_by : Has P w K mg base k "state_by" f_state_by fd_state_by ["many", "number"] γ_state_by) (h_many_cells : Has P w K mg base k "many_cells" f_many_cells fd_many_cells ["net"] γ_many_cells) (TB : LamX.TabB base mg c T)
    (hr : Room (k + 2) (A.deeper (envOfC "rings_by" (defScope s_rings_by) s.heap.objs.size f (.ref c)))) (hgd : (A.deeper (envOfC "rings_by" (defScope s_rings_by) s.heap.objs.size f (.ref c))).guards = some []) :
    GSs (cxOf CX0 P w K mg base N_rings_by "rings_by" (defScope s_rings_by) f (.ref c) A outer s H E0).nox (defBody s_rings_by) (body_rings_by γ_all_states γ_number_by γ_wanted_by γ_run_by γ_state_by γ_many_cells T) := by
  exact gss_cons (gs_set 1 sc_rings_by.nd (g_lc (own := [("state", 6)])  rfl sc_rings_by.nd (gi_seq (g_call h_all_states hr hgd (Nat.le_add_right _ _) (by rfl) (ga_cons (g_var 0) (ga_nil)))) (blkOk_by (own := [("state", 6)]) (N := N_rings_by) (sc := defScope s_rings_by) (by decide +kernel)) (fun _ _ _ _ _ => ggc_name 6 sc_rings_by.nd) (fun _ _ _ _ _ => gts_nil) (fun _ _ _ _ _ => g_call h_number_by hr hgd (Nat.le_add_right _ _) (by rfl) (ga_cons (g_call h_wanted_by hr hgd (Nat.le_add_right _ _) (by rfl) (ga_cons (g_var 0) (ga_cons (g_var 6) (ga_nil)))) (ga_nil)))))
    (gss_cons (gs_set 2 sc_rings_by.nd (g_lstM (ga_nil)))
    (gss_cons (gs_for PassesOwn.never rfl (gi_range1 (by rfl) B.range (ga_cons (g_callB c_len (by rfl) B.len bt_len (ga_cons (g_var 1) (ga_nil))) (ga_nil))) (gg_name 3 sc_rings_by.nd) (gss_cons (gs_asg (g_lam1 (k := k) (ps := ["each"]) (fvs := ["nexts"]) (js := [1]) h_run_by rfl hr hgd (Nat.le_refl _) (Nat.le_refl _) (by rfl) TB rfl (show LamP (defScope s_rings_by) _ _ _ from lamP_by (by decide +kernel)) (by rfl) (by rfl) (fun q cl pm cv ctv us hl => match us, hl with | [_], _ => rfl) (fun A outer s1 H1 E g a hr hgd W tk => gex_of (g_ix o_ix (g_var 1) (g_var 0))) (g_var 3)) (gg_tup rfl (ggs_cons (gg_name 4 sc_rings_by.nd) (ggs_cons (gg_name 5 sc_rings_by.nd) (ggs_nil)))))
    (gss_one (gs_if (gw_pt (gw_and (gt_cmp (o_eq hr.units) (g_var 4) (g_tup (ga_nil))) (gw_and1 (gt_cmp (o_eq hr.units) (g_var 3) (g_callB (c_minT rfl (Room_units65 hr)) (by rfl) B.min bt_min (ga_cons (g_var 5) (ga_nil))))))) (gss_one (gs_expr (g_mt F.slot_list_append F.type_list_append m_append (g_var 2) (ga_cons (g_callTy c_tuple (by rfl) B.tuple bt_tuple (ga_cons (g_lc (own := [("each", 7)])  rfl sc_rings_by.nd (gi_seq (g_var 5)) (blkOk_by (own := [("each", 7)]) (N := N_rings_by) (sc := defScope s_rings_by) (by decide +kernel)) (fun _ _ _ _ _ => ggc_name 7 sc_rings_by.nd) (fun _ _ _ _ _ => gts_nil) (fun _ _ _ _ _ => g_call h_state_by hr hgd (Nat.le_add_right _ _) (by rfl) (ga_cons (g_call h_many_cells hr hgd (Nat.le_add_right _ _) (by rfl) (ga_cons (g_var 0) (ga_nil))) (ga_cons (g_var 7) (ga_nil))))) (ga_nil))) (ga_nil))))) (gss_nil)))))
    (gss_one (gs_ret (g_callTy c_tuple (by rfl) B.tuple bt_tuple (ga_cons (g_var 2) (ga_nil)))))))
abbrev s_rings : Stmt := topS 39
abbrev N_rings : List Str := ["net"]
theorem sc_rings : FnScope N_rings ["net"] (defScope s_rings) := ⟨rfl, rfl, rfl, by decide +kernel, rfl, by decide +kernel, by decide +kernel⟩
theorem tm_rings {γ_check_net : OL} {γ_rings_by : OL} {f_check_net f_rings_by : Addr} {fd_check_net fd_rings_by : FuncData} {f : Addr} {cdv : Value} {A : Around} {outer : List Env} {s : Shared} {H : Hp} (B : Blt mg) (h_check_net : Has P w K mg base k "check_net" f_check_net fd_check_net ["value"] γ_check_net) (h_rings_by : Has P w K mg base k "rings_by" f_rings_by fd_rings_by ["net"] γ_rings_by)
    (hr : Room k (A.deeper (envOfC "rings" (defScope s_rings) s.heap.objs.size f cdv))) (hgd : (A.deeper (envOfC "rings" (defScope s_rings) s.heap.objs.size f cdv)).guards = some []) :
    GSs (cxOf CX0 P w K mg base N_rings "rings" (defScope s_rings) f cdv A outer s H E0).nox (defBody s_rings) (body_rings γ_check_net γ_rings_by) := by
  exact gss_cons (gs_expr (g_call h_check_net hr hgd (Nat.le_refl _) (by rfl) (ga_cons (g_var 0) (ga_nil))))
    (gss_one (gs_ret (g_call h_rings_by hr hgd (Nat.le_refl _) (by rfl) (ga_cons (g_var 0) (ga_nil)))))
abbrev s_is_between : Stmt := topS 7
abbrev N_is_between : List Str := ["value", "low", "high"]
theorem sc_is_between : FnScope N_is_between ["value", "low", "high"] (defScope s_is_between) := ⟨rfl, rfl, rfl, by decide +kernel, rfl, by decide +kernel, by decide +kernel⟩
theorem tm_is_between {γ_is_whole : OL} {f_is_whole : Addr} {fd_is_whole : FuncData} {f : Addr} {cdv : Value} {A : Around} {outer : List Env} {s : Shared} {H : Hp} (B : Blt mg) (h_is_whole : Has P w K mg base k "is_whole" f_is_whole fd_is_whole ["value"] γ_is_whole)
    (hr : Room k (A.deeper (envOfC "is_between" (defScope s_is_between) s.heap.objs.size f cdv))) (hgd : (A.deeper (envOfC "is_between" (defScope s_is_between) s.heap.objs.size f cdv)).guards = some []) :
    GSs (cxOf CX0 P w K mg base N_is_between "is_between" (defScope s_is_between) f cdv A outer s H E0).nox (defBody s_is_between) (body_is_between γ_is_whole) := by
  exact gss_one (gs_ret (g_and (g_call h_is_whole hr hgd (Nat.le_refl _) (by rfl) (ga_cons (g_var 0) (ga_nil))) (g_one (g_chain o_le o_le (g_var 1) (g_var 0) (g_var 2)))))
abbrev s_is_state_by : Stmt := topS 21
abbrev N_is_state_by : List Str := ["net", "value", "each"]
theorem sc_is_state_by : FnScope N_is_state_by ["net", "value"] (defScope s_is_state_by) := ⟨rfl, rfl, rfl, by decide +kernel, rfl, by decide +kernel, by decide +kernel⟩
theorem tm_is_state_by {γ_is_tuple_of : OL} {γ_many_cells : OL} {γ_is_between : OL} {f_is_tuple_of f_many_cells f_is_between : Addr} {fd_is_tuple_of fd_many_cells fd_is_between : FuncData} {f : Addr} {cdv : Value} {A : Around} {outer : List Env} {s : Shared} {H : Hp} (B : Blt mg) (h_is_tuple_of : Has P w K mg base k "is_tuple_of" f_is_tuple_of fd_is_tuple_of ["value", "many"] γ_is_tuple_of) (h_many_cells : Has P w K mg base k "many_cells" f_many_cells fd_many_cells ["net"] γ_many_cells) (h_is_between : Has P w K mg base k "is_between" f_is_between fd_is_between ["value", "low", "high"] γ_is_between)
    (hr : Room k (A.deeper (envOfC "is_state_by" (defScope s_is_state_by) s.heap.objs.size f cdv))) (hgd : (A.deeper (envOfC "is_state_by" (defScope s_is_state_by) s.heap.objs.size f cdv)).guards = some []) :
    GSs (cxOf CX0 P w K mg base N_is_state_by "is_state_by" (defScope s_is_state_by) f cdv A outer s H E0).nox (defBody s_is_state_by) (body_is_state_by γ_is_tuple_of γ_many_cells γ_is_between) := by
  exact gss_one (gs_ret (g_and (g_call h_is_tuple_of hr hgd (Nat.le_refl _) (by rfl) (ga_cons (g_var 1) (ga_cons (g_call h_many_cells hr hgd (Nat.le_refl _) (by rfl) (ga_cons (g_var 0) (ga_nil))) (ga_nil)))) (g_one (g_callB (c_all rfl) (by rfl) B.all bt_all (ga_cons (g_lc (own := [("each", 2)])  rfl sc_is_state_by.nd (gi_seq (g_var 1)) (blkOk_by (own := [("each", 2)]) (N := N_is_state_by) (sc := defScope s_is_state_by) (by decide +kernel)) (fun _ _ _ _ _ => ggc_name 2 sc_is_state_by.nd) (fun _ _ _ _ _ => gts_nil) (fun _ _ _ _ _ => g_call h_is_between hr hgd (Nat.le_refl _) (by rfl) (ga_cons (g_var 2) (ga_cons (g_int) (ga_cons (g_int) (ga_nil)))))) (ga_nil))))))
abbrev s_check_state : Stmt := topS 29
abbrev N_check_state : List Str := ["net", "value"]
theorem sc_check_state : FnScope N_check_state ["net", "value"] (defScope s_check_state) := ⟨rfl, rfl, rfl, by decide +kernel, rfl, by decide +kernel, by decide +kernel⟩
theorem tm_check_state {γ_is_state_by : OL} {f_is_state_by : Addr} {fd_is_state_by : FuncData} {f : Addr} {cdv : Value} {A : Around} {outer : List Env} {s : Shared} {H : Hp} (B : Blt mg) (h_is_state_by : Has P w K mg base k "is_state_by" f_is_state_by fd_is_state_by ["net", "value"] γ_is_state_by)
    (hr : Room k (A.deeper (envOfC "check_state" (defScope s_check_state) s.heap.objs.size f cdv))) (hgd : (A.deeper (envOfC "check_state" (defScope s_check_state) s.heap.objs.size f cdv)).guards = some []) :
    GSs (cxOf CX0 P w K mg base N_check_state "check_state" (defScope s_check_state) f cdv A outer s H E0).nox (defBody s_check_state) (body_check_state γ_is_state_by) := by
  exact gss_one (gs_if (gt_not (gt_val (g_call h_is_state_by hr hgd (Nat.le_refl _) (by rfl) (ga_cons (g_var 0) (ga_cons (g_var 1) (ga_nil)))))) (gss_one (gs_never)) (gss_nil))
abbrev s_check_both : Stmt := topS 30
abbrev N_check_both : List Str := ["net", "state"]
theorem sc_check_both : FnScope N_check_both ["net", "state"] (defScope s_check_both) := ⟨rfl, rfl, rfl, by decide +kernel, rfl, by decide +kernel, by decide +kernel⟩
theorem tm_check_both {γ_check_net : OL} {γ_check_state : OL} {f_check_net f_check_state : Addr} {fd_check_net fd_check_state : FuncData} {f : Addr} {cdv : Value} {A : Around} {outer : List Env} {s : Shared} {H : Hp} (B : Blt mg) (h_check_net : Has P w K mg base k "check_net" f_check_net fd_check_net ["value"] γ_check_net) (h_check_state : Has P w K mg base k "check_state" f_check_state fd_check_state ["net", "value"] γ_check_state)
    (hr : Room k (A.deeper (envOfC "check_both" (defScope s_check_both) s.heap.objs.size f cdv))) (hgd : (A.deeper (envOfC "check_both" (defScope s_check_both) s.heap.objs.size f cdv)).guards = some []) :
    GSs (cxOf CX0 P w K mg base N_check_both "check_both" (defScope s_check_both) f cdv A outer s H E0).nox (defBody s_check_both) (body_check_both γ_check_net γ_check_state) := by
  exact gss_cons (gs_expr (g_call h_check_net hr hgd (Nat.le_refl _) (by rfl) (ga_cons (g_var 0) (ga_nil))))
    (gss_one (gs_expr (g_call h_check_state hr hgd (Nat.le_refl _) (by rfl) (ga_cons (g_var 0) (ga_cons (g_var 1) (ga_nil))))))
abbrev s_wanted : Stmt := topS 41
abbrev N_wanted : List Str := ["net", "state"]
theorem sc_wanted : FnScope N_wanted ["net", "state"] (defScope s_wanted) := ⟨rfl, rfl, rfl, by decide +kernel, rfl, by decide +kernel, by decide +kernel⟩
theorem tm_wanted {γ_check_both : OL} {γ_wanted_by : OL} {f_check_both f_wanted_by : Addr} {fd_check_both fd_wanted_by : FuncData} {f : Addr} {cdv : Value} {A : Around} {outer : List Env} {s : Shared} {H : Hp} (B : Blt mg) (h_check_both : Has P w K mg base k "check_both" f_check_both fd_check_both ["net", "state"] γ_check_both) (h_wanted_by : Has P w K mg base k "wanted_by" f_wanted_by fd_wanted_by ["net", "state"] γ_wanted_by)
    (hr : Room k (A.deeper (envOfC "wanted" (defScope s_wanted) s.heap.objs.size f cdv))) (hgd : (A.deeper (envOfC "wanted" (defScope s_wanted) s.heap.objs.size f cdv)).guards = some []) :
    GSs (cxOf CX0 P w K mg base N_wanted "wanted" (defScope s_wanted) f cdv A outer s H E0).nox (defBody s_wanted) (body_wanted γ_check_both γ_wanted_by) := by
  exact gss_cons (gs_expr (g_call h_check_both hr hgd (Nat.le_refl _) (by rfl) (ga_cons (g_var 0) (ga_cons (g_var 1) (ga_nil)))))
    (gss_one (gs_ret (g_call h_wanted_by hr hgd (Nat.le_refl _) (by rfl) (ga_cons (g_var 0) (ga_cons (g_var 1) (ga_nil))))))
abbrev s_at_once_by : Stmt := topS 33
abbrev N_at_once_by : List Str := ["net", "state"]
theorem sc_at_once_by : FnScope N_at_once_by ["net", "state"] (defScope s_at_once_by) := ⟨rfl, rfl, rfl, by decide +kernel, rfl, by decide +kernel, by decide +kernel⟩
theorem tm_at_once_by {γ_run_by : D → OLX → OL} {γ_wanted_by : OL} {f_run_by f_wanted_by : Addr} {fd_run_by fd_wanted_by : FuncData} {c T : Addr} {f : Addr} {A : Around} {outer : List Env} {s : Shared} {H : Hp} (B : Blt mg) (h_run_by : HasF P w K mg base (k + 1) "run_by" f_run_by fd_run_by ["first", "step"] 1 γ_run_by) (h_wanted_by : Has P w K mg base k "wanted_by" f_wanted_by fd_wanted_by ["net", "state"] γ_wanted_by) (TB : LamX.TabB base mg c T)
    (hr : Room (k + 2) (A.deeper (envOfC "at_once_by" (defScope s_at_once_by) s.heap.objs.size f (.ref c)))) (hgd : (A.deeper (envOfC "at_once_by" (defScope s_at_once_by) s.heap.objs.size f (.ref c))).guards = some []) :
    GSs (cxOf CX0 P w K mg base N_at_once_by "at_once_by" (defScope s_at_once_by) f (.ref c) A outer s H E0).nox (defBody s_at_once_by) (body_at_once_by γ_run_by γ_wanted_by T) := by
  exact gss_one (gs_ret (g_lam1 (k := k) (ps := ["each"]) (fvs := ["net"]) (js := [0]) h_run_by rfl hr hgd (Nat.le_refl _) (Nat.le_refl _) (by rfl) TB rfl (show LamP (defScope s_at_once_by) _ _ _ from lamP_by (by decide +kernel)) (by rfl) (by rfl) (fun q cl pm cv ctv us hl => match us, hl with | [_], _ => rfl) (fun A outer s1 H1 E g a hr hgd W tk => gex_of (g_call h_wanted_by hr hgd (Nat.le_refl _) (by rfl) (ga_cons (g_var 1) (ga_cons (g_var 0) (ga_nil))))) (g_var 1)))
abbrev s_run : Stmt := topS 37
abbrev N_run : List Str := ["net", "state"]
theorem sc_run : FnScope N_run ["net", "state"] (defScope s_run) := ⟨rfl, rfl, rfl, by decide +kernel, rfl, by decide +kernel, by decide +kernel⟩
theorem tm_run {γ_check_both : OL} {γ_at_once_by : OL} {f_check_both f_at_once_by : Addr} {fd_check_both fd_at_once_by : FuncData} {f : Addr} {cdv : Value} {A : Around} {outer : List Env} {s : Shared} {H : Hp} (B : Blt mg) (h_check_both : Has P w K mg base k "check_both" f_check_both fd_check_both ["net", "state"] γ_check_both) (h_at_once_by : Has P w K mg base k "at_once_by" f_at_once_by fd_at_once_by ["net", "state"] γ_at_once_by)
    (hr : Room k (A.deeper (envOfC "run" (defScope s_run) s.heap.objs.size f cdv))) (hgd : (A.deeper (envOfC "run" (defScope s_run) s.heap.objs.size f cdv)).guards = some []) :
    GSs (cxOf CX0 P w K mg base N_run "run" (defScope s_run) f cdv A outer s H E0).nox (defBody s_run) (body_run γ_check_both γ_at_once_by) := by
  exact gss_cons (gs_expr (g_call h_check_both hr hgd (Nat.le_refl _) (by rfl) (ga_cons (g_var 0) (ga_cons (g_var 1) (ga_nil)))))
    (gss_one (gs_ret (g_call h_at_once_by hr hgd (Nat.le_refl _) (by rfl) (ga_cons (g_var 0) (ga_cons (g_var 1) (ga_nil))))))
abbrev s__law_are_states_right : Stmt := topS 62
abbrev N__law_are_states_right : List Str := ["well", "net", "steps", "few", "turn", "number", "due", "state", "then", "tail", "ring"]
theorem sc__law_are_states_right : FnScope N__law_are_states_right ["well", "net", "steps"] (defScope s__law_are_states_right) := ⟨rfl, rfl, rfl, by decide +kernel, rfl, by decide +kernel, by decide +kernel⟩
theorem tm__law_are_states_right {γ__law_draw : OL} {γ__law_as_state : OL} {γ__law_tail : OL} {γ__law_as_states : OL} {γ_wanted : OL} {γ_run : OL} {f__law_draw f__law_as_state f__law_tail f__law_as_states f_wanted f_run : Addr} {fd__law_draw fd__law_as_state fd__law_tail fd__law_as_states fd_wanted fd_run : FuncData} {f : Addr} {cdv : Value} {A : Around} {outer : List Env} {s : Shared} {H : Hp} (B : Blt mg) (h__law_draw : Has P w K mg base k "_law_draw" f__law_draw fd__law_draw ["well", "few"] γ__law_draw) (h__law_as_state : Has P w K mg base k "_law_as_state" f__law_as_state fd__law_as_state ["number", "few"] γ__law_as_state) (h__law_tail : Has P w K mg base k "_law_tail" f__law_tail fd__law_tail ["steps", "number"] γ__law_tail) (h__law_as_states : Has P w K mg base k "_law_as_states" f__law_as_states fd__law_as_states ["numbers", "few"] γ__law_as_states) (h_wanted : Has P w K mg base k "wanted" f_wanted fd_wanted ["net", "state"] γ_wanted) (h_run : Has P w K mg base k "run" f_run fd_run ["net", "state"] γ_run) (kb_wanted_0 : KB fd_wanted ["net", "state"] ["state", "net"] 0 [1, 0]) (kb_run_0 : KB fd_run ["net", "state"] ["state", "net"] 0 [1, 0])
    (hr : Room k (A.deeper (envOfC "_law_are_states_right" (defScope s__law_are_states_right) s.heap.objs.size f cdv))) (hgd : (A.deeper (envOfC "_law_are_states_right" (defScope s__law_are_states_right) s.heap.objs.size f cdv)).guards = some []) :
    GSs (cxOf CX0 P w K mg base N__law_are_states_right "_law_are_states_right" (defScope s__law_are_states_right) f cdv A outer s H E0).nox (defBody s__law_are_states_right) (body__law_are_states_right γ__law_draw γ__law_as_state γ__law_tail γ__law_as_states γ_wanted γ_run) := by
  exact gss_cons (gs_set 3 sc__law_are_states_right.nd (g_callB c_len (by rfl) B.len bt_len (ga_cons (g_ix o_ix (g_var 1) (g_int)) (ga_nil))))
    (gss_cons (gs_for PassesOwn.never rfl (gi_range1 (by rfl) B.range (ga_cons (g_int) (ga_nil))) (gg_name 4 sc__law_are_states_right.nd) (gss_cons (gs_set 5 sc__law_are_states_right.nd (g_call h__law_draw hr hgd (Nat.le_refl _) (by rfl) (ga_cons (g_var 0) (ga_cons (g_bin o_shl (g_int) (g_var 3)) (ga_nil)))))
    (gss_cons (gs_par 7 8 rfl sc__law_are_states_right.nd (ga_cons (g_call h__law_as_state hr hgd (Nat.le_refl _) (by rfl) (ga_cons (g_var 5) (ga_cons (g_var 3) (ga_nil)))) (ga_cons (g_call h__law_as_state hr hgd (Nat.le_refl _) (by rfl) (ga_cons (g_ix o_ix (g_var 2) (g_var 5)) (ga_cons (g_var 3) (ga_nil)))) (ga_nil))))
    (gss_cons (gs_asg (g_call h__law_tail hr hgd (Nat.le_refl _) (by rfl) (ga_cons (g_var 2) (ga_cons (g_var 5) (ga_nil)))) (gg_tup rfl (ggs_cons (gg_name 9 sc__law_are_states_right.nd) (ggs_cons (gg_name 10 sc__law_are_states_right.nd) (ggs_nil)))))
    (gss_cons (gs_set 6 sc__law_are_states_right.nd (g_tup (ga_cons (g_call h__law_as_states hr hgd (Nat.le_refl _) (by rfl) (ga_cons (g_var 9) (ga_cons (g_var 3) (ga_nil)))) (ga_cons (g_call h__law_as_states hr hgd (Nat.le_refl _) (by rfl) (ga_cons (g_var 10) (ga_cons (g_var 3) (ga_nil)))) (ga_nil)))))
    (gss_cons (gs_if (gt_cmp o_neS (g_callB (c_repr hr hgd) (by rfl) B.repr bt_repr (ga_cons (g_lst (ga_cons (g_call h_wanted hr hgd (Nat.le_refl _) (by rfl) (ga_cons (g_var 1) (ga_cons (g_var 7) (ga_nil)))) (ga_cons (g_callK0 h_wanted kb_wanted_0 hr hgd (Nat.le_refl _) (by rfl) (gk_cons (g_var 7) (gk_cons (g_var 1) (gk_nil)))) (ga_nil)))) (ga_nil))) (g_callB (c_repr hr hgd) (by rfl) B.repr bt_repr (ga_cons (g_lst (ga_cons (g_var 8) (ga_cons (g_var 8) (ga_nil)))) (ga_nil)))) (gss_one (gs_ret (g_bl))) (gss_nil))
    (gss_one (gs_if (gt_cmp o_neS (g_callB (c_repr hr hgd) (by rfl) B.repr bt_repr (ga_cons (g_lst (ga_cons (g_call h_run hr hgd (Nat.le_refl _) (by rfl) (ga_cons (g_var 1) (ga_cons (g_var 7) (ga_nil)))) (ga_cons (g_callK0 h_run kb_run_0 hr hgd (Nat.le_refl _) (by rfl) (gk_cons (g_var 7) (gk_cons (g_var 1) (gk_nil)))) (ga_nil)))) (ga_nil))) (g_callB (c_repr hr hgd) (by rfl) B.repr bt_repr (ga_cons (g_lst (ga_cons (g_var 6) (ga_cons (g_var 6) (ga_nil)))) (ga_nil)))) (gss_one (gs_ret (g_bl))) (gss_nil)))))))))
    (gss_one (gs_ret (g_bl))))
abbrev s_swings_by : Stmt := topS 35
abbrev N_swings_by : List Str := ["net", "ring"]
theorem sc_swings_by : FnScope N_swings_by ["net"] (defScope s_swings_by) := ⟨rfl, rfl, rfl, by decide +kernel, rfl, by decide +kernel, by decide +kernel⟩
theorem tm_swings_by {γ_rings_by : OL} {f_rings_by : Addr} {fd_rings_by : FuncData} {f : Addr} {cdv : Value} {A : Around} {outer : List Env} {s : Shared} {H : Hp} (B : Blt mg) (h_rings_by : Has P w K mg base k "rings_by" f_rings_by fd_rings_by ["net"] γ_rings_by)
    (hr : Room k (A.deeper (envOfC "swings_by" (defScope s_swings_by) s.heap.objs.size f cdv))) (hgd : (A.deeper (envOfC "swings_by" (defScope s_swings_by) s.heap.objs.size f cdv)).guards = some []) :
    GSs (cxOf CX0 P w K mg base N_swings_by "swings_by" (defScope s_swings_by) f cdv A outer s H E0).nox (defBody s_swings_by) (body_swings_by γ_rings_by) := by
  exact gss_one (gs_ret (g_callTy c_tuple (by rfl) B.tuple bt_tuple (ga_cons (g_lc (own := [("ring", 1)])  rfl sc_swings_by.nd (gi_seq (g_call h_rings_by hr hgd (Nat.le_refl _) (by rfl) (ga_cons (g_var 0) (ga_nil)))) (blkOk_by (own := [("ring", 1)]) (N := N_swings_by) (sc := defScope s_swings_by) (by decide +kernel)) (fun _ _ _ _ _ => ggc_name 1 sc_swings_by.nd) (fun _ _ _ _ _ => gts_one (gt_cmp (o_eq hr.units) (g_callB c_len (by rfl) B.len bt_len (ga_cons (g_var 1) (ga_nil))) (g_int))) (fun _ _ _ _ _ => g_var 1)) (ga_nil))))
abbrev s_swings : Stmt := topS 38
abbrev N_swings : List Str := ["net"]
theorem sc_swings : FnScope N_swings ["net"] (defScope s_swings) := ⟨rfl, rfl, rfl, by decide +kernel, rfl, by decide +kernel, by decide +kernel⟩
theorem tm_swings {γ_check_net : OL} {γ_swings_by : OL} {f_check_net f_swings_by : Addr} {fd_check_net fd_swings_by : FuncData} {f : Addr} {cdv : Value} {A : Around} {outer : List Env} {s : Shared} {H : Hp} (B : Blt mg) (h_check_net : Has P w K mg base k "check_net" f_check_net fd_check_net ["value"] γ_check_net) (h_swings_by : Has P w K mg base k "swings_by" f_swings_by fd_swings_by ["net"] γ_swings_by)
    (hr : Room k (A.deeper (envOfC "swings" (defScope s_swings) s.heap.objs.size f cdv))) (hgd : (A.deeper (envOfC "swings" (defScope s_swings) s.heap.objs.size f cdv)).guards = some []) :
    GSs (cxOf CX0 P w K mg base N_swings "swings" (defScope s_swings) f cdv A outer s H E0).nox (defBody s_swings) (body_swings γ_check_net γ_swings_by) := by
  exact gss_cons (gs_expr (g_call h_check_net hr hgd (Nat.le_refl _) (by rfl) (ga_cons (g_var 0) (ga_nil))))
    (gss_one (gs_ret (g_call h_swings_by hr hgd (Nat.le_refl _) (by rfl) (ga_cons (g_var 0) (ga_nil)))))
abbrev s__law_right : Stmt := topS 63
abbrev N__law_right : List Str := ["well", "net", "every", "due", "pairs", "few", "steps", "ring", "at"]
theorem sc__law_right : FnScope N__law_right ["well"] (defScope s__law_right) := ⟨rfl, rfl, rfl, by decide +kernel, rfl, by decide +kernel, by decide +kernel⟩
theorem tm__law_right {γ__law_net : OL} {γ__law_one : OL} {γ__law_wishes : OL} {γ__law_all_rings : OL} {γ__law_as_states : OL} {γ_rings : OL} {γ__law_are_states_right : OL} {γ_swings : OL} {f__law_net f__law_one f__law_wishes f__law_all_rings f__law_as_states f_rings f__law_are_states_right f_swings : Addr} {fd__law_net fd__law_one fd__law_wishes fd__law_all_rings fd__law_as_states fd_rings fd__law_are_states_right fd_swings : FuncData} {f : Addr} {cdv : Value} {A : Around} {outer : List Env} {s : Shared} {H : Hp} (B : Blt mg) (h__law_net : Has P w K mg base k "_law_net" f__law_net fd__law_net ["well", "few"] γ__law_net) (h__law_one : Has P w K mg base k "_law_one" f__law_one fd__law_one ["well", "some"] γ__law_one) (h__law_wishes : Has P w K mg base k "_law_wishes" f__law_wishes fd__law_wishes ["net"] γ__law_wishes) (h__law_all_rings : Has P w K mg base k "_law_all_rings" f__law_all_rings fd__law_all_rings ["steps"] γ__law_all_rings) (h__law_as_states : Has P w K mg base k "_law_as_states" f__law_as_states fd__law_as_states ["numbers", "few"] γ__law_as_states) (h_rings : Has P w K mg base k "rings" f_rings fd_rings ["net"] γ_rings) (h__law_are_states_right : Has P w K mg base k "_law_are_states_right" f__law_are_states_right fd__law_are_states_right ["well", "net", "steps"] γ__law_are_states_right) (h_swings : Has P w K mg base k "swings" f_swings fd_swings ["net"] γ_swings) (kb_rings_0 : KB fd_rings ["net"] ["net"] 0 [0]) (kb_swings_0 : KB fd_swings ["net"] ["net"] 0 [0])
    (hr : Room k (A.deeper (envOfC "_law_right" (defScope s__law_right) s.heap.objs.size f cdv))) (hgd : (A.deeper (envOfC "_law_right" (defScope s__law_right) s.heap.objs.size f cdv)).guards = some []) :
    GSs (cxOf CX0 P w K mg base N__law_right "_law_right" (defScope s__law_right) f cdv A outer s H E0).nox (defBody s__law_right) (body__law_right γ__law_net γ__law_one γ__law_wishes γ__law_all_rings γ__law_as_states γ_rings γ__law_are_states_right γ_swings) := by
  exact gss_cons (gs_set 1 sc__law_right.nd (g_call h__law_net hr hgd (Nat.le_refl _) (by rfl) (ga_cons (g_var 0) (ga_cons (g_call h__law_one hr hgd (Nat.le_refl _) (by rfl) (ga_cons (g_var 0) (ga_cons (g_tup (ga_cons (g_int) (ga_cons (g_int) (ga_cons (g_int) (ga_cons (g_int) (ga_cons (g_int) (ga_cons (g_int) (ga_nil)))))))) (ga_nil)))) (ga_nil)))))
    (gss_cons (gs_asg (g_tup (ga_cons (g_callB c_len (by rfl) B.len bt_len (ga_cons (g_ix o_ix (g_var 1) (g_int)) (ga_nil))) (ga_cons (g_call h__law_wishes hr hgd (Nat.le_refl _) (by rfl) (ga_cons (g_var 1) (ga_nil))) (ga_nil)))) (gg_tup rfl (ggs_cons (gg_name 5 sc__law_right.nd) (ggs_cons (gg_name 6 sc__law_right.nd) (ggs_nil)))))
    (gss_cons (gs_set 2 sc__law_right.nd (g_call h__law_all_rings hr hgd (Nat.le_refl _) (by rfl) (ga_cons (g_var 6) (ga_nil))))
    (gss_cons (gs_set 3 sc__law_right.nd (g_callTy c_tuple (by rfl) B.tuple bt_tuple (ga_cons (g_lc (own := [("ring", 7)])  rfl sc__law_right.nd (gi_seq (g_var 2)) (blkOk_by (own := [("ring", 7)]) (N := N__law_right) (sc := defScope s__law_right) (by decide +kernel)) (fun _ _ _ _ _ => ggc_name 7 sc__law_right.nd) (fun _ _ _ _ _ => gts_nil) (fun _ _ _ _ _ => g_call h__law_as_states hr hgd (Nat.le_refl _) (by rfl) (ga_cons (g_var 7) (ga_cons (g_var 5) (ga_nil))))) (ga_nil))))
    (gss_cons (gs_if (gw_pt (gw_or (gt_cmp o_neS (g_callB (c_repr hr hgd) (by rfl) B.repr bt_repr (ga_cons (g_lst (ga_cons (g_call h_rings hr hgd (Nat.le_refl _) (by rfl) (ga_cons (g_var 1) (ga_nil))) (ga_cons (g_callK0 h_rings kb_rings_0 hr hgd (Nat.le_refl _) (by rfl) (gk_cons (g_var 1) (gk_nil))) (ga_nil)))) (ga_nil))) (g_callB (c_repr hr hgd) (by rfl) B.repr bt_repr (ga_cons (g_lst (ga_cons (g_var 3) (ga_cons (g_var 3) (ga_nil)))) (ga_nil)))) (gw_or1 (gt_not (gt_val (g_call h__law_are_states_right hr hgd (Nat.le_refl _) (by rfl) (ga_cons (g_var 0) (ga_cons (g_var 1) (ga_cons (g_var 6) (ga_nil)))))))))) (gss_one (gs_ret (g_bl))) (gss_nil))
    (gss_cons (gs_if (gt_cmp (o_ne hr.units) (g_lc (own := [("ring", 7)])  rfl sc__law_right.nd (gi_seq (g_var 2)) (blkOk_by (own := [("ring", 7)]) (N := N__law_right) (sc := defScope s__law_right) (by decide +kernel)) (fun _ _ _ _ _ => ggc_name 7 sc__law_right.nd) (fun _ _ _ _ _ => gts_one (gt_cmp (o_eq hr.units) (g_callB c_len (by rfl) B.len bt_len (ga_cons (g_var 7) (ga_nil))) (g_int))) (fun _ _ _ _ _ => g_ix o_ix (g_var 7) (g_int))) (g_lc (own := [("at", 8)])  rfl sc__law_right.nd (gi_range1 (by rfl) B.range (ga_cons (g_bin o_shl (g_int) (g_var 5)) (ga_nil))) (blkOk_by (own := [("at", 8)]) (N := N__law_right) (sc := defScope s__law_right) (by decide +kernel)) (fun _ _ _ _ _ => ggc_name 8 sc__law_right.nd) (fun _ _ _ _ _ => gts_one (gt_cmp (o_eq hr.units) (g_ix o_ix (g_var 6) (g_var 8)) (g_var 8))) (fun _ _ _ _ _ => g_var 8))) (gss_one (gs_ret (g_bl))) (gss_nil))
    (gss_cons (gs_set 4 sc__law_right.nd (g_callTy c_tuple (by rfl) B.tuple bt_tuple (ga_cons (g_lc (own := [("ring", 7)])  rfl sc__law_right.nd (gi_seq (g_var 2)) (blkOk_by (own := [("ring", 7)]) (N := N__law_right) (sc := defScope s__law_right) (by decide +kernel)) (fun _ _ _ _ _ => ggc_name 7 sc__law_right.nd) (fun _ _ _ _ _ => gts_one (gt_cmp (o_eq hr.units) (g_callB c_len (by rfl) B.len bt_len (ga_cons (g_var 7) (ga_nil))) (g_int))) (fun _ _ _ _ _ => g_call h__law_as_states hr hgd (Nat.le_refl _) (by rfl) (ga_cons (g_var 7) (ga_cons (g_var 5) (ga_nil))))) (ga_nil))))
    (gss_one (gs_ret (g_cmp o_eqS (g_callB (c_repr hr hgd) (by rfl) B.repr bt_repr (ga_cons (g_lst (ga_cons (g_call h_swings hr hgd (Nat.le_refl _) (by rfl) (ga_cons (g_var 1) (ga_nil))) (ga_cons (g_callK0 h_swings kb_swings_0 hr hgd (Nat.le_refl _) (by rfl) (gk_cons (g_var 1) (gk_nil))) (ga_nil)))) (ga_nil))) (g_callB (c_repr hr hgd) (by rfl) B.repr bt_repr (ga_cons (g_lst (ga_cons (g_var 4) (ga_cons (g_var 4) (ga_nil)))) (ga_nil))))))))))))
abbrev s__law_well : Stmt := topS 43
abbrev N__law_well : List Str := ["script", "lap", "mixed", "cell", "own"]
theorem sc__law_well : FnScope N__law_well ["script", "lap"] (defScope s__law_well) := ⟨rfl, rfl, rfl, by decide +kernel, rfl, by decide +kernel, by decide +kernel⟩
theorem tm__law_well {f : Addr} {cdv : Value} {A : Around} {outer : List Env} {s : Shared} {H : Hp} (B : Blt mg)
    (hr : Room k (A.deeper (envOfC "_law_well" (defScope s__law_well) s.heap.objs.size f cdv))) (hgd : (A.deeper (envOfC "_law_well" (defScope s__law_well) s.heap.objs.size f cdv)).guards = some []) :
    GSs (cxOf CX0 P w K mg base N__law_well "_law_well" (defScope s__law_well) f cdv A outer s H E0).nox (defBody s__law_well) (body__law_well) := by
  exact gss_cons (gs_set 2 sc__law_well.nd (g_bin o_add (g_int) (g_bin o_mul (g_int) (g_var 1))))
    (gss_cons (gs_for PassesOwn.never rfl (gi_seq (g_slice (g_var 0) (go_none) (go_some (g_int)))) (gg_name 3 sc__law_well.nd) (gss_one (gs_set 2 sc__law_well.nd (g_bin o_mod (g_callTy c_int (by rfl) B.int bt_int (ga_cons (g_bin o_add (g_bin o_add (g_bin o_mul (g_var 2) (g_int)) (g_bin o_mul (g_bin o_mod (g_callTy c_int (by rfl) B.int bt_int (ga_cons (g_var 3) (ga_nil))) (g_int)) (g_int))) (g_int)) (ga_nil))) (g_int)))))
    (gss_cons (gs_set 4 sc__law_well.nd (g_ifExp (gt_cmp o_lt (g_var 1) (g_callB c_len (by rfl) B.len bt_len (ga_cons (g_var 0) (ga_nil)))) (g_callTy c_int (by rfl) B.int bt_int (ga_cons (g_ix o_ix (g_var 0) (g_var 1)) (ga_nil))) (g_int)))
    (gss_cons (gs_set 2 sc__law_well.nd (g_bin o_mod (g_callTy c_int (by rfl) B.int bt_int (ga_cons (g_bin o_add (g_bin o_add (g_bin o_mul (g_var 2) (g_int)) (g_bin o_mul (g_bin o_mod (g_callTy c_int (by rfl) B.int bt_int (ga_cons (g_var 4) (ga_nil))) (g_int)) (g_int))) (g_int)) (ga_nil))) (g_int)))
    (gss_one (gs_ret (g_lstM (ga_cons (g_ifExp (gw_pt (gw_or (gt_cmp o_lt (g_var 4) (g_int)) (gw_or1 (gt_cmp o_ge (g_var 4) (g_bin o_pow (g_int) (g_int)))))) (g_callB c_abs (by rfl) B.abs bt_abs (ga_cons (g_var 4) (ga_nil))) (g_int)) (ga_cons (g_var 2) (ga_cons (g_int) (ga_nil))))))))))
abbrev s_law : Stmt := topS 64
abbrev N_law : List Str := ["script", "lap"]
theorem sc_law : FnScope N_law ["script"] (defScope s_law) := ⟨rfl, rfl, rfl, by decide +kernel, rfl, by decide +kernel, by decide +kernel⟩
theorem tm_law {γ__law_right : OL} {γ__law_well : OL} {f__law_right f__law_well : Addr} {fd__law_right fd__law_well : FuncData} {f : Addr} {cdv : Value} {A : Around} {outer : List Env} {s : Shared} {H : Hp} (B : Blt mg) (h__law_right : Has P w K mg base k "_law_right" f__law_right fd__law_right ["well"] γ__law_right) (h__law_well : Has P w K mg base k "_law_well" f__law_well fd__law_well ["script", "lap"] γ__law_well)
    (hr : Room k (A.deeper (envOfC "law" (defScope s_law) s.heap.objs.size f cdv))) (hgd : (A.deeper (envOfC "law" (defScope s_law) s.heap.objs.size f cdv)).guards = some []) :
    GSs (cxOf CX0 P w K mg base N_law "law" (defScope s_law) f cdv A outer s H E0).nox (defBody s_law) (body_law γ__law_right γ__law_well) := by
  exact gss_one (gs_ret (g_callB (c_all rfl) (by rfl) B.all bt_all (ga_cons (g_lc (own := [("lap", 1)])  rfl sc_law.nd (gi_range1 (by rfl) B.range (ga_cons (g_callB (c_max2 rfl) (by rfl) B.max bt_max (ga_cons (g_int) (ga_cons (g_callB (c_min2 rfl) (by rfl) B.min bt_min (ga_cons (g_callB c_len (by rfl) B.len bt_len (ga_cons (g_var 0) (ga_nil))) (ga_cons (g_int) (ga_nil)))) (ga_nil)))) (ga_nil))) (blkOk_by (own := [("lap", 1)]) (N := N_law) (sc := defScope s_law) (by decide +kernel)) (fun _ _ _ _ _ => ggc_name 1 sc_law.nd) (fun _ _ _ _ _ => gts_nil) (fun _ _ _ _ _ => g_call h__law_right hr hgd (Nat.le_refl _) (by rfl) (ga_cons (g_call h__law_well hr hgd (Nat.le_refl _) (by rfl) (ga_cons (g_var 0) (ga_cons (g_var 1) (ga_nil)))) (ga_nil)))) (ga_nil))))
end
end K11

namespace K11
open PySem PySem.Spec PyProof.Rows L2 Gx
section
variable {P : Program} {w : World} {K : PySem.W.Frag} {mg : Str → Option Value} {base : Heap} {k : Nat}
theorem gf__law_draw {f : Addr} {fd : FuncData} (F : Fun K "_law_draw" "_law_draw" s__law_draw f fd) (B : Blt mg) : GFn P w K mg base (k + 1) f fd ["well", "few"] (γ_draw) :=
  gfn_of F sc__law_draw (by intro ds S R h; unfold γ_draw at h; first | (obtain ⟨e, _⟩ := h; subst e; rfl) | (split at h <;> first | rfl | exact h.elim) | (obtain ⟨_, e, _⟩ := h; subst e; rfl) | (obtain ⟨_, _, e, _⟩ := h; subst e; rfl) | (obtain ⟨_, _, _, e, _⟩ := h; subst e; rfl) | (obtain ⟨_, _, _, _, e, _⟩ := h; subst e; rfl) | (obtain ⟨_, _, _, _, _, e, _⟩ := h; subst e; rfl) | (obtain ⟨_, _, _, _, _, _, e, _⟩ := h; subst e; rfl)) fun cdv A outer s H hr hgd => ⟨_, tm__law_draw B hr hgd, fun ds S R q => (law_draw) ds S R q⟩
theorem gf__law_one {f__law_draw : Addr} {fd__law_draw : FuncData} {f : Addr} {fd : FuncData} (F : Fun K "_law_one" "_law_one" s__law_one f fd) (B : Blt mg) (h__law_draw : Has P w K mg base k "_law_draw" f__law_draw fd__law_draw ["well", "few"] (γ_draw)) : GFn P w K mg base (k + 1) f fd ["well", "some"] (γ_one) :=
  gfn_of F sc__law_one (by intro ds S R h; unfold γ_one at h; first | (obtain ⟨e, _⟩ := h; subst e; rfl) | (split at h <;> first | rfl | exact h.elim) | (obtain ⟨_, e, _⟩ := h; subst e; rfl) | (obtain ⟨_, _, e, _⟩ := h; subst e; rfl) | (obtain ⟨_, _, _, e, _⟩ := h; subst e; rfl) | (obtain ⟨_, _, _, _, e, _⟩ := h; subst e; rfl) | (obtain ⟨_, _, _, _, _, e, _⟩ := h; subst e; rfl) | (obtain ⟨_, _, _, _, _, _, e, _⟩ := h; subst e; rfl)) fun cdv A outer s H hr hgd => ⟨_, tm__law_one B h__law_draw hr hgd, fun ds S R q => (law_one) ds S R q⟩
theorem gf__law_wheel {f__law_one : Addr} {fd__law_one : FuncData} {f : Addr} {fd : FuncData} (F : Fun K "_law_wheel" "_law_wheel" s__law_wheel f fd) (B : Blt mg) (h__law_one : Has P w K mg base k "_law_one" f__law_one fd__law_one ["well", "some"] (γ_one)) : GFn P w K mg base (k + 1) f fd ["well", "few"] (γ_wheel (Bd 1 1) (Bd 1 2)) :=
  gfn_of F sc__law_wheel (by intro ds S R h; unfold γ_wheel at h; first | (obtain ⟨e, _⟩ := h; subst e; rfl) | (split at h <;> first | rfl | exact h.elim) | (obtain ⟨_, e, _⟩ := h; subst e; rfl) | (obtain ⟨_, _, e, _⟩ := h; subst e; rfl) | (obtain ⟨_, _, _, e, _⟩ := h; subst e; rfl) | (obtain ⟨_, _, _, _, e, _⟩ := h; subst e; rfl) | (obtain ⟨_, _, _, _, _, e, _⟩ := h; subst e; rfl) | (obtain ⟨_, _, _, _, _, _, e, _⟩ := h; subst e; rfl)) fun cdv A outer s H hr hgd => ⟨_, tm__law_wheel B h__law_one hr hgd, fun ds S R q => (b_law_wheel) ds S R q⟩
theorem gf__law_lean {f : Addr} {fd : FuncData} (F : Fun K "_law_lean" "_law_lean" s__law_lean f fd) (B : Blt mg) : GFn P w K mg base (k + 1) f fd ["top", "base"] (γ_ratio) :=
  gfn_of F sc__law_lean (by intro ds S R h; unfold γ_ratio at h; first | (obtain ⟨e, _⟩ := h; subst e; rfl) | (split at h <;> first | rfl | exact h.elim) | (obtain ⟨_, e, _⟩ := h; subst e; rfl) | (obtain ⟨_, _, e, _⟩ := h; subst e; rfl) | (obtain ⟨_, _, _, e, _⟩ := h; subst e; rfl) | (obtain ⟨_, _, _, _, e, _⟩ := h; subst e; rfl) | (obtain ⟨_, _, _, _, _, e, _⟩ := h; subst e; rfl) | (obtain ⟨_, _, _, _, _, _, e, _⟩ := h; subst e; rfl)) fun cdv A outer s H hr hgd => ⟨_, tm__law_lean B hr hgd, fun ds S R q => (law_lean) ds S R q⟩
theorem gf__law_weight {f__law_draw f__law_lean f__law_one : Addr} {fd__law_draw fd__law_lean fd__law_one : FuncData} {f : Addr} {fd : FuncData} (F : Fun K "_law_weight" "_law_weight" s__law_weight f fd) (B : Blt mg) (h__law_draw : Has P w K mg base k "_law_draw" f__law_draw fd__law_draw ["well", "few"] (γ_draw)) (h__law_lean : Has P w K mg base k "_law_lean" f__law_lean fd__law_lean ["top", "base"] (γ_ratio)) (h__law_one : Has P w K mg base k "_law_one" f__law_one fd__law_one ["well", "some"] (γ_one)) : GFn P w K mg base (k + 1) f fd ["well"] (γ_frac PB) :=
  gfn_of F sc__law_weight (by intro ds S R h; unfold γ_frac at h; first | (obtain ⟨e, _⟩ := h; subst e; rfl) | (split at h <;> first | rfl | exact h.elim) | (obtain ⟨_, e, _⟩ := h; subst e; rfl) | (obtain ⟨_, _, e, _⟩ := h; subst e; rfl) | (obtain ⟨_, _, _, e, _⟩ := h; subst e; rfl) | (obtain ⟨_, _, _, _, e, _⟩ := h; subst e; rfl) | (obtain ⟨_, _, _, _, _, e, _⟩ := h; subst e; rfl) | (obtain ⟨_, _, _, _, _, _, e, _⟩ := h; subst e; rfl)) fun cdv A outer s H hr hgd => ⟨_, tm__law_weight B h__law_draw h__law_lean h__law_one hr hgd, fun ds S R q => (b_law_weight) ds S R q⟩
theorem gf__law_marks {f__law_one f__law_draw f__law_weight : Addr} {fd__law_one fd__law_draw fd__law_weight : FuncData} {f : Addr} {fd : FuncData} (F : Fun K "_law_marks" "_law_marks" s__law_marks f fd) (B : Blt mg) (h__law_one : Has P w K mg base k "_law_one" f__law_one fd__law_one ["well", "some"] (γ_one)) (h__law_draw : Has P w K mg base k "_law_draw" f__law_draw fd__law_draw ["well", "few"] (γ_draw)) (h__law_weight : Has P w K mg base k "_law_weight" f__law_weight fd__law_weight ["well"] (γ_frac PB)) : GFn P w K mg base (k + 1) f fd ["well", "few"] (γ_marks PB) :=
  gfn_of F sc__law_marks (by intro ds S R h; unfold γ_marks at h; first | (obtain ⟨e, _⟩ := h; subst e; rfl) | (split at h <;> first | rfl | exact h.elim) | (obtain ⟨_, e, _⟩ := h; subst e; rfl) | (obtain ⟨_, _, e, _⟩ := h; subst e; rfl) | (obtain ⟨_, _, _, e, _⟩ := h; subst e; rfl) | (obtain ⟨_, _, _, _, e, _⟩ := h; subst e; rfl) | (obtain ⟨_, _, _, _, _, e, _⟩ := h; subst e; rfl) | (obtain ⟨_, _, _, _, _, _, e, _⟩ := h; subst e; rfl)) fun cdv A outer s H hr hgd => ⟨_, tm__law_marks B h__law_one h__law_draw h__law_weight hr hgd, fun ds S R q => (b_law_marks) ds S R q⟩
theorem gf__law_any_net {f__law_weight f__law_marks : Addr} {fd__law_weight fd__law_marks : FuncData} {f : Addr} {fd : FuncData} (F : Fun K "_law_any_net" "_law_any_net" s__law_any_net f fd) (B : Blt mg) (h__law_weight : Has P w K mg base k "_law_weight" f__law_weight fd__law_weight ["well"] (γ_frac PB)) (h__law_marks : Has P w K mg base k "_law_marks" f__law_marks fd__law_marks ["well", "few"] (γ_marks PB)) : GFn P w K mg base (k + 1) f fd ["well", "few"] (γ_net PB PB) :=
  gfn_of F sc__law_any_net (by intro ds S R h; unfold γ_net at h; first | (obtain ⟨e, _⟩ := h; subst e; rfl) | (split at h <;> first | rfl | exact h.elim) | (obtain ⟨_, e, _⟩ := h; subst e; rfl) | (obtain ⟨_, _, e, _⟩ := h; subst e; rfl) | (obtain ⟨_, _, _, e, _⟩ := h; subst e; rfl) | (obtain ⟨_, _, _, _, e, _⟩ := h; subst e; rfl) | (obtain ⟨_, _, _, _, _, e, _⟩ := h; subst e; rfl) | (obtain ⟨_, _, _, _, _, _, e, _⟩ := h; subst e; rfl)) fun cdv A outer s H hr hgd => ⟨_, tm__law_any_net B h__law_weight h__law_marks hr hgd, fun ds S R q => (b_law_any) ds S R q⟩
theorem gf__law_over {f__law_lean : Addr} {fd__law_lean : FuncData} {f : Addr} {fd : FuncData} (F : Fun K "_law_over" "_law_over" s__law_over f fd) (B : Blt mg) (h__law_lean : Has P w K mg base k "_law_lean" f__law_lean fd__law_lean ["top", "base"] (γ_ratio)) : GFn P w K mg base (k + 1) f fd ["x", "y"] (γ_over) :=
  gfn_of F sc__law_over (by intro ds S R h; unfold γ_over at h; first | (obtain ⟨e, _⟩ := h; subst e; rfl) | (split at h <;> first | rfl | exact h.elim) | (obtain ⟨_, e, _⟩ := h; subst e; rfl) | (obtain ⟨_, _, e, _⟩ := h; subst e; rfl) | (obtain ⟨_, _, _, e, _⟩ := h; subst e; rfl) | (obtain ⟨_, _, _, _, e, _⟩ := h; subst e; rfl) | (obtain ⟨_, _, _, _, _, e, _⟩ := h; subst e; rfl) | (obtain ⟨_, _, _, _, _, _, e, _⟩ := h; subst e; rfl)) fun cdv A outer s H hr hgd => ⟨_, tm__law_over B h__law_lean hr hgd, fun ds S R q => (law_over) ds S R q⟩
theorem gf__law_scaled_net {f__law_draw f__law_one f__law_weight f__law_over f__law_marks : Addr} {fd__law_draw fd__law_one fd__law_weight fd__law_over fd__law_marks : FuncData} {f : Addr} {fd : FuncData} (F : Fun K "_law_scaled_net" "_law_scaled_net" s__law_scaled_net f fd) (B : Blt mg) (h__law_draw : Has P w K mg base k "_law_draw" f__law_draw fd__law_draw ["well", "few"] (γ_draw)) (h__law_one : Has P w K mg base k "_law_one" f__law_one fd__law_one ["well", "some"] (γ_one)) (h__law_weight : Has P w K mg base k "_law_weight" f__law_weight fd__law_weight ["well"] (γ_frac PB)) (h__law_over : Has P w K mg base k "_law_over" f__law_over fd__law_over ["x", "y"] (γ_over)) (h__law_marks : Has P w K mg base k "_law_marks" f__law_marks fd__law_marks ["well", "few"] (γ_marks PB)) : GFn P w K mg base (k + 1) f fd ["well", "few"] (γ_scaled2) :=
  gfn_of F sc__law_scaled_net (by intro ds S R h; unfold γ_scaled2 at h; first | (obtain ⟨e, _⟩ := h; subst e; rfl) | (split at h <;> first | rfl | exact h.elim) | (obtain ⟨_, e, _⟩ := h; subst e; rfl) | (obtain ⟨_, _, e, _⟩ := h; subst e; rfl) | (obtain ⟨_, _, _, e, _⟩ := h; subst e; rfl) | (obtain ⟨_, _, _, _, e, _⟩ := h; subst e; rfl) | (obtain ⟨_, _, _, _, _, e, _⟩ := h; subst e; rfl) | (obtain ⟨_, _, _, _, _, _, e, _⟩ := h; subst e; rfl)) fun cdv A outer s H hr hgd => ⟨_, tm__law_scaled_net B h__law_draw h__law_one h__law_weight h__law_over h__law_marks hr hgd, fun ds S R q => (b_law_scaled) ds S R q⟩
theorem gf__law_net {f__law_draw f__law_wheel f__law_any_net f__law_scaled_net : Addr} {fd__law_draw fd__law_wheel fd__law_any_net fd__law_scaled_net : FuncData} {f : Addr} {fd : FuncData} (F : Fun K "_law_net" "_law_net" s__law_net f fd) (B : Blt mg) (h__law_draw : Has P w K mg base k "_law_draw" f__law_draw fd__law_draw ["well", "few"] (γ_draw)) (h__law_wheel : Has P w K mg base k "_law_wheel" f__law_wheel fd__law_wheel ["well", "few"] (γ_wheel (Bd 1 1) (Bd 1 2))) (h__law_any_net : Has P w K mg base k "_law_any_net" f__law_any_net fd__law_any_net ["well", "few"] (γ_net PB PB)) (h__law_scaled_net : Has P w K mg base k "_law_scaled_net" f__law_scaled_net fd__law_scaled_net ["well", "few"] (γ_scaled2)) : GFn P w K mg base (k + 1) f fd ["well", "few"] (γ_net PN PN) :=
  gfn_of F sc__law_net (by intro ds S R h; unfold γ_net at h; first | (obtain ⟨e, _⟩ := h; subst e; rfl) | (split at h <;> first | rfl | exact h.elim) | (obtain ⟨_, e, _⟩ := h; subst e; rfl) | (obtain ⟨_, _, e, _⟩ := h; subst e; rfl) | (obtain ⟨_, _, _, e, _⟩ := h; subst e; rfl) | (obtain ⟨_, _, _, _, e, _⟩ := h; subst e; rfl) | (obtain ⟨_, _, _, _, _, e, _⟩ := h; subst e; rfl) | (obtain ⟨_, _, _, _, _, _, e, _⟩ := h; subst e; rfl)) fun cdv A outer s H hr hgd => ⟨_, tm__law_net B h__law_draw h__law_wheel h__law_any_net h__law_scaled_net hr hgd, fun ds S R q => (b_law_net) ds S R q⟩
theorem gf__law_below {f : Addr} {fd : FuncData} (F : Fun K "_law_below" "_law_below" s__law_below f fd) (B : Blt mg) : GFn P w K mg base (k + 1) f fd ["x", "y"] (γ_is_less) :=
  gfn_of F sc__law_below (by intro ds S R h; unfold γ_is_less at h; first | (obtain ⟨e, _⟩ := h; subst e; rfl) | (split at h <;> first | rfl | exact h.elim) | (obtain ⟨_, e, _⟩ := h; subst e; rfl) | (obtain ⟨_, _, e, _⟩ := h; subst e; rfl) | (obtain ⟨_, _, _, e, _⟩ := h; subst e; rfl) | (obtain ⟨_, _, _, _, e, _⟩ := h; subst e; rfl) | (obtain ⟨_, _, _, _, _, e, _⟩ := h; subst e; rfl) | (obtain ⟨_, _, _, _, _, _, e, _⟩ := h; subst e; rfl)) fun cdv A outer s H hr hgd => ⟨_, tm__law_below B hr hgd, fun ds S R q => (law_is_less) ds S R q⟩
theorem gf__law_plus {f__law_lean : Addr} {fd__law_lean : FuncData} {f : Addr} {fd : FuncData} (F : Fun K "_law_plus" "_law_plus" s__law_plus f fd) (B : Blt mg) (h__law_lean : Has P w K mg base k "_law_lean" f__law_lean fd__law_lean ["top", "base"] (γ_ratio)) : GFn P w K mg base (k + 1) f fd ["x", "y"] (γ_plus) :=
  gfn_of F sc__law_plus (by intro ds S R h; unfold γ_plus at h; first | (obtain ⟨e, _⟩ := h; subst e; rfl) | (split at h <;> first | rfl | exact h.elim) | (obtain ⟨_, e, _⟩ := h; subst e; rfl) | (obtain ⟨_, _, e, _⟩ := h; subst e; rfl) | (obtain ⟨_, _, _, e, _⟩ := h; subst e; rfl) | (obtain ⟨_, _, _, _, e, _⟩ := h; subst e; rfl) | (obtain ⟨_, _, _, _, _, e, _⟩ := h; subst e; rfl) | (obtain ⟨_, _, _, _, _, _, e, _⟩ := h; subst e; rfl)) fun cdv A outer s H hr hgd => ⟨_, tm__law_plus B h__law_lean hr hgd, fun ds S R q => (law_plus) ds S R q⟩
theorem gf__law_heard {f__law_plus : Addr} {fd__law_plus : FuncData} {f : Addr} {fd : FuncData} (F : Fun K "_law_heard" "_law_heard" s__law_heard f fd) (B : Blt mg) (h__law_plus : Has P w K mg base k "_law_plus" f__law_plus fd__law_plus ["x", "y"] (γ_plus)) : GFn P w K mg base (k + 1) f fd ["net", "cell", "number"] (γ_lheardN) :=
  gfn_of F sc__law_heard (by intro ds S R h; unfold γ_lheardN at h; first | (obtain ⟨e, _⟩ := h; subst e; rfl) | (split at h <;> first | rfl | exact h.elim) | (obtain ⟨_, e, _⟩ := h; subst e; rfl) | (obtain ⟨_, _, e, _⟩ := h; subst e; rfl) | (obtain ⟨_, _, _, e, _⟩ := h; subst e; rfl) | (obtain ⟨_, _, _, _, e, _⟩ := h; subst e; rfl) | (obtain ⟨_, _, _, _, _, e, _⟩ := h; subst e; rfl) | (obtain ⟨_, _, _, _, _, _, e, _⟩ := h; subst e; rfl)) fun cdv A outer s H hr hgd => ⟨_, tm__law_heard B h__law_plus hr hgd, fun ds S R q => (law_lheardN) ds S R q⟩
theorem gf__law_wishes {f__law_below f__law_heard : Addr} {fd__law_below fd__law_heard : FuncData} {f : Addr} {fd : FuncData} (F : Fun K "_law_wishes" "_law_wishes" s__law_wishes f fd) (B : Blt mg) (h__law_below : Has P w K mg base k "_law_below" f__law_below fd__law_below ["x", "y"] (γ_is_less)) (h__law_heard : Has P w K mg base k "_law_heard" f__law_heard fd__law_heard ["net", "cell", "number"] (γ_lheardN)) : GFn P w K mg base (k + 1) f fd ["net"] (γ_wishes) :=
  gfn_of F sc__law_wishes (by intro ds S R h; unfold γ_wishes at h; first | (obtain ⟨e, _⟩ := h; subst e; rfl) | (split at h <;> first | rfl | exact h.elim) | (obtain ⟨_, e, _⟩ := h; subst e; rfl) | (obtain ⟨_, _, e, _⟩ := h; subst e; rfl) | (obtain ⟨_, _, _, e, _⟩ := h; subst e; rfl) | (obtain ⟨_, _, _, _, e, _⟩ := h; subst e; rfl) | (obtain ⟨_, _, _, _, _, e, _⟩ := h; subst e; rfl) | (obtain ⟨_, _, _, _, _, _, e, _⟩ := h; subst e; rfl)) fun cdv A outer s H hr hgd => ⟨_, tm__law_wishes B h__law_below h__law_heard hr hgd, fun ds S R q => (law_wishes) ds S R q⟩
theorem gf__law_tail {f : Addr} {fd : FuncData} (F : Fun K "_law_tail" "_law_tail" s__law_tail f fd) (B : Blt mg) : GFn P w K mg base (k + 1) f fd ["steps", "number"] (γ_ltail) :=
  gfn_of F sc__law_tail (by intro ds S R h; unfold γ_ltail at h; first | (obtain ⟨e, _⟩ := h; subst e; rfl) | (split at h <;> first | rfl | exact h.elim) | (obtain ⟨_, e, _⟩ := h; subst e; rfl) | (obtain ⟨_, _, e, _⟩ := h; subst e; rfl) | (obtain ⟨_, _, _, e, _⟩ := h; subst e; rfl) | (obtain ⟨_, _, _, _, e, _⟩ := h; subst e; rfl) | (obtain ⟨_, _, _, _, _, e, _⟩ := h; subst e; rfl) | (obtain ⟨_, _, _, _, _, _, e, _⟩ := h; subst e; rfl)) fun cdv A outer s H hr hgd => ⟨_, tm__law_tail B hr hgd, fun ds S R q => (law_ltail) ds S R q⟩
theorem gf__law_all_rings {f__law_tail : Addr} {fd__law_tail : FuncData} {f : Addr} {fd : FuncData} (F : Fun K "_law_all_rings" "_law_all_rings" s__law_all_rings f fd) (B : Blt mg) (h__law_tail : Has P w K mg base k "_law_tail" f__law_tail fd__law_tail ["steps", "number"] (γ_ltail)) : GFn P w K mg base (k + 1) f fd ["steps"] (γ_lrings) :=
  gfn_of F sc__law_all_rings (by intro ds S R h; unfold γ_lrings at h; first | (obtain ⟨e, _⟩ := h; subst e; rfl) | (split at h <;> first | rfl | exact h.elim) | (obtain ⟨_, e, _⟩ := h; subst e; rfl) | (obtain ⟨_, _, e, _⟩ := h; subst e; rfl) | (obtain ⟨_, _, _, e, _⟩ := h; subst e; rfl) | (obtain ⟨_, _, _, _, e, _⟩ := h; subst e; rfl) | (obtain ⟨_, _, _, _, _, e, _⟩ := h; subst e; rfl) | (obtain ⟨_, _, _, _, _, _, e, _⟩ := h; subst e; rfl)) fun cdv A outer s H hr hgd => ⟨_, tm__law_all_rings B h__law_tail hr hgd, fun ds S R q => (law_lrings) ds S R q⟩
theorem gf__law_as_state {f : Addr} {fd : FuncData} (F : Fun K "_law_as_state" "_law_as_state" s__law_as_state f fd) (B : Blt mg) : GFn P w K mg base (k + 1) f fd ["number", "few"] (γ_as_state) :=
  gfn_of F sc__law_as_state (by intro ds S R h; unfold γ_as_state at h; first | (obtain ⟨e, _⟩ := h; subst e; rfl) | (split at h <;> first | rfl | exact h.elim) | (obtain ⟨_, e, _⟩ := h; subst e; rfl) | (obtain ⟨_, _, e, _⟩ := h; subst e; rfl) | (obtain ⟨_, _, _, e, _⟩ := h; subst e; rfl) | (obtain ⟨_, _, _, _, e, _⟩ := h; subst e; rfl) | (obtain ⟨_, _, _, _, _, e, _⟩ := h; subst e; rfl) | (obtain ⟨_, _, _, _, _, _, e, _⟩ := h; subst e; rfl)) fun cdv A outer s H hr hgd => ⟨_, tm__law_as_state B hr hgd, fun ds S R q => (law_as_state) ds S R q⟩
theorem gf__law_as_states {f__law_as_state : Addr} {fd__law_as_state : FuncData} {f : Addr} {fd : FuncData} (F : Fun K "_law_as_states" "_law_as_states" s__law_as_states f fd) (B : Blt mg) (h__law_as_state : Has P w K mg base k "_law_as_state" f__law_as_state fd__law_as_state ["number", "few"] (γ_as_state)) : GFn P w K mg base (k + 1) f fd ["numbers", "few"] (γ_as_states) :=
  gfn_of F sc__law_as_states (by intro ds S R h; unfold γ_as_states at h; first | (obtain ⟨e, _⟩ := h; subst e; rfl) | (split at h <;> first | rfl | exact h.elim) | (obtain ⟨_, e, _⟩ := h; subst e; rfl) | (obtain ⟨_, _, e, _⟩ := h; subst e; rfl) | (obtain ⟨_, _, _, e, _⟩ := h; subst e; rfl) | (obtain ⟨_, _, _, _, e, _⟩ := h; subst e; rfl) | (obtain ⟨_, _, _, _, _, e, _⟩ := h; subst e; rfl) | (obtain ⟨_, _, _, _, _, _, e, _⟩ := h; subst e; rfl)) fun cdv A outer s H hr hgd => ⟨_, tm__law_as_states B h__law_as_state hr hgd, fun ds S R q => (law_as_states) ds S R q⟩
theorem gf_is_tuple_of {f : Addr} {fd : FuncData} (F : Fun K "is_tuple_of" "is_tuple_of" s_is_tuple_of f fd) (B : Blt mg) : GFn P w K mg base (k + 1) f fd ["value", "many"] (γ_is_tuple_of) :=
  gfn_of F sc_is_tuple_of (by intro ds S R h; unfold γ_is_tuple_of at h; first | (obtain ⟨e, _⟩ := h; subst e; rfl) | (split at h <;> first | rfl | exact h.elim) | (obtain ⟨_, e, _⟩ := h; subst e; rfl) | (obtain ⟨_, _, e, _⟩ := h; subst e; rfl) | (obtain ⟨_, _, _, e, _⟩ := h; subst e; rfl) | (obtain ⟨_, _, _, _, e, _⟩ := h; subst e; rfl) | (obtain ⟨_, _, _, _, _, e, _⟩ := h; subst e; rfl) | (obtain ⟨_, _, _, _, _, _, e, _⟩ := h; subst e; rfl)) fun cdv A outer s H hr hgd => ⟨_, tm_is_tuple_of B hr hgd, fun ds S R q => (law_is_tuple_of) ds S R q⟩
theorem gf_is_whole {f : Addr} {fd : FuncData} (F : Fun K "is_whole" "is_whole" s_is_whole f fd) (B : Blt mg) : GFn P w K mg base (k + 1) f fd ["value"] (γ_is_whole) :=
  gfn_of F sc_is_whole (by intro ds S R h; unfold γ_is_whole at h; first | (obtain ⟨e, _⟩ := h; subst e; rfl) | (split at h <;> first | rfl | exact h.elim) | (obtain ⟨_, e, _⟩ := h; subst e; rfl) | (obtain ⟨_, _, e, _⟩ := h; subst e; rfl) | (obtain ⟨_, _, _, e, _⟩ := h; subst e; rfl) | (obtain ⟨_, _, _, _, e, _⟩ := h; subst e; rfl) | (obtain ⟨_, _, _, _, _, e, _⟩ := h; subst e; rfl) | (obtain ⟨_, _, _, _, _, _, e, _⟩ := h; subst e; rfl)) fun cdv A outer s H hr hgd => ⟨_, tm_is_whole B hr hgd, fun ds S R q => (law_is_whole) ds S R q⟩
theorem gf_is_ratio {f_is_tuple_of f_is_whole : Addr} {fd_is_tuple_of fd_is_whole : FuncData} {f : Addr} {fd : FuncData} (F : Fun K "is_ratio" "is_ratio" s_is_ratio f fd) (B : Blt mg) (h_is_tuple_of : Has P w K mg base k "is_tuple_of" f_is_tuple_of fd_is_tuple_of ["value", "many"] (γ_is_tuple_of)) (h_is_whole : Has P w K mg base k "is_whole" f_is_whole fd_is_whole ["value"] (γ_is_whole)) (m_gcd : mg "gcd" = some (.builtin "math.gcd")) : GFn P w K mg base (k + 1) f fd ["value"] (γ_is_ratio) :=
  gfn_of F sc_is_ratio (by intro ds S R h; unfold γ_is_ratio at h; first | (obtain ⟨e, _⟩ := h; subst e; rfl) | (split at h <;> first | rfl | exact h.elim) | (obtain ⟨_, e, _⟩ := h; subst e; rfl) | (obtain ⟨_, _, e, _⟩ := h; subst e; rfl) | (obtain ⟨_, _, _, e, _⟩ := h; subst e; rfl) | (obtain ⟨_, _, _, _, e, _⟩ := h; subst e; rfl) | (obtain ⟨_, _, _, _, _, e, _⟩ := h; subst e; rfl) | (obtain ⟨_, _, _, _, _, _, e, _⟩ := h; subst e; rfl)) fun cdv A outer s H hr hgd => ⟨_, tm_is_ratio B h_is_tuple_of h_is_whole m_gcd hr hgd, fun ds S R q => (law_is_ratio) ds S R q⟩
theorem gf_is_row {f_is_tuple_of f_is_ratio : Addr} {fd_is_tuple_of fd_is_ratio : FuncData} {f : Addr} {fd : FuncData} (F : Fun K "is_row" "is_row" s_is_row f fd) (B : Blt mg) (h_is_tuple_of : Has P w K mg base k "is_tuple_of" f_is_tuple_of fd_is_tuple_of ["value", "many"] (γ_is_tuple_of)) (h_is_ratio : Has P w K mg base k "is_ratio" f_is_ratio fd_is_ratio ["value"] (γ_is_ratio)) : GFn P w K mg base (k + 1) f fd ["value", "many"] (γ_is_row) :=
  gfn_of F sc_is_row (by intro ds S R h; unfold γ_is_row at h; first | (obtain ⟨e, _⟩ := h; subst e; rfl) | (split at h <;> first | rfl | exact h.elim) | (obtain ⟨_, e, _⟩ := h; subst e; rfl) | (obtain ⟨_, _, e, _⟩ := h; subst e; rfl) | (obtain ⟨_, _, _, e, _⟩ := h; subst e; rfl) | (obtain ⟨_, _, _, _, e, _⟩ := h; subst e; rfl) | (obtain ⟨_, _, _, _, _, e, _⟩ := h; subst e; rfl) | (obtain ⟨_, _, _, _, _, _, e, _⟩ := h; subst e; rfl)) fun cdv A outer s H hr hgd => ⟨_, tm_is_row B h_is_tuple_of h_is_ratio hr hgd, fun ds S R q => (law_is_row) ds S R q⟩
theorem gf_is_net_by {f_is_tuple_of f_is_row : Addr} {fd_is_tuple_of fd_is_row : FuncData} {f : Addr} {fd : FuncData} (F : Fun K "is_net_by" "is_net_by" s_is_net_by f fd) (B : Blt mg) (h_is_tuple_of : Has P w K mg base k "is_tuple_of" f_is_tuple_of fd_is_tuple_of ["value", "many"] (γ_is_tuple_of)) (c_MOST_CELLS : Cst K mg "MOST_CELLS" (.int 8)) (h_is_row : Has P w K mg base k "is_row" f_is_row fd_is_row ["value", "many"] (γ_is_row)) (c_ZERO : Cst K mg "ZERO" (.tup [.int 0, .int 1])) : GFn P w K mg base (k + 1) f fd ["value"] (γ_is_net_by) :=
  gfn_of F sc_is_net_by (by intro ds S R h; unfold γ_is_net_by at h; first | (obtain ⟨e, _⟩ := h; subst e; rfl) | (split at h <;> first | rfl | exact h.elim) | (obtain ⟨_, e, _⟩ := h; subst e; rfl) | (obtain ⟨_, _, e, _⟩ := h; subst e; rfl) | (obtain ⟨_, _, _, e, _⟩ := h; subst e; rfl) | (obtain ⟨_, _, _, _, e, _⟩ := h; subst e; rfl) | (obtain ⟨_, _, _, _, _, e, _⟩ := h; subst e; rfl) | (obtain ⟨_, _, _, _, _, _, e, _⟩ := h; subst e; rfl)) fun cdv A outer s H hr hgd => ⟨_, tm_is_net_by B h_is_tuple_of c_MOST_CELLS h_is_row c_ZERO hr hgd, fun ds S R q => (law_is_net_by) ds S R q⟩
theorem gf_check_net {f_is_net_by : Addr} {fd_is_net_by : FuncData} {f : Addr} {fd : FuncData} (F : Fun K "check_net" "check_net" s_check_net f fd) (B : Blt mg) (h_is_net_by : Has P w K mg base k "is_net_by" f_is_net_by fd_is_net_by ["value"] (γ_is_net_by)) : GFn P w K mg base (k + 1) f fd ["value"] (γ_check_net) :=
  gfn_of F sc_check_net (by intro ds S R h; unfold γ_check_net at h; first | (obtain ⟨e, _⟩ := h; subst e; rfl) | (split at h <;> first | rfl | exact h.elim) | (obtain ⟨_, e, _⟩ := h; subst e; rfl) | (obtain ⟨_, _, e, _⟩ := h; subst e; rfl) | (obtain ⟨_, _, _, e, _⟩ := h; subst e; rfl) | (obtain ⟨_, _, _, _, e, _⟩ := h; subst e; rfl) | (obtain ⟨_, _, _, _, _, e, _⟩ := h; subst e; rfl) | (obtain ⟨_, _, _, _, _, _, e, _⟩ := h; subst e; rfl)) fun cdv A outer s H hr hgd => ⟨_, tm_check_net B h_is_net_by hr hgd, fun ds S R q => (law_check_net) ds S R q⟩
theorem gf_many_cells {f : Addr} {fd : FuncData} (F : Fun K "many_cells" "many_cells" s_many_cells f fd) (B : Blt mg) : GFn P w K mg base (k + 1) f fd ["net"] (γ_many_cells) :=
  gfn_of F sc_many_cells (by intro ds S R h; unfold γ_many_cells at h; first | (obtain ⟨e, _⟩ := h; subst e; rfl) | (split at h <;> first | rfl | exact h.elim) | (obtain ⟨_, e, _⟩ := h; subst e; rfl) | (obtain ⟨_, _, e, _⟩ := h; subst e; rfl) | (obtain ⟨_, _, _, e, _⟩ := h; subst e; rfl) | (obtain ⟨_, _, _, _, e, _⟩ := h; subst e; rfl) | (obtain ⟨_, _, _, _, _, e, _⟩ := h; subst e; rfl) | (obtain ⟨_, _, _, _, _, _, e, _⟩ := h; subst e; rfl)) fun cdv A outer s H hr hgd => ⟨_, tm_many_cells B hr hgd, fun ds S R q => (law_many_cells) ds S R q⟩
theorem gf_state_by {f : Addr} {fd : FuncData} (F : Fun K "state_by" "state_by" s_state_by f fd) (B : Blt mg) : GFn P w K mg base (k + 1) f fd ["many", "number"] (γ_state_by) :=
  gfn_of F sc_state_by (by intro ds S R h; unfold γ_state_by at h; first | (obtain ⟨e, _⟩ := h; subst e; rfl) | (split at h <;> first | rfl | exact h.elim) | (obtain ⟨_, e, _⟩ := h; subst e; rfl) | (obtain ⟨_, _, e, _⟩ := h; subst e; rfl) | (obtain ⟨_, _, _, e, _⟩ := h; subst e; rfl) | (obtain ⟨_, _, _, _, e, _⟩ := h; subst e; rfl) | (obtain ⟨_, _, _, _, _, e, _⟩ := h; subst e; rfl) | (obtain ⟨_, _, _, _, _, _, e, _⟩ := h; subst e; rfl)) fun cdv A outer s H hr hgd => ⟨_, tm_state_by B hr hgd, fun ds S R q => (law_state_by) ds S R q⟩
theorem gf_all_states {f_many_cells f_state_by : Addr} {fd_many_cells fd_state_by : FuncData} {f : Addr} {fd : FuncData} (F : Fun K "all_states" "all_states" s_all_states f fd) (B : Blt mg) (h_many_cells : Has P w K mg base k "many_cells" f_many_cells fd_many_cells ["net"] (γ_many_cells)) (h_state_by : Has P w K mg base k "state_by" f_state_by fd_state_by ["many", "number"] (γ_state_by)) : GFn P w K mg base (k + 1) f fd ["net"] (γ_all_states) :=
  gfn_of F sc_all_states (by intro ds S R h; unfold γ_all_states at h; first | (obtain ⟨e, _⟩ := h; subst e; rfl) | (split at h <;> first | rfl | exact h.elim) | (obtain ⟨_, e, _⟩ := h; subst e; rfl) | (obtain ⟨_, _, e, _⟩ := h; subst e; rfl) | (obtain ⟨_, _, _, e, _⟩ := h; subst e; rfl) | (obtain ⟨_, _, _, _, e, _⟩ := h; subst e; rfl) | (obtain ⟨_, _, _, _, _, e, _⟩ := h; subst e; rfl) | (obtain ⟨_, _, _, _, _, _, e, _⟩ := h; subst e; rfl)) fun cdv A outer s H hr hgd => ⟨_, tm_all_states B h_many_cells h_state_by hr hgd, fun ds S R q => (law_all_states) ds S R q⟩
theorem gf_number_by {f : Addr} {fd : FuncData} (F : Fun K "number_by" "number_by" s_number_by f fd) (B : Blt mg) : GFn P w K mg base (k + 1) f fd ["state"] (γ_num) :=
  gfn_of F sc_number_by (by intro ds S R h; unfold γ_num at h; first | (obtain ⟨e, _⟩ := h; subst e; rfl) | (split at h <;> first | rfl | exact h.elim) | (obtain ⟨_, e, _⟩ := h; subst e; rfl) | (obtain ⟨_, _, e, _⟩ := h; subst e; rfl) | (obtain ⟨_, _, _, e, _⟩ := h; subst e; rfl) | (obtain ⟨_, _, _, _, e, _⟩ := h; subst e; rfl) | (obtain ⟨_, _, _, _, _, e, _⟩ := h; subst e; rfl) | (obtain ⟨_, _, _, _, _, _, e, _⟩ := h; subst e; rfl)) fun cdv A outer s H hr hgd => ⟨_, tm_number_by B hr hgd, fun ds S R q => (law_num) ds S R q⟩
theorem gf_is_less {f : Addr} {fd : FuncData} (F : Fun K "is_less" "is_less" s_is_less f fd) (B : Blt mg) : GFn P w K mg base (k + 1) f fd ["one", "two"] (γ_is_less) :=
  gfn_of F sc_is_less (by intro ds S R h; unfold γ_is_less at h; first | (obtain ⟨e, _⟩ := h; subst e; rfl) | (split at h <;> first | rfl | exact h.elim) | (obtain ⟨_, e, _⟩ := h; subst e; rfl) | (obtain ⟨_, _, e, _⟩ := h; subst e; rfl) | (obtain ⟨_, _, _, e, _⟩ := h; subst e; rfl) | (obtain ⟨_, _, _, _, e, _⟩ := h; subst e; rfl) | (obtain ⟨_, _, _, _, _, e, _⟩ := h; subst e; rfl) | (obtain ⟨_, _, _, _, _, _, e, _⟩ := h; subst e; rfl)) fun cdv A outer s H hr hgd => ⟨_, tm_is_less B hr hgd, fun ds S R q => (law_is_less) ds S R q⟩
theorem gf_ratio {f : Addr} {fd : FuncData} (F : Fun K "ratio" "ratio" s_ratio f fd) (B : Blt mg) (m_gcd : mg "gcd" = some (.builtin "math.gcd")) : GFn P w K mg base (k + 1) f fd ["top", "low"] (γ_ratio) :=
  gfn_of F sc_ratio (by intro ds S R h; unfold γ_ratio at h; first | (obtain ⟨e, _⟩ := h; subst e; rfl) | (split at h <;> first | rfl | exact h.elim) | (obtain ⟨_, e, _⟩ := h; subst e; rfl) | (obtain ⟨_, _, e, _⟩ := h; subst e; rfl) | (obtain ⟨_, _, _, e, _⟩ := h; subst e; rfl) | (obtain ⟨_, _, _, _, e, _⟩ := h; subst e; rfl) | (obtain ⟨_, _, _, _, _, e, _⟩ := h; subst e; rfl) | (obtain ⟨_, _, _, _, _, _, e, _⟩ := h; subst e; rfl)) fun cdv A outer s H hr hgd => ⟨_, tm_ratio B m_gcd hr hgd, fun ds S R q => (law_ratio) ds S R q⟩
theorem gf_plus {f_ratio : Addr} {fd_ratio : FuncData} {f : Addr} {fd : FuncData} (F : Fun K "plus" "plus" s_plus f fd) (B : Blt mg) (h_ratio : Has P w K mg base k "ratio" f_ratio fd_ratio ["top", "low"] (γ_ratio)) : GFn P w K mg base (k + 1) f fd ["one", "two"] (γ_plus) :=
  gfn_of F sc_plus (by intro ds S R h; unfold γ_plus at h; first | (obtain ⟨e, _⟩ := h; subst e; rfl) | (split at h <;> first | rfl | exact h.elim) | (obtain ⟨_, e, _⟩ := h; subst e; rfl) | (obtain ⟨_, _, e, _⟩ := h; subst e; rfl) | (obtain ⟨_, _, _, e, _⟩ := h; subst e; rfl) | (obtain ⟨_, _, _, _, e, _⟩ := h; subst e; rfl) | (obtain ⟨_, _, _, _, _, e, _⟩ := h; subst e; rfl) | (obtain ⟨_, _, _, _, _, _, e, _⟩ := h; subst e; rfl)) fun cdv A outer s H hr hgd => ⟨_, tm_plus B h_ratio hr hgd, fun ds S R q => (law_plus) ds S R q⟩
theorem gf_total {f_plus : Addr} {fd_plus : FuncData} {f : Addr} {fd : FuncData} (F : Fun K "total" "total" s_total f fd) (B : Blt mg) (c_ZERO : Cst K mg "ZERO" (.tup [.int 0, .int 1])) (h_plus : Has P w K mg base k "plus" f_plus fd_plus ["one", "two"] (γ_plus)) : GFn P w K mg base (k + 1) f fd ["fractions"] (γ_total) :=
  gfn_of F sc_total (by intro ds S R h; unfold γ_total at h; first | (obtain ⟨e, _⟩ := h; subst e; rfl) | (split at h <;> first | rfl | exact h.elim) | (obtain ⟨_, e, _⟩ := h; subst e; rfl) | (obtain ⟨_, _, e, _⟩ := h; subst e; rfl) | (obtain ⟨_, _, _, e, _⟩ := h; subst e; rfl) | (obtain ⟨_, _, _, _, e, _⟩ := h; subst e; rfl) | (obtain ⟨_, _, _, _, _, e, _⟩ := h; subst e; rfl) | (obtain ⟨_, _, _, _, _, _, e, _⟩ := h; subst e; rfl)) fun cdv A outer s H hr hgd => ⟨_, tm_total B c_ZERO h_plus hr hgd, fun ds S R q => (law_total) ds S R q⟩
theorem gf_heard_by {f_total : Addr} {fd_total : FuncData} {f : Addr} {fd : FuncData} (F : Fun K "heard_by" "heard_by" s_heard_by f fd) (B : Blt mg) (h_total : Has P w K mg base k "total" f_total fd_total ["fractions"] (γ_total)) : GFn P w K mg base (k + 1) f fd ["net", "cell", "state"] (γ_heard_by) :=
  gfn_of F sc_heard_by (by intro ds S R h; unfold γ_heard_by at h; first | (obtain ⟨e, _⟩ := h; subst e; rfl) | (split at h <;> first | rfl | exact h.elim) | (obtain ⟨_, e, _⟩ := h; subst e; rfl) | (obtain ⟨_, _, e, _⟩ := h; subst e; rfl) | (obtain ⟨_, _, _, e, _⟩ := h; subst e; rfl) | (obtain ⟨_, _, _, _, e, _⟩ := h; subst e; rfl) | (obtain ⟨_, _, _, _, _, e, _⟩ := h; subst e; rfl) | (obtain ⟨_, _, _, _, _, _, e, _⟩ := h; subst e; rfl)) fun cdv A outer s H hr hgd => ⟨_, tm_heard_by B h_total hr hgd, fun ds S R q => (law_heard_by) ds S R q⟩
theorem gf_wanted_by {f_many_cells f_is_less f_heard_by : Addr} {fd_many_cells fd_is_less fd_heard_by : FuncData} {f : Addr} {fd : FuncData} (F : Fun K "wanted_by" "wanted_by" s_wanted_by f fd) (B : Blt mg) (h_many_cells : Has P w K mg base k "many_cells" f_many_cells fd_many_cells ["net"] (γ_many_cells)) (h_is_less : Has P w K mg base k "is_less" f_is_less fd_is_less ["one", "two"] (γ_is_less)) (h_heard_by : Has P w K mg base k "heard_by" f_heard_by fd_heard_by ["net", "cell", "state"] (γ_heard_by)) : GFn P w K mg base (k + 1) f fd ["net", "state"] (γ_wanted_by) :=
  gfn_of F sc_wanted_by (by intro ds S R h; unfold γ_wanted_by at h; first | (obtain ⟨e, _⟩ := h; subst e; rfl) | (split at h <;> first | rfl | exact h.elim) | (obtain ⟨_, e, _⟩ := h; subst e; rfl) | (obtain ⟨_, _, e, _⟩ := h; subst e; rfl) | (obtain ⟨_, _, _, e, _⟩ := h; subst e; rfl) | (obtain ⟨_, _, _, _, e, _⟩ := h; subst e; rfl) | (obtain ⟨_, _, _, _, _, e, _⟩ := h; subst e; rfl) | (obtain ⟨_, _, _, _, _, _, e, _⟩ := h; subst e; rfl)) fun cdv A outer s H hr hgd => ⟨_, tm_wanted_by B h_many_cells h_is_less h_heard_by hr hgd, fun ds S R q => (law_wanted_by) ds S R q⟩
theorem gf_run_by {f : Addr} {fd : FuncData} (F : Fun K "run_by" "run_by" s_run_by f fd) (B : Blt mg) : GFnF P w K mg base k f fd ["first", "step"] 1 (γ_run) :=
  gfnF_of F sc_run_by (by intro d φ ds S R h; unfold γ_run at h; first | (obtain ⟨e, _⟩ := h; subst e; rfl) | (split at h <;> first | rfl | exact h.elim) | (obtain ⟨_, e, _⟩ := h; subst e; rfl) | (obtain ⟨_, _, e, _⟩ := h; subst e; rfl) | (obtain ⟨_, _, _, e, _⟩ := h; subst e; rfl) | (obtain ⟨_, _, _, _, e, _⟩ := h; subst e; rfl) | (obtain ⟨_, _, _, _, _, e, _⟩ := h; subst e; rfl) | (obtain ⟨_, _, _, _, _, _, e, _⟩ := h; subst e; rfl)) fun cdv A outer s H g c q ho caps cv φ hr hgd hfi act => ⟨_, tm_run_by B hfi act hr hgd, fun ds S R q => (law_run _ _) ds S R q⟩
theorem gf_rings_by {T_rings_by : Addr} {f_all_states f_number_by f_wanted_by f_run_by f_state_by f_many_cells : Addr} {fd_all_states fd_number_by fd_wanted_by fd_run_by fd_state_by fd_many_cells : FuncData} {c : Addr} {f : Addr} {fd : FuncData} (F : FunC K "rings_by" "rings_by" s_rings_by f fd c) (B : Blt mg) (h_all_states : Has P w K mg base k "all_states" f_all_states fd_all_states ["net"] (γ_all_states)) (h_number_by : Has P w K mg base k "number_by" f_number_by fd_number_by ["state"] (γ_num)) (h_wanted_by : Has P w K mg base k "wanted_by" f_wanted_by fd_wanted_by ["net", "state"] (γ_wanted_by)) (h_run_by : HasF P w K mg base (k + 1) "run_by" f_run_by fd_run_by ["first", "step"] 1 (γ_run)) (h_state_by : Has P w K mg base k "state_by" f_state_by fd_state_by ["many", "number"] (γ_state_by)) (h_many_cells : Has P w K mg base k "many_cells" f_many_cells fd_many_cells ["net"] (γ_many_cells)) (TB : LamX.TabB base mg c T_rings_by) : GFn P w K mg base (k + 3) f fd ["net"] (γ_rgs T_rings_by) :=
  gfnC_of F sc_rings_by (by intro ds S R h; unfold γ_rgs at h; first | (obtain ⟨e, _⟩ := h; subst e; rfl) | (split at h <;> first | rfl | exact h.elim) | (obtain ⟨_, e, _⟩ := h; subst e; rfl) | (obtain ⟨_, _, e, _⟩ := h; subst e; rfl) | (obtain ⟨_, _, _, e, _⟩ := h; subst e; rfl) | (obtain ⟨_, _, _, _, e, _⟩ := h; subst e; rfl) | (obtain ⟨_, _, _, _, _, e, _⟩ := h; subst e; rfl) | (obtain ⟨_, _, _, _, _, _, e, _⟩ := h; subst e; rfl)) fun A outer s H hr hgd => ⟨_, tm_rings_by B h_all_states h_number_by h_wanted_by h_run_by h_state_by h_many_cells TB hr hgd, fun ds S R q => (law_rgs T_rings_by) ds S R q⟩
theorem gf_rings {T_rings_by : Addr} {f_check_net f_rings_by : Addr} {fd_check_net fd_rings_by : FuncData} {f : Addr} {fd : FuncData} (F : Fun K "rings" "rings" s_rings f fd) (B : Blt mg) (h_check_net : Has P w K mg base k "check_net" f_check_net fd_check_net ["value"] (γ_check_net)) (h_rings_by : Has P w K mg base k "rings_by" f_rings_by fd_rings_by ["net"] (γ_rgs T_rings_by)) : GFn P w K mg base (k + 1) f fd ["net"] (γ_rgs T_rings_by) :=
  gfn_of F sc_rings (by intro ds S R h; unfold γ_rgs at h; first | (obtain ⟨e, _⟩ := h; subst e; rfl) | (split at h <;> first | rfl | exact h.elim) | (obtain ⟨_, e, _⟩ := h; subst e; rfl) | (obtain ⟨_, _, e, _⟩ := h; subst e; rfl) | (obtain ⟨_, _, _, e, _⟩ := h; subst e; rfl) | (obtain ⟨_, _, _, _, e, _⟩ := h; subst e; rfl) | (obtain ⟨_, _, _, _, _, e, _⟩ := h; subst e; rfl) | (obtain ⟨_, _, _, _, _, _, e, _⟩ := h; subst e; rfl)) fun cdv A outer s H hr hgd => ⟨_, tm_rings B h_check_net h_rings_by hr hgd, fun ds S R q => (law_rings T_rings_by) ds S R q⟩
theorem gf_is_between {f_is_whole : Addr} {fd_is_whole : FuncData} {f : Addr} {fd : FuncData} (F : Fun K "is_between" "is_between" s_is_between f fd) (B : Blt mg) (h_is_whole : Has P w K mg base k "is_whole" f_is_whole fd_is_whole ["value"] (γ_is_whole)) : GFn P w K mg base (k + 1) f fd ["value", "low", "high"] (γ_is_between) :=
  gfn_of F sc_is_between (by intro ds S R h; unfold γ_is_between at h; first | (obtain ⟨e, _⟩ := h; subst e; rfl) | (split at h <;> first | rfl | exact h.elim) | (obtain ⟨_, e, _⟩ := h; subst e; rfl) | (obtain ⟨_, _, e, _⟩ := h; subst e; rfl) | (obtain ⟨_, _, _, e, _⟩ := h; subst e; rfl) | (obtain ⟨_, _, _, _, e, _⟩ := h; subst e; rfl) | (obtain ⟨_, _, _, _, _, e, _⟩ := h; subst e; rfl) | (obtain ⟨_, _, _, _, _, _, e, _⟩ := h; subst e; rfl)) fun cdv A outer s H hr hgd => ⟨_, tm_is_between B h_is_whole hr hgd, fun ds S R q => (law_is_between) ds S R q⟩
theorem gf_is_state_by {f_is_tuple_of f_many_cells f_is_between : Addr} {fd_is_tuple_of fd_many_cells fd_is_between : FuncData} {f : Addr} {fd : FuncData} (F : Fun K "is_state_by" "is_state_by" s_is_state_by f fd) (B : Blt mg) (h_is_tuple_of : Has P w K mg base k "is_tuple_of" f_is_tuple_of fd_is_tuple_of ["value", "many"] (γ_is_tuple_of)) (h_many_cells : Has P w K mg base k "many_cells" f_many_cells fd_many_cells ["net"] (γ_many_cells)) (h_is_between : Has P w K mg base k "is_between" f_is_between fd_is_between ["value", "low", "high"] (γ_is_between)) : GFn P w K mg base (k + 1) f fd ["net", "value"] (γ_is_state_by) :=
  gfn_of F sc_is_state_by (by intro ds S R h; unfold γ_is_state_by at h; first | (obtain ⟨e, _⟩ := h; subst e; rfl) | (split at h <;> first | rfl | exact h.elim) | (obtain ⟨_, e, _⟩ := h; subst e; rfl) | (obtain ⟨_, _, e, _⟩ := h; subst e; rfl) | (obtain ⟨_, _, _, e, _⟩ := h; subst e; rfl) | (obtain ⟨_, _, _, _, e, _⟩ := h; subst e; rfl) | (obtain ⟨_, _, _, _, _, e, _⟩ := h; subst e; rfl) | (obtain ⟨_, _, _, _, _, _, e, _⟩ := h; subst e; rfl)) fun cdv A outer s H hr hgd => ⟨_, tm_is_state_by B h_is_tuple_of h_many_cells h_is_between hr hgd, fun ds S R q => (law_is_state_by) ds S R q⟩
theorem gf_check_state {f_is_state_by : Addr} {fd_is_state_by : FuncData} {f : Addr} {fd : FuncData} (F : Fun K "check_state" "check_state" s_check_state f fd) (B : Blt mg) (h_is_state_by : Has P w K mg base k "is_state_by" f_is_state_by fd_is_state_by ["net", "value"] (γ_is_state_by)) : GFn P w K mg base (k + 1) f fd ["net", "value"] (γ_check_state) :=
  gfn_of F sc_check_state (by intro ds S R h; unfold γ_check_state at h; first | (obtain ⟨e, _⟩ := h; subst e; rfl) | (split at h <;> first | rfl | exact h.elim) | (obtain ⟨_, e, _⟩ := h; subst e; rfl) | (obtain ⟨_, _, e, _⟩ := h; subst e; rfl) | (obtain ⟨_, _, _, e, _⟩ := h; subst e; rfl) | (obtain ⟨_, _, _, _, e, _⟩ := h; subst e; rfl) | (obtain ⟨_, _, _, _, _, e, _⟩ := h; subst e; rfl) | (obtain ⟨_, _, _, _, _, _, e, _⟩ := h; subst e; rfl)) fun cdv A outer s H hr hgd => ⟨_, tm_check_state B h_is_state_by hr hgd, fun ds S R q => (law_check_state) ds S R q⟩
theorem gf_check_both {f_check_net f_check_state : Addr} {fd_check_net fd_check_state : FuncData} {f : Addr} {fd : FuncData} (F : Fun K "check_both" "check_both" s_check_both f fd) (B : Blt mg) (h_check_net : Has P w K mg base k "check_net" f_check_net fd_check_net ["value"] (γ_check_net)) (h_check_state : Has P w K mg base k "check_state" f_check_state fd_check_state ["net", "value"] (γ_check_state)) : GFn P w K mg base (k + 1) f fd ["net", "state"] (γ_check_both) :=
  gfn_of F sc_check_both (by intro ds S R h; unfold γ_check_both at h; first | (obtain ⟨e, _⟩ := h; subst e; rfl) | (split at h <;> first | rfl | exact h.elim) | (obtain ⟨_, e, _⟩ := h; subst e; rfl) | (obtain ⟨_, _, e, _⟩ := h; subst e; rfl) | (obtain ⟨_, _, _, e, _⟩ := h; subst e; rfl) | (obtain ⟨_, _, _, _, e, _⟩ := h; subst e; rfl) | (obtain ⟨_, _, _, _, _, e, _⟩ := h; subst e; rfl) | (obtain ⟨_, _, _, _, _, _, e, _⟩ := h; subst e; rfl)) fun cdv A outer s H hr hgd => ⟨_, tm_check_both B h_check_net h_check_state hr hgd, fun ds S R q => (law_check_both) ds S R q⟩
theorem gf_wanted {f_check_both f_wanted_by : Addr} {fd_check_both fd_wanted_by : FuncData} {f : Addr} {fd : FuncData} (F : Fun K "wanted" "wanted" s_wanted f fd) (B : Blt mg) (h_check_both : Has P w K mg base k "check_both" f_check_both fd_check_both ["net", "state"] (γ_check_both)) (h_wanted_by : Has P w K mg base k "wanted_by" f_wanted_by fd_wanted_by ["net", "state"] (γ_wanted_by)) : GFn P w K mg base (k + 1) f fd ["net", "state"] (γ_wanted_by) :=
  gfn_of F sc_wanted (by intro ds S R h; unfold γ_wanted_by at h; first | (obtain ⟨e, _⟩ := h; subst e; rfl) | (split at h <;> first | rfl | exact h.elim) | (obtain ⟨_, e, _⟩ := h; subst e; rfl) | (obtain ⟨_, _, e, _⟩ := h; subst e; rfl) | (obtain ⟨_, _, _, e, _⟩ := h; subst e; rfl) | (obtain ⟨_, _, _, _, e, _⟩ := h; subst e; rfl) | (obtain ⟨_, _, _, _, _, e, _⟩ := h; subst e; rfl) | (obtain ⟨_, _, _, _, _, _, e, _⟩ := h; subst e; rfl)) fun cdv A outer s H hr hgd => ⟨_, tm_wanted B h_check_both h_wanted_by hr hgd, fun ds S R q => (law_wanted) ds S R q⟩
theorem gf_at_once_by {T_at_once_by : Addr} {f_run_by f_wanted_by : Addr} {fd_run_by fd_wanted_by : FuncData} {c : Addr} {f : Addr} {fd : FuncData} (F : FunC K "at_once_by" "at_once_by" s_at_once_by f fd c) (B : Blt mg) (h_run_by : HasF P w K mg base (k + 1) "run_by" f_run_by fd_run_by ["first", "step"] 1 (γ_run)) (h_wanted_by : Has P w K mg base k "wanted_by" f_wanted_by fd_wanted_by ["net", "state"] (γ_wanted_by)) (TB : LamX.TabB base mg c T_at_once_by) : GFn P w K mg base (k + 3) f fd ["net", "state"] (γ_ato T_at_once_by) :=
  gfnC_of F sc_at_once_by (by intro ds S R h; unfold γ_ato at h; first | (obtain ⟨e, _⟩ := h; subst e; rfl) | (split at h <;> first | rfl | exact h.elim) | (obtain ⟨_, e, _⟩ := h; subst e; rfl) | (obtain ⟨_, _, e, _⟩ := h; subst e; rfl) | (obtain ⟨_, _, _, e, _⟩ := h; subst e; rfl) | (obtain ⟨_, _, _, _, e, _⟩ := h; subst e; rfl) | (obtain ⟨_, _, _, _, _, e, _⟩ := h; subst e; rfl) | (obtain ⟨_, _, _, _, _, _, e, _⟩ := h; subst e; rfl)) fun A outer s H hr hgd => ⟨_, tm_at_once_by B h_run_by h_wanted_by TB hr hgd, fun ds S R q => (law_ato T_at_once_by) ds S R q⟩
theorem gf_run {T_at_once_by : Addr} {f_check_both f_at_once_by : Addr} {fd_check_both fd_at_once_by : FuncData} {f : Addr} {fd : FuncData} (F : Fun K "run" "run" s_run f fd) (B : Blt mg) (h_check_both : Has P w K mg base k "check_both" f_check_both fd_check_both ["net", "state"] (γ_check_both)) (h_at_once_by : Has P w K mg base k "at_once_by" f_at_once_by fd_at_once_by ["net", "state"] (γ_ato T_at_once_by)) : GFn P w K mg base (k + 1) f fd ["net", "state"] (γ_ato T_at_once_by) :=
  gfn_of F sc_run (by intro ds S R h; unfold γ_ato at h; first | (obtain ⟨e, _⟩ := h; subst e; rfl) | (split at h <;> first | rfl | exact h.elim) | (obtain ⟨_, e, _⟩ := h; subst e; rfl) | (obtain ⟨_, _, e, _⟩ := h; subst e; rfl) | (obtain ⟨_, _, _, e, _⟩ := h; subst e; rfl) | (obtain ⟨_, _, _, _, e, _⟩ := h; subst e; rfl) | (obtain ⟨_, _, _, _, _, e, _⟩ := h; subst e; rfl) | (obtain ⟨_, _, _, _, _, _, e, _⟩ := h; subst e; rfl)) fun cdv A outer s H hr hgd => ⟨_, tm_run B h_check_both h_at_once_by hr hgd, fun ds S R q => (law_runC T_at_once_by) ds S R q⟩
theorem gf__law_are_states_right {T_at_once_by : Addr} {f__law_draw f__law_as_state f__law_tail f__law_as_states f_wanted f_run : Addr} {fd__law_draw fd__law_as_state fd__law_tail fd__law_as_states fd_wanted fd_run : FuncData} {f : Addr} {fd : FuncData} (F : Fun K "_law_are_states_right" "_law_are_states_right" s__law_are_states_right f fd) (B : Blt mg) (h__law_draw : Has P w K mg base k "_law_draw" f__law_draw fd__law_draw ["well", "few"] (γ_draw)) (h__law_as_state : Has P w K mg base k "_law_as_state" f__law_as_state fd__law_as_state ["number", "few"] (γ_as_state)) (h__law_tail : Has P w K mg base k "_law_tail" f__law_tail fd__law_tail ["steps", "number"] (γ_ltail)) (h__law_as_states : Has P w K mg base k "_law_as_states" f__law_as_states fd__law_as_states ["numbers", "few"] (γ_as_states)) (h_wanted : Has P w K mg base k "wanted" f_wanted fd_wanted ["net", "state"] (γ_wanted_by)) (h_run : Has P w K mg base k "run" f_run fd_run ["net", "state"] (γ_ato T_at_once_by)) (kb_wanted_0 : KB fd_wanted ["net", "state"] ["state", "net"] 0 [1, 0]) (kb_run_0 : KB fd_run ["net", "state"] ["state", "net"] 0 [1, 0]) : GFn P w K mg base (k + 1) f fd ["well", "net", "steps"] (γ_sr T_at_once_by) :=
  gfn_of F sc__law_are_states_right (by intro ds S R h; unfold γ_sr at h; first | (obtain ⟨e, _⟩ := h; subst e; rfl) | (split at h <;> first | rfl | exact h.elim) | (obtain ⟨_, e, _⟩ := h; subst e; rfl) | (obtain ⟨_, _, e, _⟩ := h; subst e; rfl) | (obtain ⟨_, _, _, e, _⟩ := h; subst e; rfl) | (obtain ⟨_, _, _, _, e, _⟩ := h; subst e; rfl) | (obtain ⟨_, _, _, _, _, e, _⟩ := h; subst e; rfl) | (obtain ⟨_, _, _, _, _, _, e, _⟩ := h; subst e; rfl)) fun cdv A outer s H hr hgd => ⟨_, tm__law_are_states_right B h__law_draw h__law_as_state h__law_tail h__law_as_states h_wanted h_run kb_wanted_0 kb_run_0 hr hgd, fun ds S R q => (law_sr T_at_once_by) ds S R q⟩
theorem gf_swings_by {T_rings_by : Addr} {f_rings_by : Addr} {fd_rings_by : FuncData} {f : Addr} {fd : FuncData} (F : Fun K "swings_by" "swings_by" s_swings_by f fd) (B : Blt mg) (h_rings_by : Has P w K mg base k "rings_by" f_rings_by fd_rings_by ["net"] (γ_rgs T_rings_by)) : GFn P w K mg base (k + 1) f fd ["net"] (γ_swb T_rings_by) :=
  gfn_of F sc_swings_by (by intro ds S R h; unfold γ_swb at h; first | (obtain ⟨e, _⟩ := h; subst e; rfl) | (split at h <;> first | rfl | exact h.elim) | (obtain ⟨_, e, _⟩ := h; subst e; rfl) | (obtain ⟨_, _, e, _⟩ := h; subst e; rfl) | (obtain ⟨_, _, _, e, _⟩ := h; subst e; rfl) | (obtain ⟨_, _, _, _, e, _⟩ := h; subst e; rfl) | (obtain ⟨_, _, _, _, _, e, _⟩ := h; subst e; rfl) | (obtain ⟨_, _, _, _, _, _, e, _⟩ := h; subst e; rfl)) fun cdv A outer s H hr hgd => ⟨_, tm_swings_by B h_rings_by hr hgd, fun ds S R q => (law_swb T_rings_by) ds S R q⟩
theorem gf_swings {T_rings_by : Addr} {f_check_net f_swings_by : Addr} {fd_check_net fd_swings_by : FuncData} {f : Addr} {fd : FuncData} (F : Fun K "swings" "swings" s_swings f fd) (B : Blt mg) (h_check_net : Has P w K mg base k "check_net" f_check_net fd_check_net ["value"] (γ_check_net)) (h_swings_by : Has P w K mg base k "swings_by" f_swings_by fd_swings_by ["net"] (γ_swb T_rings_by)) : GFn P w K mg base (k + 1) f fd ["net"] (γ_swb T_rings_by) :=
  gfn_of F sc_swings (by intro ds S R h; unfold γ_swb at h; first | (obtain ⟨e, _⟩ := h; subst e; rfl) | (split at h <;> first | rfl | exact h.elim) | (obtain ⟨_, e, _⟩ := h; subst e; rfl) | (obtain ⟨_, _, e, _⟩ := h; subst e; rfl) | (obtain ⟨_, _, _, e, _⟩ := h; subst e; rfl) | (obtain ⟨_, _, _, _, e, _⟩ := h; subst e; rfl) | (obtain ⟨_, _, _, _, _, e, _⟩ := h; subst e; rfl) | (obtain ⟨_, _, _, _, _, _, e, _⟩ := h; subst e; rfl)) fun cdv A outer s H hr hgd => ⟨_, tm_swings B h_check_net h_swings_by hr hgd, fun ds S R q => (law_swings T_rings_by) ds S R q⟩
theorem gf__law_right {T_at_once_by : Addr} {T_rings_by : Addr} {f__law_net f__law_one f__law_wishes f__law_all_rings f__law_as_states f_rings f__law_are_states_right f_swings : Addr} {fd__law_net fd__law_one fd__law_wishes fd__law_all_rings fd__law_as_states fd_rings fd__law_are_states_right fd_swings : FuncData} {f : Addr} {fd : FuncData} (F : Fun K "_law_right" "_law_right" s__law_right f fd) (B : Blt mg) (h__law_net : Has P w K mg base k "_law_net" f__law_net fd__law_net ["well", "few"] (γ_net PN PN)) (h__law_one : Has P w K mg base k "_law_one" f__law_one fd__law_one ["well", "some"] (γ_one)) (h__law_wishes : Has P w K mg base k "_law_wishes" f__law_wishes fd__law_wishes ["net"] (γ_wishes)) (h__law_all_rings : Has P w K mg base k "_law_all_rings" f__law_all_rings fd__law_all_rings ["steps"] (γ_lrings)) (h__law_as_states : Has P w K mg base k "_law_as_states" f__law_as_states fd__law_as_states ["numbers", "few"] (γ_as_states)) (h_rings : Has P w K mg base k "rings" f_rings fd_rings ["net"] (γ_rgs T_rings_by)) (h__law_are_states_right : Has P w K mg base k "_law_are_states_right" f__law_are_states_right fd__law_are_states_right ["well", "net", "steps"] (γ_sr T_at_once_by)) (h_swings : Has P w K mg base k "swings" f_swings fd_swings ["net"] (γ_swb T_rings_by)) (kb_rings_0 : KB fd_rings ["net"] ["net"] 0 [0]) (kb_swings_0 : KB fd_swings ["net"] ["net"] 0 [0]) : GFn P w K mg base (k + 1) f fd ["well"] (γ_lapT (ts T_at_once_by T_rings_by)) :=
  gfn_of F sc__law_right (by intro ds S R h; unfold γ_lapT at h; first | (obtain ⟨e, _⟩ := h; subst e; rfl) | (split at h <;> first | rfl | exact h.elim) | (obtain ⟨_, e, _⟩ := h; subst e; rfl) | (obtain ⟨_, _, e, _⟩ := h; subst e; rfl) | (obtain ⟨_, _, _, e, _⟩ := h; subst e; rfl) | (obtain ⟨_, _, _, _, e, _⟩ := h; subst e; rfl) | (obtain ⟨_, _, _, _, _, e, _⟩ := h; subst e; rfl) | (obtain ⟨_, _, _, _, _, _, e, _⟩ := h; subst e; rfl)) fun cdv A outer s H hr hgd => ⟨_, tm__law_right B h__law_net h__law_one h__law_wishes h__law_all_rings h__law_as_states h_rings h__law_are_states_right h_swings kb_rings_0 kb_swings_0 hr hgd, fun ds S R q => (law_right T_at_once_by T_rings_by) ds S R q⟩
theorem gf__law_well {f : Addr} {fd : FuncData} (F : Fun K "_law_well" "_law_well" s__law_well f fd) (B : Blt mg) : GFn P w K mg base (k + 1) f fd ["script", "lap"] (γ_well) :=
  gfn_of F sc__law_well (by intro ds S R h; unfold γ_well at h; first | (obtain ⟨e, _⟩ := h; subst e; rfl) | (split at h <;> first | rfl | exact h.elim) | (obtain ⟨_, e, _⟩ := h; subst e; rfl) | (obtain ⟨_, _, e, _⟩ := h; subst e; rfl) | (obtain ⟨_, _, _, e, _⟩ := h; subst e; rfl) | (obtain ⟨_, _, _, _, e, _⟩ := h; subst e; rfl) | (obtain ⟨_, _, _, _, _, e, _⟩ := h; subst e; rfl) | (obtain ⟨_, _, _, _, _, _, e, _⟩ := h; subst e; rfl)) fun cdv A outer s H hr hgd => ⟨_, tm__law_well B hr hgd, fun ds S R q => (law_well 11821) ds S R q⟩
theorem gf_law {T_at_once_by : Addr} {T_rings_by : Addr} {f__law_right f__law_well : Addr} {fd__law_right fd__law_well : FuncData} {f : Addr} {fd : FuncData} (F : Fun K "law" "law" s_law f fd) (B : Blt mg) (h__law_right : Has P w K mg base k "_law_right" f__law_right fd__law_right ["well"] (γ_lapT (ts T_at_once_by T_rings_by))) (h__law_well : Has P w K mg base k "_law_well" f__law_well fd__law_well ["script", "lap"] (γ_well)) : GFn P w K mg base (k + 1) f fd ["script"] (γ_wholeT (ts T_at_once_by T_rings_by)) :=
  gfn_of F sc_law (by intro ds S R h; unfold γ_wholeT at h; first | (obtain ⟨e, _⟩ := h; subst e; rfl) | (split at h <;> first | rfl | exact h.elim) | (obtain ⟨_, e, _⟩ := h; subst e; rfl) | (obtain ⟨_, _, e, _⟩ := h; subst e; rfl) | (obtain ⟨_, _, _, e, _⟩ := h; subst e; rfl) | (obtain ⟨_, _, _, _, e, _⟩ := h; subst e; rfl) | (obtain ⟨_, _, _, _, _, e, _⟩ := h; subst e; rfl) | (obtain ⟨_, _, _, _, _, _, e, _⟩ := h; subst e; rfl)) fun cdv A outer s H hr hgd => ⟨_, tm_law B h__law_right h__law_well hr hgd, fun ds S R q => (law_wholeT _ 4) ds S R q⟩
end
theorem all_mk {l : PySem.W.OpenLaw} {w : World} {K : PySem.W.Frag} {h : Heap} {mg : Str → Option Value} {fa f0 f1 f2 f3 f4 f5 f6 f7 f8 f9 f10 f11 f12 f13 f14 f15 f16 f17 f18 f19 f20 f21 f22 f23 f24 f25 f26 f27 f28 f29 f30 f31 f32 f33 f34 f35 f36 f37 f38 f39 f40 f41 f42 f43 f44 f45 f46 f47 f48 f49 : Addr} (X : K.In h) (G : h.Ns mainGlobals mg) (hfa : mg "law" = some (.ref fa))
    {od0 an0 : Option Addr} {sl0 : Array (Option Value)} {oc0 kV0 dc0 pm0 cd0 ct0 : Value}
    (a0 : PySem.W.nsIn K mainGlobals "_law_draw" = some (some (.ref f0))) (l0 : K.lookup f0 = some ⟨oc0, od0, .func (PySem.W.fnOf "_law_draw" "_law_draw" (defArgs s__law_draw) (defBody s__law_draw) (defScope s__law_draw) .none kV0 dc0 pm0 an0 cd0 ct0), sl0⟩) (c0 : PySem.W.codeIn K cd0 "_law_draw" = true) (k0 : PySem.W.keepIn K (.ref f0) = true)
    {od1 an1 : Option Addr} {sl1 : Array (Option Value)} {oc1 kV1 dc1 pm1 cd1 ct1 : Value}
    (a1 : PySem.W.nsIn K mainGlobals "_law_one" = some (some (.ref f1))) (l1 : K.lookup f1 = some ⟨oc1, od1, .func (PySem.W.fnOf "_law_one" "_law_one" (defArgs s__law_one) (defBody s__law_one) (defScope s__law_one) .none kV1 dc1 pm1 an1 cd1 ct1), sl1⟩) (c1 : PySem.W.codeIn K cd1 "_law_one" = true) (k1 : PySem.W.keepIn K (.ref f1) = true)
    {od2 an2 : Option Addr} {sl2 : Array (Option Value)} {oc2 kV2 dc2 pm2 cd2 ct2 : Value}
    (a2 : PySem.W.nsIn K mainGlobals "_law_wheel" = some (some (.ref f2))) (l2 : K.lookup f2 = some ⟨oc2, od2, .func (PySem.W.fnOf "_law_wheel" "_law_wheel" (defArgs s__law_wheel) (defBody s__law_wheel) (defScope s__law_wheel) .none kV2 dc2 pm2 an2 cd2 ct2), sl2⟩) (c2 : PySem.W.codeIn K cd2 "_law_wheel" = true) (k2 : PySem.W.keepIn K (.ref f2) = true)
    {od3 an3 : Option Addr} {sl3 : Array (Option Value)} {oc3 kV3 dc3 pm3 cd3 ct3 : Value}
    (a3 : PySem.W.nsIn K mainGlobals "_law_lean" = some (some (.ref f3))) (l3 : K.lookup f3 = some ⟨oc3, od3, .func (PySem.W.fnOf "_law_lean" "_law_lean" (defArgs s__law_lean) (defBody s__law_lean) (defScope s__law_lean) .none kV3 dc3 pm3 an3 cd3 ct3), sl3⟩) (c3 : PySem.W.codeIn K cd3 "_law_lean" = true) (k3 : PySem.W.keepIn K (.ref f3) = true)
    {od4 an4 : Option Addr} {sl4 : Array (Option Value)} {oc4 kV4 dc4 pm4 cd4 ct4 : Value}
    (a4 : PySem.W.nsIn K mainGlobals "_law_weight" = some (some (.ref f4))) (l4 : K.lookup f4 = some ⟨oc4, od4, .func (PySem.W.fnOf "_law_weight" "_law_weight" (defArgs s__law_weight) (defBody s__law_weight) (defScope s__law_weight) .none kV4 dc4 pm4 an4 cd4 ct4), sl4⟩) (c4 : PySem.W.codeIn K cd4 "_law_weight" = true) (k4 : PySem.W.keepIn K (.ref f4) = true)
    {od5 an5 : Option Addr} {sl5 : Array (Option Value)} {oc5 kV5 dc5 pm5 cd5 ct5 : Value}
    (a5 : PySem.W.nsIn K mainGlobals "_law_marks" = some (some (.ref f5))) (l5 : K.lookup f5 = some ⟨oc5, od5, .func (PySem.W.fnOf "_law_marks" "_law_marks" (defArgs s__law_marks) (defBody s__law_marks) (defScope s__law_marks) .none kV5 dc5 pm5 an5 cd5 ct5), sl5⟩) (c5 : PySem.W.codeIn K cd5 "_law_marks" = true) (k5 : PySem.W.keepIn K (.ref f5) = true)
    {od6 an6 : Option Addr} {sl6 : Array (Option Value)} {oc6 kV6 dc6 pm6 cd6 ct6 : Value}
    (a6 : PySem.W.nsIn K mainGlobals "_law_any_net" = some (some (.ref f6))) (l6 : K.lookup f6 = some ⟨oc6, od6, .func (PySem.W.fnOf "_law_any_net" "_law_any_net" (defArgs s__law_any_net) (defBody s__law_any_net) (defScope s__law_any_net) .none kV6 dc6 pm6 an6 cd6 ct6), sl6⟩) (c6 : PySem.W.codeIn K cd6 "_law_any_net" = true) (k6 : PySem.W.keepIn K (.ref f6) = true)
    {od7 an7 : Option Addr} {sl7 : Array (Option Value)} {oc7 kV7 dc7 pm7 cd7 ct7 : Value}
    (a7 : PySem.W.nsIn K mainGlobals "_law_over" = some (some (.ref f7))) (l7 : K.lookup f7 = some ⟨oc7, od7, .func (PySem.W.fnOf "_law_over" "_law_over" (defArgs s__law_over) (defBody s__law_over) (defScope s__law_over) .none kV7 dc7 pm7 an7 cd7 ct7), sl7⟩) (c7 : PySem.W.codeIn K cd7 "_law_over" = true) (k7 : PySem.W.keepIn K (.ref f7) = true)
    {od8 an8 : Option Addr} {sl8 : Array (Option Value)} {oc8 kV8 dc8 pm8 cd8 ct8 : Value}
    (a8 : PySem.W.nsIn K mainGlobals "_law_scaled_net" = some (some (.ref f8))) (l8 : K.lookup f8 = some ⟨oc8, od8, .func (PySem.W.fnOf "_law_scaled_net" "_law_scaled_net" (defArgs s__law_scaled_net) (defBody s__law_scaled_net) (defScope s__law_scaled_net) .none kV8 dc8 pm8 an8 cd8 ct8), sl8⟩) (c8 : PySem.W.codeIn K cd8 "_law_scaled_net" = true) (k8 : PySem.W.keepIn K (.ref f8) = true)
    {od9 an9 : Option Addr} {sl9 : Array (Option Value)} {oc9 kV9 dc9 pm9 cd9 ct9 : Value}
    (a9 : PySem.W.nsIn K mainGlobals "_law_net" = some (some (.ref f9))) (l9 : K.lookup f9 = some ⟨oc9, od9, .func (PySem.W.fnOf "_law_net" "_law_net" (defArgs s__law_net) (defBody s__law_net) (defScope s__law_net) .none kV9 dc9 pm9 an9 cd9 ct9), sl9⟩) (c9 : PySem.W.codeIn K cd9 "_law_net" = true) (k9 : PySem.W.keepIn K (.ref f9) = true)
    {od10 an10 : Option Addr} {sl10 : Array (Option Value)} {oc10 kV10 dc10 pm10 cd10 ct10 : Value}
    (a10 : PySem.W.nsIn K mainGlobals "_law_below" = some (some (.ref f10))) (l10 : K.lookup f10 = some ⟨oc10, od10, .func (PySem.W.fnOf "_law_below" "_law_below" (defArgs s__law_below) (defBody s__law_below) (defScope s__law_below) .none kV10 dc10 pm10 an10 cd10 ct10), sl10⟩) (c10 : PySem.W.codeIn K cd10 "_law_below" = true) (k10 : PySem.W.keepIn K (.ref f10) = true)
    {od11 an11 : Option Addr} {sl11 : Array (Option Value)} {oc11 kV11 dc11 pm11 cd11 ct11 : Value}
    (a11 : PySem.W.nsIn K mainGlobals "_law_plus" = some (some (.ref f11))) (l11 : K.lookup f11 = some ⟨oc11, od11, .func (PySem.W.fnOf "_law_plus" "_law_plus" (defArgs s__law_plus) (defBody s__law_plus) (defScope s__law_plus) .none kV11 dc11 pm11 an11 cd11 ct11), sl11⟩) (c11 : PySem.W.codeIn K cd11 "_law_plus" = true) (k11 : PySem.W.keepIn K (.ref f11) = true)
    {od12 an12 : Option Addr} {sl12 : Array (Option Value)} {oc12 kV12 dc12 pm12 cd12 ct12 : Value}
    (a12 : PySem.W.nsIn K mainGlobals "_law_heard" = some (some (.ref f12))) (l12 : K.lookup f12 = some ⟨oc12, od12, .func (PySem.W.fnOf "_law_heard" "_law_heard" (defArgs s__law_heard) (defBody s__law_heard) (defScope s__law_heard) .none kV12 dc12 pm12 an12 cd12 ct12), sl12⟩) (c12 : PySem.W.codeIn K cd12 "_law_heard" = true) (k12 : PySem.W.keepIn K (.ref f12) = true)
    {od13 an13 : Option Addr} {sl13 : Array (Option Value)} {oc13 kV13 dc13 pm13 cd13 ct13 : Value}
    (a13 : PySem.W.nsIn K mainGlobals "_law_wishes" = some (some (.ref f13))) (l13 : K.lookup f13 = some ⟨oc13, od13, .func (PySem.W.fnOf "_law_wishes" "_law_wishes" (defArgs s__law_wishes) (defBody s__law_wishes) (defScope s__law_wishes) .none kV13 dc13 pm13 an13 cd13 ct13), sl13⟩) (c13 : PySem.W.codeIn K cd13 "_law_wishes" = true) (k13 : PySem.W.keepIn K (.ref f13) = true)
    {od14 an14 : Option Addr} {sl14 : Array (Option Value)} {oc14 kV14 dc14 pm14 cd14 ct14 : Value}
    (a14 : PySem.W.nsIn K mainGlobals "_law_tail" = some (some (.ref f14))) (l14 : K.lookup f14 = some ⟨oc14, od14, .func (PySem.W.fnOf "_law_tail" "_law_tail" (defArgs s__law_tail) (defBody s__law_tail) (defScope s__law_tail) .none kV14 dc14 pm14 an14 cd14 ct14), sl14⟩) (c14 : PySem.W.codeIn K cd14 "_law_tail" = true) (k14 : PySem.W.keepIn K (.ref f14) = true)
    {od15 an15 : Option Addr} {sl15 : Array (Option Value)} {oc15 kV15 dc15 pm15 cd15 ct15 : Value}
    (a15 : PySem.W.nsIn K mainGlobals "_law_all_rings" = some (some (.ref f15))) (l15 : K.lookup f15 = some ⟨oc15, od15, .func (PySem.W.fnOf "_law_all_rings" "_law_all_rings" (defArgs s__law_all_rings) (defBody s__law_all_rings) (defScope s__law_all_rings) .none kV15 dc15 pm15 an15 cd15 ct15), sl15⟩) (c15 : PySem.W.codeIn K cd15 "_law_all_rings" = true) (k15 : PySem.W.keepIn K (.ref f15) = true)
    {od16 an16 : Option Addr} {sl16 : Array (Option Value)} {oc16 kV16 dc16 pm16 cd16 ct16 : Value}
    (a16 : PySem.W.nsIn K mainGlobals "_law_as_state" = some (some (.ref f16))) (l16 : K.lookup f16 = some ⟨oc16, od16, .func (PySem.W.fnOf "_law_as_state" "_law_as_state" (defArgs s__law_as_state) (defBody s__law_as_state) (defScope s__law_as_state) .none kV16 dc16 pm16 an16 cd16 ct16), sl16⟩) (c16 : PySem.W.codeIn K cd16 "_law_as_state" = true) (k16 : PySem.W.keepIn K (.ref f16) = true)
    {od17 an17 : Option Addr} {sl17 : Array (Option Value)} {oc17 kV17 dc17 pm17 cd17 ct17 : Value}
    (a17 : PySem.W.nsIn K mainGlobals "_law_as_states" = some (some (.ref f17))) (l17 : K.lookup f17 = some ⟨oc17, od17, .func (PySem.W.fnOf "_law_as_states" "_law_as_states" (defArgs s__law_as_states) (defBody s__law_as_states) (defScope s__law_as_states) .none kV17 dc17 pm17 an17 cd17 ct17), sl17⟩) (c17 : PySem.W.codeIn K cd17 "_law_as_states" = true) (k17 : PySem.W.keepIn K (.ref f17) = true)
    {od18 an18 : Option Addr} {sl18 : Array (Option Value)} {oc18 kV18 dc18 pm18 cd18 ct18 : Value}
    (a18 : PySem.W.nsIn K mainGlobals "is_tuple_of" = some (some (.ref f18))) (l18 : K.lookup f18 = some ⟨oc18, od18, .func (PySem.W.fnOf "is_tuple_of" "is_tuple_of" (defArgs s_is_tuple_of) (defBody s_is_tuple_of) (defScope s_is_tuple_of) .none kV18 dc18 pm18 an18 cd18 ct18), sl18⟩) (c18 : PySem.W.codeIn K cd18 "is_tuple_of" = true) (k18 : PySem.W.keepIn K (.ref f18) = true)
    {od19 an19 : Option Addr} {sl19 : Array (Option Value)} {oc19 kV19 dc19 pm19 cd19 ct19 : Value}
    (a19 : PySem.W.nsIn K mainGlobals "is_whole" = some (some (.ref f19))) (l19 : K.lookup f19 = some ⟨oc19, od19, .func (PySem.W.fnOf "is_whole" "is_whole" (defArgs s_is_whole) (defBody s_is_whole) (defScope s_is_whole) .none kV19 dc19 pm19 an19 cd19 ct19), sl19⟩) (c19 : PySem.W.codeIn K cd19 "is_whole" = true) (k19 : PySem.W.keepIn K (.ref f19) = true)
    {od20 an20 : Option Addr} {sl20 : Array (Option Value)} {oc20 kV20 dc20 pm20 cd20 ct20 : Value}
    (a20 : PySem.W.nsIn K mainGlobals "is_ratio" = some (some (.ref f20))) (l20 : K.lookup f20 = some ⟨oc20, od20, .func (PySem.W.fnOf "is_ratio" "is_ratio" (defArgs s_is_ratio) (defBody s_is_ratio) (defScope s_is_ratio) .none kV20 dc20 pm20 an20 cd20 ct20), sl20⟩) (c20 : PySem.W.codeIn K cd20 "is_ratio" = true) (k20 : PySem.W.keepIn K (.ref f20) = true)
    {od21 an21 : Option Addr} {sl21 : Array (Option Value)} {oc21 kV21 dc21 pm21 cd21 ct21 : Value}
    (a21 : PySem.W.nsIn K mainGlobals "is_row" = some (some (.ref f21))) (l21 : K.lookup f21 = some ⟨oc21, od21, .func (PySem.W.fnOf "is_row" "is_row" (defArgs s_is_row) (defBody s_is_row) (defScope s_is_row) .none kV21 dc21 pm21 an21 cd21 ct21), sl21⟩) (c21 : PySem.W.codeIn K cd21 "is_row" = true) (k21 : PySem.W.keepIn K (.ref f21) = true)
    {od22 an22 : Option Addr} {sl22 : Array (Option Value)} {oc22 kV22 dc22 pm22 cd22 ct22 : Value}
    (a22 : PySem.W.nsIn K mainGlobals "is_net_by" = some (some (.ref f22))) (l22 : K.lookup f22 = some ⟨oc22, od22, .func (PySem.W.fnOf "is_net_by" "is_net_by" (defArgs s_is_net_by) (defBody s_is_net_by) (defScope s_is_net_by) .none kV22 dc22 pm22 an22 cd22 ct22), sl22⟩) (c22 : PySem.W.codeIn K cd22 "is_net_by" = true) (k22 : PySem.W.keepIn K (.ref f22) = true)
    {od23 an23 : Option Addr} {sl23 : Array (Option Value)} {oc23 kV23 dc23 pm23 cd23 ct23 : Value}
    (a23 : PySem.W.nsIn K mainGlobals "check_net" = some (some (.ref f23))) (l23 : K.lookup f23 = some ⟨oc23, od23, .func (PySem.W.fnOf "check_net" "check_net" (defArgs s_check_net) (defBody s_check_net) (defScope s_check_net) .none kV23 dc23 pm23 an23 cd23 ct23), sl23⟩) (c23 : PySem.W.codeIn K cd23 "check_net" = true) (k23 : PySem.W.keepIn K (.ref f23) = true)
    {od24 an24 : Option Addr} {sl24 : Array (Option Value)} {oc24 kV24 dc24 pm24 cd24 ct24 : Value}
    (a24 : PySem.W.nsIn K mainGlobals "many_cells" = some (some (.ref f24))) (l24 : K.lookup f24 = some ⟨oc24, od24, .func (PySem.W.fnOf "many_cells" "many_cells" (defArgs s_many_cells) (defBody s_many_cells) (defScope s_many_cells) .none kV24 dc24 pm24 an24 cd24 ct24), sl24⟩) (c24 : PySem.W.codeIn K cd24 "many_cells" = true) (k24 : PySem.W.keepIn K (.ref f24) = true)
    {od25 an25 : Option Addr} {sl25 : Array (Option Value)} {oc25 kV25 dc25 pm25 cd25 ct25 : Value}
    (a25 : PySem.W.nsIn K mainGlobals "state_by" = some (some (.ref f25))) (l25 : K.lookup f25 = some ⟨oc25, od25, .func (PySem.W.fnOf "state_by" "state_by" (defArgs s_state_by) (defBody s_state_by) (defScope s_state_by) .none kV25 dc25 pm25 an25 cd25 ct25), sl25⟩) (c25 : PySem.W.codeIn K cd25 "state_by" = true) (k25 : PySem.W.keepIn K (.ref f25) = true)
    {od26 an26 : Option Addr} {sl26 : Array (Option Value)} {oc26 kV26 dc26 pm26 cd26 ct26 : Value}
    (a26 : PySem.W.nsIn K mainGlobals "all_states" = some (some (.ref f26))) (l26 : K.lookup f26 = some ⟨oc26, od26, .func (PySem.W.fnOf "all_states" "all_states" (defArgs s_all_states) (defBody s_all_states) (defScope s_all_states) .none kV26 dc26 pm26 an26 cd26 ct26), sl26⟩) (c26 : PySem.W.codeIn K cd26 "all_states" = true) (k26 : PySem.W.keepIn K (.ref f26) = true)
    {od27 an27 : Option Addr} {sl27 : Array (Option Value)} {oc27 kV27 dc27 pm27 cd27 ct27 : Value}
    (a27 : PySem.W.nsIn K mainGlobals "number_by" = some (some (.ref f27))) (l27 : K.lookup f27 = some ⟨oc27, od27, .func (PySem.W.fnOf "number_by" "number_by" (defArgs s_number_by) (defBody s_number_by) (defScope s_number_by) .none kV27 dc27 pm27 an27 cd27 ct27), sl27⟩) (c27 : PySem.W.codeIn K cd27 "number_by" = true) (k27 : PySem.W.keepIn K (.ref f27) = true)
    {od28 an28 : Option Addr} {sl28 : Array (Option Value)} {oc28 kV28 dc28 pm28 cd28 ct28 : Value}
    (a28 : PySem.W.nsIn K mainGlobals "is_less" = some (some (.ref f28))) (l28 : K.lookup f28 = some ⟨oc28, od28, .func (PySem.W.fnOf "is_less" "is_less" (defArgs s_is_less) (defBody s_is_less) (defScope s_is_less) .none kV28 dc28 pm28 an28 cd28 ct28), sl28⟩) (c28 : PySem.W.codeIn K cd28 "is_less" = true) (k28 : PySem.W.keepIn K (.ref f28) = true)
    {od29 an29 : Option Addr} {sl29 : Array (Option Value)} {oc29 kV29 dc29 pm29 cd29 ct29 : Value}
    (a29 : PySem.W.nsIn K mainGlobals "ratio" = some (some (.ref f29))) (l29 : K.lookup f29 = some ⟨oc29, od29, .func (PySem.W.fnOf "ratio" "ratio" (defArgs s_ratio) (defBody s_ratio) (defScope s_ratio) .none kV29 dc29 pm29 an29 cd29 ct29), sl29⟩) (c29 : PySem.W.codeIn K cd29 "ratio" = true) (k29 : PySem.W.keepIn K (.ref f29) = true)
    {od30 an30 : Option Addr} {sl30 : Array (Option Value)} {oc30 kV30 dc30 pm30 cd30 ct30 : Value}
    (a30 : PySem.W.nsIn K mainGlobals "plus" = some (some (.ref f30))) (l30 : K.lookup f30 = some ⟨oc30, od30, .func (PySem.W.fnOf "plus" "plus" (defArgs s_plus) (defBody s_plus) (defScope s_plus) .none kV30 dc30 pm30 an30 cd30 ct30), sl30⟩) (c30 : PySem.W.codeIn K cd30 "plus" = true) (k30 : PySem.W.keepIn K (.ref f30) = true)
    {od31 an31 : Option Addr} {sl31 : Array (Option Value)} {oc31 kV31 dc31 pm31 cd31 ct31 : Value}
    (a31 : PySem.W.nsIn K mainGlobals "total" = some (some (.ref f31))) (l31 : K.lookup f31 = some ⟨oc31, od31, .func (PySem.W.fnOf "total" "total" (defArgs s_total) (defBody s_total) (defScope s_total) .none kV31 dc31 pm31 an31 cd31 ct31), sl31⟩) (c31 : PySem.W.codeIn K cd31 "total" = true) (k31 : PySem.W.keepIn K (.ref f31) = true)
    {od32 an32 : Option Addr} {sl32 : Array (Option Value)} {oc32 kV32 dc32 pm32 cd32 ct32 : Value}
    (a32 : PySem.W.nsIn K mainGlobals "heard_by" = some (some (.ref f32))) (l32 : K.lookup f32 = some ⟨oc32, od32, .func (PySem.W.fnOf "heard_by" "heard_by" (defArgs s_heard_by) (defBody s_heard_by) (defScope s_heard_by) .none kV32 dc32 pm32 an32 cd32 ct32), sl32⟩) (c32 : PySem.W.codeIn K cd32 "heard_by" = true) (k32 : PySem.W.keepIn K (.ref f32) = true)
    {od33 an33 : Option Addr} {sl33 : Array (Option Value)} {oc33 kV33 dc33 pm33 cd33 ct33 : Value}
    (a33 : PySem.W.nsIn K mainGlobals "wanted_by" = some (some (.ref f33))) (l33 : K.lookup f33 = some ⟨oc33, od33, .func (PySem.W.fnOf "wanted_by" "wanted_by" (defArgs s_wanted_by) (defBody s_wanted_by) (defScope s_wanted_by) .none kV33 dc33 pm33 an33 cd33 ct33), sl33⟩) (c33 : PySem.W.codeIn K cd33 "wanted_by" = true) (k33 : PySem.W.keepIn K (.ref f33) = true)
    {od34 an34 : Option Addr} {sl34 : Array (Option Value)} {oc34 kV34 dc34 pm34 cd34 ct34 : Value}
    (a34 : PySem.W.nsIn K mainGlobals "run_by" = some (some (.ref f34))) (l34 : K.lookup f34 = some ⟨oc34, od34, .func (PySem.W.fnOf "run_by" "run_by" (defArgs s_run_by) (defBody s_run_by) (defScope s_run_by) .none kV34 dc34 pm34 an34 cd34 ct34), sl34⟩) (c34 : PySem.W.codeIn K cd34 "run_by" = true) (k34 : PySem.W.keepIn K (.ref f34) = true)
    {od35 an35 : Option Addr} {sl35 : Array (Option Value)} {oc35 kV35 dc35 pm35 ct35 : Value} {c_rings_by T_rings_by : Addr}
    (a35 : PySem.W.nsIn K mainGlobals "rings_by" = some (some (.ref f35))) (l35 : K.lookup f35 = some ⟨oc35, od35, .func (PySem.W.fnOf "rings_by" "rings_by" (defArgs s_rings_by) (defBody s_rings_by) (defScope s_rings_by) .none kV35 dc35 pm35 an35 (.ref c_rings_by) ct35), sl35⟩) (c35 : PySem.W.codeIn K (.ref c_rings_by) "rings_by" = true) (k35 : PySem.W.keepIn K (.ref f35) = true)
    {xc35 : Value} {xd35 : Option Addr} {vs35 : Array Value} {xl35 : Array (Option Value)} (t35 : K.lookup c_rings_by = some ⟨xc35, xd35, .fields vs35, xl35⟩) (y35 : (vs35[11]? : Option Value) = some (.ref T_rings_by))
    (d35 : PySem.W.codeHdIn K c_rings_by T_rings_by = true) (n35 : K.lookup T_rings_by = none) (e35 : h.get? T_rings_by = some { cls := .none, data := .fields #[] })
    {od36 an36 : Option Addr} {sl36 : Array (Option Value)} {oc36 kV36 dc36 pm36 cd36 ct36 : Value}
    (a36 : PySem.W.nsIn K mainGlobals "rings" = some (some (.ref f36))) (l36 : K.lookup f36 = some ⟨oc36, od36, .func (PySem.W.fnOf "rings" "rings" (defArgs s_rings) (defBody s_rings) (defScope s_rings) .none kV36 dc36 pm36 an36 cd36 ct36), sl36⟩) (c36 : PySem.W.codeIn K cd36 "rings" = true) (k36 : PySem.W.keepIn K (.ref f36) = true)
    {od37 an37 : Option Addr} {sl37 : Array (Option Value)} {oc37 kV37 dc37 pm37 cd37 ct37 : Value}
    (a37 : PySem.W.nsIn K mainGlobals "is_between" = some (some (.ref f37))) (l37 : K.lookup f37 = some ⟨oc37, od37, .func (PySem.W.fnOf "is_between" "is_between" (defArgs s_is_between) (defBody s_is_between) (defScope s_is_between) .none kV37 dc37 pm37 an37 cd37 ct37), sl37⟩) (c37 : PySem.W.codeIn K cd37 "is_between" = true) (k37 : PySem.W.keepIn K (.ref f37) = true)
    {od38 an38 : Option Addr} {sl38 : Array (Option Value)} {oc38 kV38 dc38 pm38 cd38 ct38 : Value}
    (a38 : PySem.W.nsIn K mainGlobals "is_state_by" = some (some (.ref f38))) (l38 : K.lookup f38 = some ⟨oc38, od38, .func (PySem.W.fnOf "is_state_by" "is_state_by" (defArgs s_is_state_by) (defBody s_is_state_by) (defScope s_is_state_by) .none kV38 dc38 pm38 an38 cd38 ct38), sl38⟩) (c38 : PySem.W.codeIn K cd38 "is_state_by" = true) (k38 : PySem.W.keepIn K (.ref f38) = true)
    {od39 an39 : Option Addr} {sl39 : Array (Option Value)} {oc39 kV39 dc39 pm39 cd39 ct39 : Value}
    (a39 : PySem.W.nsIn K mainGlobals "check_state" = some (some (.ref f39))) (l39 : K.lookup f39 = some ⟨oc39, od39, .func (PySem.W.fnOf "check_state" "check_state" (defArgs s_check_state) (defBody s_check_state) (defScope s_check_state) .none kV39 dc39 pm39 an39 cd39 ct39), sl39⟩) (c39 : PySem.W.codeIn K cd39 "check_state" = true) (k39 : PySem.W.keepIn K (.ref f39) = true)
    {od40 an40 : Option Addr} {sl40 : Array (Option Value)} {oc40 kV40 dc40 pm40 cd40 ct40 : Value}
    (a40 : PySem.W.nsIn K mainGlobals "check_both" = some (some (.ref f40))) (l40 : K.lookup f40 = some ⟨oc40, od40, .func (PySem.W.fnOf "check_both" "check_both" (defArgs s_check_both) (defBody s_check_both) (defScope s_check_both) .none kV40 dc40 pm40 an40 cd40 ct40), sl40⟩) (c40 : PySem.W.codeIn K cd40 "check_both" = true) (k40 : PySem.W.keepIn K (.ref f40) = true)
    {od41 an41 : Option Addr} {sl41 : Array (Option Value)} {oc41 kV41 dc41 pm41 cd41 ct41 : Value}
    (a41 : PySem.W.nsIn K mainGlobals "wanted" = some (some (.ref f41))) (l41 : K.lookup f41 = some ⟨oc41, od41, .func (PySem.W.fnOf "wanted" "wanted" (defArgs s_wanted) (defBody s_wanted) (defScope s_wanted) .none kV41 dc41 pm41 an41 cd41 ct41), sl41⟩) (c41 : PySem.W.codeIn K cd41 "wanted" = true) (k41 : PySem.W.keepIn K (.ref f41) = true)
    {od42 an42 : Option Addr} {sl42 : Array (Option Value)} {oc42 kV42 dc42 pm42 ct42 : Value} {c_at_once_by T_at_once_by : Addr}
    (a42 : PySem.W.nsIn K mainGlobals "at_once_by" = some (some (.ref f42))) (l42 : K.lookup f42 = some ⟨oc42, od42, .func (PySem.W.fnOf "at_once_by" "at_once_by" (defArgs s_at_once_by) (defBody s_at_once_by) (defScope s_at_once_by) .none kV42 dc42 pm42 an42 (.ref c_at_once_by) ct42), sl42⟩) (c42 : PySem.W.codeIn K (.ref c_at_once_by) "at_once_by" = true) (k42 : PySem.W.keepIn K (.ref f42) = true)
    {xc42 : Value} {xd42 : Option Addr} {vs42 : Array Value} {xl42 : Array (Option Value)} (t42 : K.lookup c_at_once_by = some ⟨xc42, xd42, .fields vs42, xl42⟩) (y42 : (vs42[11]? : Option Value) = some (.ref T_at_once_by))
    (d42 : PySem.W.codeHdIn K c_at_once_by T_at_once_by = true) (n42 : K.lookup T_at_once_by = none) (e42 : h.get? T_at_once_by = some { cls := .none, data := .fields #[] })
    {od43 an43 : Option Addr} {sl43 : Array (Option Value)} {oc43 kV43 dc43 pm43 cd43 ct43 : Value}
    (a43 : PySem.W.nsIn K mainGlobals "run" = some (some (.ref f43))) (l43 : K.lookup f43 = some ⟨oc43, od43, .func (PySem.W.fnOf "run" "run" (defArgs s_run) (defBody s_run) (defScope s_run) .none kV43 dc43 pm43 an43 cd43 ct43), sl43⟩) (c43 : PySem.W.codeIn K cd43 "run" = true) (k43 : PySem.W.keepIn K (.ref f43) = true)
    {od44 an44 : Option Addr} {sl44 : Array (Option Value)} {oc44 kV44 dc44 pm44 cd44 ct44 : Value}
    (a44 : PySem.W.nsIn K mainGlobals "_law_are_states_right" = some (some (.ref f44))) (l44 : K.lookup f44 = some ⟨oc44, od44, .func (PySem.W.fnOf "_law_are_states_right" "_law_are_states_right" (defArgs s__law_are_states_right) (defBody s__law_are_states_right) (defScope s__law_are_states_right) .none kV44 dc44 pm44 an44 cd44 ct44), sl44⟩) (c44 : PySem.W.codeIn K cd44 "_law_are_states_right" = true) (k44 : PySem.W.keepIn K (.ref f44) = true)
    {od45 an45 : Option Addr} {sl45 : Array (Option Value)} {oc45 kV45 dc45 pm45 cd45 ct45 : Value}
    (a45 : PySem.W.nsIn K mainGlobals "swings_by" = some (some (.ref f45))) (l45 : K.lookup f45 = some ⟨oc45, od45, .func (PySem.W.fnOf "swings_by" "swings_by" (defArgs s_swings_by) (defBody s_swings_by) (defScope s_swings_by) .none kV45 dc45 pm45 an45 cd45 ct45), sl45⟩) (c45 : PySem.W.codeIn K cd45 "swings_by" = true) (k45 : PySem.W.keepIn K (.ref f45) = true)
    {od46 an46 : Option Addr} {sl46 : Array (Option Value)} {oc46 kV46 dc46 pm46 cd46 ct46 : Value}
    (a46 : PySem.W.nsIn K mainGlobals "swings" = some (some (.ref f46))) (l46 : K.lookup f46 = some ⟨oc46, od46, .func (PySem.W.fnOf "swings" "swings" (defArgs s_swings) (defBody s_swings) (defScope s_swings) .none kV46 dc46 pm46 an46 cd46 ct46), sl46⟩) (c46 : PySem.W.codeIn K cd46 "swings" = true) (k46 : PySem.W.keepIn K (.ref f46) = true)
    {od47 an47 : Option Addr} {sl47 : Array (Option Value)} {oc47 kV47 dc47 pm47 cd47 ct47 : Value}
    (a47 : PySem.W.nsIn K mainGlobals "_law_right" = some (some (.ref f47))) (l47 : K.lookup f47 = some ⟨oc47, od47, .func (PySem.W.fnOf "_law_right" "_law_right" (defArgs s__law_right) (defBody s__law_right) (defScope s__law_right) .none kV47 dc47 pm47 an47 cd47 ct47), sl47⟩) (c47 : PySem.W.codeIn K cd47 "_law_right" = true) (k47 : PySem.W.keepIn K (.ref f47) = true)
    {od48 an48 : Option Addr} {sl48 : Array (Option Value)} {oc48 kV48 dc48 pm48 cd48 ct48 : Value}
    (a48 : PySem.W.nsIn K mainGlobals "_law_well" = some (some (.ref f48))) (l48 : K.lookup f48 = some ⟨oc48, od48, .func (PySem.W.fnOf "_law_well" "_law_well" (defArgs s__law_well) (defBody s__law_well) (defScope s__law_well) .none kV48 dc48 pm48 an48 cd48 ct48), sl48⟩) (c48 : PySem.W.codeIn K cd48 "_law_well" = true) (k48 : PySem.W.keepIn K (.ref f48) = true)
    {od49 an49 : Option Addr} {sl49 : Array (Option Value)} {oc49 kV49 dc49 pm49 cd49 ct49 : Value}
    (a49 : PySem.W.nsIn K mainGlobals "law" = some (some (.ref f49))) (l49 : K.lookup f49 = some ⟨oc49, od49, .func (PySem.W.fnOf "law" "law" (defArgs s_law) (defBody s_law) (defScope s_law) .none kV49 dc49 pm49 an49 cd49 ct49), sl49⟩) (c49 : PySem.W.codeIn K cd49 "law" = true) (k49 : PySem.W.keepIn K (.ref f49) = true)
    (z_abs : PySem.W.nsIn K mainGlobals "abs" = some none)
    (z_all : PySem.W.nsIn K mainGlobals "all" = some none)
    (z_any : PySem.W.nsIn K mainGlobals "any" = some none)
    (z_bool : PySem.W.nsIn K mainGlobals "bool" = some none)
    (z_dict : PySem.W.nsIn K mainGlobals "dict" = some none)
    (z_divmod : PySem.W.nsIn K mainGlobals "divmod" = some none)
    (z_enumerate : PySem.W.nsIn K mainGlobals "enumerate" = some none)
    (z_int : PySem.W.nsIn K mainGlobals "int" = some none)
    (z_isinstance : PySem.W.nsIn K mainGlobals "isinstance" = some none)
    (z_len : PySem.W.nsIn K mainGlobals "len" = some none)
    (z_list : PySem.W.nsIn K mainGlobals "list" = some none)
    (z_max : PySem.W.nsIn K mainGlobals "max" = some none)
    (z_min : PySem.W.nsIn K mainGlobals "min" = some none)
    (z_range : PySem.W.nsIn K mainGlobals "range" = some none)
    (z_repr : PySem.W.nsIn K mainGlobals "repr" = some none)
    (z_set : PySem.W.nsIn K mainGlobals "set" = some none)
    (z_sorted : PySem.W.nsIn K mainGlobals "sorted" = some none)
    (z_str : PySem.W.nsIn K mainGlobals "str" = some none)
    (z_sum : PySem.W.nsIn K mainGlobals "sum" = some none)
    (z_tuple : PySem.W.nsIn K mainGlobals "tuple" = some none)
    (z_zip : PySem.W.nsIn K mainGlobals "zip" = some none)
    (q_gcd : PySem.W.nsIn K mainGlobals "gcd" = some (some (.builtin "math.gcd")))
    {t_MOST_CELLS : Tok} (q_MOST_CELLS : PySem.W.nsIn K mainGlobals "MOST_CELLS" = some (some (.int 8 t_MOST_CELLS)))
    {t_ZERO u_ZERO : Tok} {b_ZERO : Addr} {n_ZERO : Nat} {d_ZERO : Option Addr} {y_ZERO : Array (Option Value)} (q_ZERO : PySem.W.nsIn K mainGlobals "ZERO" = some (some (.ref b_ZERO))) (r_ZERO : K.lookup b_ZERO = some ⟨.type "tuple", d_ZERO, .seq #[.int 0 t_ZERO, .int 1 u_ZERO] n_ZERO, y_ZERO⟩)
    (nd : [T_at_once_by, T_rings_by].Nodup)
    : ∃ (fd : FuncData) (cs : List (Addr × Addr × Str)) (γ : OL), (cs.map (·.2.1)).Nodup ∧ (∀ p ∈ cs, h.get? p.2.1 = some { cls := .none, data := .fields #[] }) ∧ (∀ p ∈ cs, K.lookup p.2.1 = none) ∧ (∀ p ∈ cs, PySem.W.CodeHd h p.1 p.2.1) ∧ (∀ (s : Shared) (v : Value), BindsTo s fd ⟨[v], []⟩ [("script", v)]) ∧ (∀ ns : List Int, ns.length ≤ 63 → ∀ (R : QD) (S : Sto), (∀ p ∈ cs, S p.2.1 = some (.tab p.2.2)) → R (.bl true) S → γ [.scr (ns.map .int)] S R) ∧ ∀ base : Heap, K.In base → base.Ns mainGlobals mg → (∀ p ∈ cs, LamX.TabB base mg p.1 p.2.1) → GFn l.prog w K mg base 12 fa fd ["script"] γ := by
  have e := hfa.symm.trans (PySem.W.mg_of X G a49)
  cases e
  have F0 := fun_mk (st := s__law_draw) l0 c0 k0
  have m0 := PySem.W.mg_of X G a0
  have b0 := F0.binds (ps := ["well", "few"]) fun _ _ _ _ _ _ us hl => match us, hl with | [_, _], _ => rfl
  have F1 := fun_mk (st := s__law_one) l1 c1 k1
  have m1 := PySem.W.mg_of X G a1
  have b1 := F1.binds (ps := ["well", "some"]) fun _ _ _ _ _ _ us hl => match us, hl with | [_, _], _ => rfl
  have F2 := fun_mk (st := s__law_wheel) l2 c2 k2
  have m2 := PySem.W.mg_of X G a2
  have b2 := F2.binds (ps := ["well", "few"]) fun _ _ _ _ _ _ us hl => match us, hl with | [_, _], _ => rfl
  have F3 := fun_mk (st := s__law_lean) l3 c3 k3
  have m3 := PySem.W.mg_of X G a3
  have b3 := F3.binds (ps := ["top", "base"]) fun _ _ _ _ _ _ us hl => match us, hl with | [_, _], _ => rfl
  have F4 := fun_mk (st := s__law_weight) l4 c4 k4
  have m4 := PySem.W.mg_of X G a4
  have b4 := F4.binds (ps := ["well"]) fun _ _ _ _ _ _ us hl => match us, hl with | [_], _ => rfl
  have F5 := fun_mk (st := s__law_marks) l5 c5 k5
  have m5 := PySem.W.mg_of X G a5
  have b5 := F5.binds (ps := ["well", "few"]) fun _ _ _ _ _ _ us hl => match us, hl with | [_, _], _ => rfl
  have F6 := fun_mk (st := s__law_any_net) l6 c6 k6
  have m6 := PySem.W.mg_of X G a6
  have b6 := F6.binds (ps := ["well", "few"]) fun _ _ _ _ _ _ us hl => match us, hl with | [_, _], _ => rfl
  have F7 := fun_mk (st := s__law_over) l7 c7 k7
  have m7 := PySem.W.mg_of X G a7
  have b7 := F7.binds (ps := ["x", "y"]) fun _ _ _ _ _ _ us hl => match us, hl with | [_, _], _ => rfl
  have F8 := fun_mk (st := s__law_scaled_net) l8 c8 k8
  have m8 := PySem.W.mg_of X G a8
  have b8 := F8.binds (ps := ["well", "few"]) fun _ _ _ _ _ _ us hl => match us, hl with | [_, _], _ => rfl
  have F9 := fun_mk (st := s__law_net) l9 c9 k9
  have m9 := PySem.W.mg_of X G a9
  have b9 := F9.binds (ps := ["well", "few"]) fun _ _ _ _ _ _ us hl => match us, hl with | [_, _], _ => rfl
  have F10 := fun_mk (st := s__law_below) l10 c10 k10
  have m10 := PySem.W.mg_of X G a10
  have b10 := F10.binds (ps := ["x", "y"]) fun _ _ _ _ _ _ us hl => match us, hl with | [_, _], _ => rfl
  have F11 := fun_mk (st := s__law_plus) l11 c11 k11
  have m11 := PySem.W.mg_of X G a11
  have b11 := F11.binds (ps := ["x", "y"]) fun _ _ _ _ _ _ us hl => match us, hl with | [_, _], _ => rfl
  have F12 := fun_mk (st := s__law_heard) l12 c12 k12
  have m12 := PySem.W.mg_of X G a12
  have b12 := F12.binds (ps := ["net", "cell", "number"]) fun _ _ _ _ _ _ us hl => match us, hl with | [_, _, _], _ => rfl
  have F13 := fun_mk (st := s__law_wishes) l13 c13 k13
  have m13 := PySem.W.mg_of X G a13
  have b13 := F13.binds (ps := ["net"]) fun _ _ _ _ _ _ us hl => match us, hl with | [_], _ => rfl
  have F14 := fun_mk (st := s__law_tail) l14 c14 k14
  have m14 := PySem.W.mg_of X G a14
  have b14 := F14.binds (ps := ["steps", "number"]) fun _ _ _ _ _ _ us hl => match us, hl with | [_, _], _ => rfl
  have F15 := fun_mk (st := s__law_all_rings) l15 c15 k15
  have m15 := PySem.W.mg_of X G a15
  have b15 := F15.binds (ps := ["steps"]) fun _ _ _ _ _ _ us hl => match us, hl with | [_], _ => rfl
  have F16 := fun_mk (st := s__law_as_state) l16 c16 k16
  have m16 := PySem.W.mg_of X G a16
  have b16 := F16.binds (ps := ["number", "few"]) fun _ _ _ _ _ _ us hl => match us, hl with | [_, _], _ => rfl
  have F17 := fun_mk (st := s__law_as_states) l17 c17 k17
  have m17 := PySem.W.mg_of X G a17
  have b17 := F17.binds (ps := ["numbers", "few"]) fun _ _ _ _ _ _ us hl => match us, hl with | [_, _], _ => rfl
  have F18 := fun_mk (st := s_is_tuple_of) l18 c18 k18
  have m18 := PySem.W.mg_of X G a18
  have b18 := F18.binds (ps := ["value", "many"]) fun _ _ _ _ _ _ us hl => match us, hl with | [_, _], _ => rfl
  have F19 := fun_mk (st := s_is_whole) l19 c19 k19
  have m19 := PySem.W.mg_of X G a19
  have b19 := F19.binds (ps := ["value"]) fun _ _ _ _ _ _ us hl => match us, hl with | [_], _ => rfl
  have F20 := fun_mk (st := s_is_ratio) l20 c20 k20
  have m20 := PySem.W.mg_of X G a20
  have b20 := F20.binds (ps := ["value"]) fun _ _ _ _ _ _ us hl => match us, hl with | [_], _ => rfl
  have F21 := fun_mk (st := s_is_row) l21 c21 k21
  have m21 := PySem.W.mg_of X G a21
  have b21 := F21.binds (ps := ["value", "many"]) fun _ _ _ _ _ _ us hl => match us, hl with | [_, _], _ => rfl
  have F22 := fun_mk (st := s_is_net_by) l22 c22 k22
  have m22 := PySem.W.mg_of X G a22
  have b22 := F22.binds (ps := ["value"]) fun _ _ _ _ _ _ us hl => match us, hl with | [_], _ => rfl
  have F23 := fun_mk (st := s_check_net) l23 c23 k23
  have m23 := PySem.W.mg_of X G a23
  have b23 := F23.binds (ps := ["value"]) fun _ _ _ _ _ _ us hl => match us, hl with | [_], _ => rfl
  have F24 := fun_mk (st := s_many_cells) l24 c24 k24
  have m24 := PySem.W.mg_of X G a24
  have b24 := F24.binds (ps := ["net"]) fun _ _ _ _ _ _ us hl => match us, hl with | [_], _ => rfl
  have F25 := fun_mk (st := s_state_by) l25 c25 k25
  have m25 := PySem.W.mg_of X G a25
  have b25 := F25.binds (ps := ["many", "number"]) fun _ _ _ _ _ _ us hl => match us, hl with | [_, _], _ => rfl
  have F26 := fun_mk (st := s_all_states) l26 c26 k26
  have m26 := PySem.W.mg_of X G a26
  have b26 := F26.binds (ps := ["net"]) fun _ _ _ _ _ _ us hl => match us, hl with | [_], _ => rfl
  have F27 := fun_mk (st := s_number_by) l27 c27 k27
  have m27 := PySem.W.mg_of X G a27
  have b27 := F27.binds (ps := ["state"]) fun _ _ _ _ _ _ us hl => match us, hl with | [_], _ => rfl
  have F28 := fun_mk (st := s_is_less) l28 c28 k28
  have m28 := PySem.W.mg_of X G a28
  have b28 := F28.binds (ps := ["one", "two"]) fun _ _ _ _ _ _ us hl => match us, hl with | [_, _], _ => rfl
  have F29 := fun_mk (st := s_ratio) l29 c29 k29
  have m29 := PySem.W.mg_of X G a29
  have b29 := F29.binds (ps := ["top", "low"]) fun _ _ _ _ _ _ us hl => match us, hl with | [_, _], _ => rfl
  have F30 := fun_mk (st := s_plus) l30 c30 k30
  have m30 := PySem.W.mg_of X G a30
  have b30 := F30.binds (ps := ["one", "two"]) fun _ _ _ _ _ _ us hl => match us, hl with | [_, _], _ => rfl
  have F31 := fun_mk (st := s_total) l31 c31 k31
  have m31 := PySem.W.mg_of X G a31
  have b31 := F31.binds (ps := ["fractions"]) fun _ _ _ _ _ _ us hl => match us, hl with | [_], _ => rfl
  have F32 := fun_mk (st := s_heard_by) l32 c32 k32
  have m32 := PySem.W.mg_of X G a32
  have b32 := F32.binds (ps := ["net", "cell", "state"]) fun _ _ _ _ _ _ us hl => match us, hl with | [_, _, _], _ => rfl
  have F33 := fun_mk (st := s_wanted_by) l33 c33 k33
  have m33 := PySem.W.mg_of X G a33
  have b33 := F33.binds (ps := ["net", "state"]) fun _ _ _ _ _ _ us hl => match us, hl with | [_, _], _ => rfl
  have F34 := fun_mk (st := s_run_by) l34 c34 k34
  have m34 := PySem.W.mg_of X G a34
  have b34 := F34.binds (ps := ["first", "step"]) fun _ _ _ _ _ _ us hl => match us, hl with | [_, _], _ => rfl
  have FC35 := funC_mk (st := s_rings_by) l35 c35 k35
  have F35 := FC35.fn
  have m35 := PySem.W.mg_of X G a35
  have b35 := F35.binds (ps := ["net"]) fun _ _ _ _ _ _ us hl => match us, hl with | [_], _ => rfl
  have F36 := fun_mk (st := s_rings) l36 c36 k36
  have m36 := PySem.W.mg_of X G a36
  have b36 := F36.binds (ps := ["net"]) fun _ _ _ _ _ _ us hl => match us, hl with | [_], _ => rfl
  have F37 := fun_mk (st := s_is_between) l37 c37 k37
  have m37 := PySem.W.mg_of X G a37
  have b37 := F37.binds (ps := ["value", "low", "high"]) fun _ _ _ _ _ _ us hl => match us, hl with | [_, _, _], _ => rfl
  have F38 := fun_mk (st := s_is_state_by) l38 c38 k38
  have m38 := PySem.W.mg_of X G a38
  have b38 := F38.binds (ps := ["net", "value"]) fun _ _ _ _ _ _ us hl => match us, hl with | [_, _], _ => rfl
  have F39 := fun_mk (st := s_check_state) l39 c39 k39
  have m39 := PySem.W.mg_of X G a39
  have b39 := F39.binds (ps := ["net", "value"]) fun _ _ _ _ _ _ us hl => match us, hl with | [_, _], _ => rfl
  have F40 := fun_mk (st := s_check_both) l40 c40 k40
  have m40 := PySem.W.mg_of X G a40
  have b40 := F40.binds (ps := ["net", "state"]) fun _ _ _ _ _ _ us hl => match us, hl with | [_, _], _ => rfl
  have F41 := fun_mk (st := s_wanted) l41 c41 k41
  have m41 := PySem.W.mg_of X G a41
  have b41 := F41.binds (ps := ["net", "state"]) fun _ _ _ _ _ _ us hl => match us, hl with | [_, _], _ => rfl
  have FC42 := funC_mk (st := s_at_once_by) l42 c42 k42
  have F42 := FC42.fn
  have m42 := PySem.W.mg_of X G a42
  have b42 := F42.binds (ps := ["net", "state"]) fun _ _ _ _ _ _ us hl => match us, hl with | [_, _], _ => rfl
  have F43 := fun_mk (st := s_run) l43 c43 k43
  have m43 := PySem.W.mg_of X G a43
  have b43 := F43.binds (ps := ["net", "state"]) fun _ _ _ _ _ _ us hl => match us, hl with | [_, _], _ => rfl
  have F44 := fun_mk (st := s__law_are_states_right) l44 c44 k44
  have m44 := PySem.W.mg_of X G a44
  have b44 := F44.binds (ps := ["well", "net", "steps"]) fun _ _ _ _ _ _ us hl => match us, hl with | [_, _, _], _ => rfl
  have F45 := fun_mk (st := s_swings_by) l45 c45 k45
  have m45 := PySem.W.mg_of X G a45
  have b45 := F45.binds (ps := ["net"]) fun _ _ _ _ _ _ us hl => match us, hl with | [_], _ => rfl
  have F46 := fun_mk (st := s_swings) l46 c46 k46
  have m46 := PySem.W.mg_of X G a46
  have b46 := F46.binds (ps := ["net"]) fun _ _ _ _ _ _ us hl => match us, hl with | [_], _ => rfl
  have F47 := fun_mk (st := s__law_right) l47 c47 k47
  have m47 := PySem.W.mg_of X G a47
  have b47 := F47.binds (ps := ["well"]) fun _ _ _ _ _ _ us hl => match us, hl with | [_], _ => rfl
  have F48 := fun_mk (st := s__law_well) l48 c48 k48
  have m48 := PySem.W.mg_of X G a48
  have b48 := F48.binds (ps := ["script", "lap"]) fun _ _ _ _ _ _ us hl => match us, hl with | [_, _], _ => rfl
  have F49 := fun_mk (st := s_law) l49 c49 k49
  have m49 := PySem.W.mg_of X G a49
  have b49 := F49.binds (ps := ["script"]) fun _ _ _ _ _ _ us hl => match us, hl with | [_], _ => rfl
  have kb_wanted_0 := kb_mk (ps := ["net", "state"]) (ks := ["state", "net"]) (n := 0) (perm := [1, 0]) F41 fun _ _ _ _ _ _ us ws hu hw => match us, ws, hu, hw with | [], [_, _], _, _ => rfl
  have kb_run_0 := kb_mk (ps := ["net", "state"]) (ks := ["state", "net"]) (n := 0) (perm := [1, 0]) F43 fun _ _ _ _ _ _ us ws hu hw => match us, ws, hu, hw with | [], [_, _], _, _ => rfl
  have kb_rings_0 := kb_mk (ps := ["net"]) (ks := ["net"]) (n := 0) (perm := [0]) F36 fun _ _ _ _ _ _ us ws hu hw => match us, ws, hu, hw with | [], [_], _, _ => rfl
  have kb_swings_0 := kb_mk (ps := ["net"]) (ks := ["net"]) (n := 0) (perm := [0]) F46 fun _ _ _ _ _ _ us ws hu hw => match us, ws, hu, hw with | [], [_], _, _ => rfl
  have B : Blt mg := ⟨PySem.W.mg_none_of X G z_abs, PySem.W.mg_none_of X G z_all, PySem.W.mg_none_of X G z_any, PySem.W.mg_none_of X G z_bool, PySem.W.mg_none_of X G z_dict, PySem.W.mg_none_of X G z_divmod, PySem.W.mg_none_of X G z_enumerate, PySem.W.mg_none_of X G z_int, PySem.W.mg_none_of X G z_isinstance, PySem.W.mg_none_of X G z_len, PySem.W.mg_none_of X G z_list, PySem.W.mg_none_of X G z_max, PySem.W.mg_none_of X G z_min, PySem.W.mg_none_of X G z_range, PySem.W.mg_none_of X G z_repr, PySem.W.mg_none_of X G z_set, PySem.W.mg_none_of X G z_sorted, PySem.W.mg_none_of X G z_str, PySem.W.mg_none_of X G z_sum, PySem.W.mg_none_of X G z_tuple, PySem.W.mg_none_of X G z_zip⟩
  have m_gcd := PySem.W.mg_of X G q_gcd
  have c_MOST_CELLS := cst_int (K := K) (PySem.W.mg_of X G q_MOST_CELLS)
  have c_ZERO := cst_pair (PySem.W.mg_of X G q_ZERO) r_ZERO rfl rfl
  refine ⟨PySem.W.fnOf "law" "law" (defArgs s_law) (defBody s_law) (defScope s_law) .none kV49 dc49 pm49 an49 cd49 ct49, [(c_at_once_by, T_at_once_by, lamQ "at_once_by"), (c_rings_by, T_rings_by, lamQ "rings_by")], γ_wholeT (ts T_at_once_by T_rings_by), nd, (List.forall_mem_cons.mpr ⟨e42, (List.forall_mem_cons.mpr ⟨e35, (fun _ h => nomatch h)⟩)⟩), (List.forall_mem_cons.mpr ⟨n42, (List.forall_mem_cons.mpr ⟨n35, (fun _ h => nomatch h)⟩)⟩), (List.forall_mem_cons.mpr ⟨PySem.W.codeHd_of_K X d42, (List.forall_mem_cons.mpr ⟨PySem.W.codeHd_of_K X d35, (fun _ h => nomatch h)⟩)⟩), fun s v => .of_eq rfl, fun ns hl R S hS h => ⟨ns, rfl, ⟨hl, by unfold Gx.Tabs; exact (List.forall_mem_cons.mpr ⟨hS (c_at_once_by, T_at_once_by, lamQ "at_once_by") List.mem_cons_self, (List.forall_mem_cons.mpr ⟨hS (c_rings_by, T_rings_by, lamQ "rings_by") (List.mem_cons_of_mem _ List.mem_cons_self), (fun _ h => nomatch h)⟩)⟩)⟩, h⟩, fun base _ _ TB => ?_⟩
  have g0 := gf__law_draw (P := l.prog) (w := w) (base := base) (k := 0) F0 B
  have g1 := gf__law_one (P := l.prog) (w := w) (base := base) (k := 1) F1 B (has_mk F0 m0 b0 g0 (by decide))
  have g2 := gf__law_wheel (P := l.prog) (w := w) (base := base) (k := 2) F2 B (has_mk F1 m1 b1 g1 (by decide))
  have g3 := gf__law_lean (P := l.prog) (w := w) (base := base) (k := 0) F3 B
  have g4 := gf__law_weight (P := l.prog) (w := w) (base := base) (k := 2) F4 B (has_mk F0 m0 b0 g0 (by decide)) (has_mk F3 m3 b3 g3 (by decide)) (has_mk F1 m1 b1 g1 (by decide))
  have g5 := gf__law_marks (P := l.prog) (w := w) (base := base) (k := 3) F5 B (has_mk F1 m1 b1 g1 (by decide)) (has_mk F0 m0 b0 g0 (by decide)) (has_mk F4 m4 b4 g4 (by decide))
  have g6 := gf__law_any_net (P := l.prog) (w := w) (base := base) (k := 4) F6 B (has_mk F4 m4 b4 g4 (by decide)) (has_mk F5 m5 b5 g5 (by decide))
  have g7 := gf__law_over (P := l.prog) (w := w) (base := base) (k := 1) F7 B (has_mk F3 m3 b3 g3 (by decide))
  have g8 := gf__law_scaled_net (P := l.prog) (w := w) (base := base) (k := 4) F8 B (has_mk F0 m0 b0 g0 (by decide)) (has_mk F1 m1 b1 g1 (by decide)) (has_mk F4 m4 b4 g4 (by decide)) (has_mk F7 m7 b7 g7 (by decide)) (has_mk F5 m5 b5 g5 (by decide))
  have g9 := gf__law_net (P := l.prog) (w := w) (base := base) (k := 5) F9 B (has_mk F0 m0 b0 g0 (by decide)) (has_mk F2 m2 b2 g2 (by decide)) (has_mk F6 m6 b6 g6 (by decide)) (has_mk F8 m8 b8 g8 (by decide))
  have g10 := gf__law_below (P := l.prog) (w := w) (base := base) (k := 0) F10 B
  have g11 := gf__law_plus (P := l.prog) (w := w) (base := base) (k := 1) F11 B (has_mk F3 m3 b3 g3 (by decide))
  have g12 := gf__law_heard (P := l.prog) (w := w) (base := base) (k := 2) F12 B (has_mk F11 m11 b11 g11 (by decide))
  have g13 := gf__law_wishes (P := l.prog) (w := w) (base := base) (k := 3) F13 B (has_mk F10 m10 b10 g10 (by decide)) (has_mk F12 m12 b12 g12 (by decide))
  have g14 := gf__law_tail (P := l.prog) (w := w) (base := base) (k := 0) F14 B
  have g15 := gf__law_all_rings (P := l.prog) (w := w) (base := base) (k := 1) F15 B (has_mk F14 m14 b14 g14 (by decide))
  have g16 := gf__law_as_state (P := l.prog) (w := w) (base := base) (k := 0) F16 B
  have g17 := gf__law_as_states (P := l.prog) (w := w) (base := base) (k := 1) F17 B (has_mk F16 m16 b16 g16 (by decide))
  have g18 := gf_is_tuple_of (P := l.prog) (w := w) (base := base) (k := 0) F18 B
  have g19 := gf_is_whole (P := l.prog) (w := w) (base := base) (k := 0) F19 B
  have g20 := gf_is_ratio (P := l.prog) (w := w) (base := base) (k := 1) F20 B (has_mk F18 m18 b18 g18 (by decide)) (has_mk F19 m19 b19 g19 (by decide)) m_gcd
  have g21 := gf_is_row (P := l.prog) (w := w) (base := base) (k := 2) F21 B (has_mk F18 m18 b18 g18 (by decide)) (has_mk F20 m20 b20 g20 (by decide))
  have g22 := gf_is_net_by (P := l.prog) (w := w) (base := base) (k := 3) F22 B (has_mk F18 m18 b18 g18 (by decide)) c_MOST_CELLS (has_mk F21 m21 b21 g21 (by decide)) c_ZERO
  have g23 := gf_check_net (P := l.prog) (w := w) (base := base) (k := 4) F23 B (has_mk F22 m22 b22 g22 (by decide))
  have g24 := gf_many_cells (P := l.prog) (w := w) (base := base) (k := 0) F24 B
  have g25 := gf_state_by (P := l.prog) (w := w) (base := base) (k := 0) F25 B
  have g26 := gf_all_states (P := l.prog) (w := w) (base := base) (k := 1) F26 B (has_mk F24 m24 b24 g24 (by decide)) (has_mk F25 m25 b25 g25 (by decide))
  have g27 := gf_number_by (P := l.prog) (w := w) (base := base) (k := 0) F27 B
  have g28 := gf_is_less (P := l.prog) (w := w) (base := base) (k := 0) F28 B
  have g29 := gf_ratio (P := l.prog) (w := w) (base := base) (k := 0) F29 B m_gcd
  have g30 := gf_plus (P := l.prog) (w := w) (base := base) (k := 1) F30 B (has_mk F29 m29 b29 g29 (by decide))
  have g31 := gf_total (P := l.prog) (w := w) (base := base) (k := 2) F31 B c_ZERO (has_mk F30 m30 b30 g30 (by decide))
  have g32 := gf_heard_by (P := l.prog) (w := w) (base := base) (k := 3) F32 B (has_mk F31 m31 b31 g31 (by decide))
  have g33 := gf_wanted_by (P := l.prog) (w := w) (base := base) (k := 4) F33 B (has_mk F24 m24 b24 g24 (by decide)) (has_mk F28 m28 b28 g28 (by decide)) (has_mk F32 m32 b32 g32 (by decide))
  have g34 := gf_run_by (P := l.prog) (w := w) (base := base) (k := 0) F34 B
  have g35 := gf_rings_by (P := l.prog) (w := w) (base := base) (k := 5) FC35 B (has_mk F26 m26 b26 g26 (by decide)) (has_mk F27 m27 b27 g27 (by decide)) (has_mk F33 m33 b33 g33 (by decide)) (hasF_mk F34 m34 b34 g34 (by decide)) (has_mk F25 m25 b25 g25 (by decide)) (has_mk F24 m24 b24 g24 (by decide)) (TB (c_rings_by, T_rings_by, lamQ "rings_by") (List.mem_cons_of_mem _ List.mem_cons_self))
  have g36 := gf_rings (P := l.prog) (w := w) (base := base) (k := 8) F36 B (has_mk F23 m23 b23 g23 (by decide)) (has_mkC FC35 m35 b35 g35 (by decide))
  have g37 := gf_is_between (P := l.prog) (w := w) (base := base) (k := 1) F37 B (has_mk F19 m19 b19 g19 (by decide))
  have g38 := gf_is_state_by (P := l.prog) (w := w) (base := base) (k := 2) F38 B (has_mk F18 m18 b18 g18 (by decide)) (has_mk F24 m24 b24 g24 (by decide)) (has_mk F37 m37 b37 g37 (by decide))
  have g39 := gf_check_state (P := l.prog) (w := w) (base := base) (k := 3) F39 B (has_mk F38 m38 b38 g38 (by decide))
  have g40 := gf_check_both (P := l.prog) (w := w) (base := base) (k := 5) F40 B (has_mk F23 m23 b23 g23 (by decide)) (has_mk F39 m39 b39 g39 (by decide))
  have g41 := gf_wanted (P := l.prog) (w := w) (base := base) (k := 6) F41 B (has_mk F40 m40 b40 g40 (by decide)) (has_mk F33 m33 b33 g33 (by decide))
  have g42 := gf_at_once_by (P := l.prog) (w := w) (base := base) (k := 5) FC42 B (hasF_mk F34 m34 b34 g34 (by decide)) (has_mk F33 m33 b33 g33 (by decide)) (TB (c_at_once_by, T_at_once_by, lamQ "at_once_by") List.mem_cons_self)
  have g43 := gf_run (P := l.prog) (w := w) (base := base) (k := 8) F43 B (has_mk F40 m40 b40 g40 (by decide)) (has_mkC FC42 m42 b42 g42 (by decide))
  have g44 := gf__law_are_states_right (P := l.prog) (w := w) (base := base) (k := 9) F44 B (has_mk F0 m0 b0 g0 (by decide)) (has_mk F16 m16 b16 g16 (by decide)) (has_mk F14 m14 b14 g14 (by decide)) (has_mk F17 m17 b17 g17 (by decide)) (has_mk F41 m41 b41 g41 (by decide)) (has_mk F43 m43 b43 g43 (by decide)) kb_wanted_0 kb_run_0
  have g45 := gf_swings_by (P := l.prog) (w := w) (base := base) (k := 8) F45 B (has_mkC FC35 m35 b35 g35 (by decide))
  have g46 := gf_swings (P := l.prog) (w := w) (base := base) (k := 9) F46 B (has_mk F23 m23 b23 g23 (by decide)) (has_mk F45 m45 b45 g45 (by decide))
  have g47 := gf__law_right (P := l.prog) (w := w) (base := base) (k := 10) F47 B (has_mk F9 m9 b9 g9 (by decide)) (has_mk F1 m1 b1 g1 (by decide)) (has_mk F13 m13 b13 g13 (by decide)) (has_mk F15 m15 b15 g15 (by decide)) (has_mk F17 m17 b17 g17 (by decide)) (has_mk F36 m36 b36 g36 (by decide)) (has_mk F44 m44 b44 g44 (by decide)) (has_mk F46 m46 b46 g46 (by decide)) kb_rings_0 kb_swings_0
  have g48 := gf__law_well (P := l.prog) (w := w) (base := base) (k := 0) F48 B
  have g49 := gf_law (P := l.prog) (w := w) (base := base) (k := 11) F49 B (has_mk F47 m47 b47 g47 (by decide)) (has_mk F48 m48 b48 g48 (by decide))
  exact g49
end K11
open PySem PySem.W PyProof.Rows
set_option maxRecDepth 100000 in
set_option maxHeartbeats 0 in
theorem PySem.Challenge.cw_heedlore_k11_runs_rings_and_swings_holds : PySem.Challenge.rw_heedlore_k11_runs_rings_and_swings.Holds := by
  w_on; o_law; k_head; (case hw => w_witness2)
  k_fill
  refine Gx.gx_walkT (l := PySem.Challenge.rw_heedlore_k11_runs_rings_and_swings) (n := 63) (k := 12) (x := "script") rfl (by decide) rfl ⟨rfl, by decide, by decide⟩ (fun w h Y => PySem.W.km_in_of Y) ?F
  case F =>
    intro w mg fa h Y KX G hmg
    have hT8 := PySem.W.km_tabs_of Y
    refine' K11.all_mk KX G hmg ?a0 ?l0 ?c0 ?k0 ?a1 ?l1 ?c1 ?k1 ?a2 ?l2 ?c2 ?k2 ?a3 ?l3 ?c3 ?k3 ?a4 ?l4 ?c4 ?k4 ?a5 ?l5 ?c5 ?k5 ?a6 ?l6 ?c6 ?k6 ?a7 ?l7 ?c7 ?k7 ?a8 ?l8 ?c8 ?k8 ?a9 ?l9 ?c9 ?k9 ?a10 ?l10 ?c10 ?k10 ?a11 ?l11 ?c11 ?k11 ?a12 ?l12 ?c12 ?k12 ?a13 ?l13 ?c13 ?k13 ?a14 ?l14 ?c14 ?k14 ?a15 ?l15 ?c15 ?k15 ?a16 ?l16 ?c16 ?k16 ?a17 ?l17 ?c17 ?k17 ?a18 ?l18 ?c18 ?k18 ?a19 ?l19 ?c19 ?k19 ?a20 ?l20 ?c20 ?k20 ?a21 ?l21 ?c21 ?k21 ?a22 ?l22 ?c22 ?k22 ?a23 ?l23 ?c23 ?k23 ?a24 ?l24 ?c24 ?k24 ?a25 ?l25 ?c25 ?k25 ?a26 ?l26 ?c26 ?k26 ?a27 ?l27 ?c27 ?k27 ?a28 ?l28 ?c28 ?k28 ?a29 ?l29 ?c29 ?k29 ?a30 ?l30 ?c30 ?k30 ?a31 ?l31 ?c31 ?k31 ?a32 ?l32 ?c32 ?k32 ?a33 ?l33 ?c33 ?k33 ?a34 ?l34 ?c34 ?k34 ?a35 ?l35 ?c35 ?k35 ?t35 ?y35 ?d35 ?n35 ?e35 ?a36 ?l36 ?c36 ?k36 ?a37 ?l37 ?c37 ?k37 ?a38 ?l38 ?c38 ?k38 ?a39 ?l39 ?c39 ?k39 ?a40 ?l40 ?c40 ?k40 ?a41 ?l41 ?c41 ?k41 ?a42 ?l42 ?c42 ?k42 ?t42 ?y42 ?d42 ?n42 ?e42 ?a43 ?l43 ?c43 ?k43 ?a44 ?l44 ?c44 ?k44 ?a45 ?l45 ?c45 ?k45 ?a46 ?l46 ?c46 ?k46 ?a47 ?l47 ?c47 ?k47 ?a48 ?l48 ?c48 ?k48 ?a49 ?l49 ?c49 ?k49 ?z_abs ?z_all ?z_any ?z_bool ?z_dict ?z_divmod ?z_enumerate ?z_int ?z_isinstance ?z_len ?z_list ?z_max ?z_min ?z_range ?z_repr ?z_set ?z_sorted ?z_str ?z_sum ?z_tuple ?z_zip ?q_gcd ?q_MOST_CELLS ?q_ZERO ?r_ZERO ?nd
    (case a0 => k_is)
    (case l0 => k_is)
    (case c0 => k_is)
    (case k0 => k_is)
    (case a1 => k_is)
    (case l1 => k_is)
    (case c1 => k_is)
    (case k1 => k_is)
    (case a2 => k_is)
    (case l2 => k_is)
    (case c2 => k_is)
    (case k2 => k_is)
    (case a3 => k_is)
    (case l3 => k_is)
    (case c3 => k_is)
    (case k3 => k_is)
    (case a4 => k_is)
    (case l4 => k_is)
    (case c4 => k_is)
    (case k4 => k_is)
    (case a5 => k_is)
    (case l5 => k_is)
    (case c5 => k_is)
    (case k5 => k_is)
    (case a6 => k_is)
    (case l6 => k_is)
    (case c6 => k_is)
    (case k6 => k_is)
    (case a7 => k_is)
    (case l7 => k_is)
    (case c7 => k_is)
    (case k7 => k_is)
    (case a8 => k_is)
    (case l8 => k_is)
    (case c8 => k_is)
    (case k8 => k_is)
    (case a9 => k_is)
    (case l9 => k_is)
    (case c9 => k_is)
    (case k9 => k_is)
    (case a10 => k_is)
    (case l10 => k_is)
    (case c10 => k_is)
    (case k10 => k_is)
    (case a11 => k_is)
    (case l11 => k_is)
    (case c11 => k_is)
    (case k11 => k_is)
    (case a12 => k_is)
    (case l12 => k_is)
    (case c12 => k_is)
    (case k12 => k_is)
    (case a13 => k_is)
    (case l13 => k_is)
    (case c13 => k_is)
    (case k13 => k_is)
    (case a14 => k_is)
    (case l14 => k_is)
    (case c14 => k_is)
    (case k14 => k_is)
    (case a15 => k_is)
    (case l15 => k_is)
    (case c15 => k_is)
    (case k15 => k_is)
    (case a16 => k_is)
    (case l16 => k_is)
    (case c16 => k_is)
    (case k16 => k_is)
    (case a17 => k_is)
    (case l17 => k_is)
    (case c17 => k_is)
    (case k17 => k_is)
    (case a18 => k_is)
    (case l18 => k_is)
    (case c18 => k_is)
    (case k18 => k_is)
    (case a19 => k_is)
    (case l19 => k_is)
    (case c19 => k_is)
    (case k19 => k_is)
    (case a20 => k_is)
    (case l20 => k_is)
    (case c20 => k_is)
    (case k20 => k_is)
    (case a21 => k_is)
    (case l21 => k_is)
    (case c21 => k_is)
    (case k21 => k_is)
    (case a22 => k_is)
    (case l22 => k_is)
    (case c22 => k_is)
    (case k22 => k_is)
    (case a23 => k_is)
    (case l23 => k_is)
    (case c23 => k_is)
    (case k23 => k_is)
    (case a24 => k_is)
    (case l24 => k_is)
    (case c24 => k_is)
    (case k24 => k_is)
    (case a25 => k_is)
    (case l25 => k_is)
    (case c25 => k_is)
    (case k25 => k_is)
    (case a26 => k_is)
    (case l26 => k_is)
    (case c26 => k_is)
    (case k26 => k_is)
    (case a27 => k_is)
    (case l27 => k_is)
    (case c27 => k_is)
    (case k27 => k_is)
    (case a28 => k_is)
    (case l28 => k_is)
    (case c28 => k_is)
    (case k28 => k_is)
    (case a29 => k_is)
    (case l29 => k_is)
    (case c29 => k_is)
    (case k29 => k_is)
    (case a30 => k_is)
    (case l30 => k_is)
    (case c30 => k_is)
    (case k30 => k_is)
    (case a31 => k_is)
    (case l31 => k_is)
    (case c31 => k_is)
    (case k31 => k_is)
    (case a32 => k_is)
    (case l32 => k_is)
    (case c32 => k_is)
    (case k32 => k_is)
    (case a33 => k_is)
    (case l33 => k_is)
    (case c33 => k_is)
    (case k33 => k_is)
    (case a34 => k_is)
    (case l34 => k_is)
    (case c34 => k_is)
    (case k34 => k_is)
    (case a35 => k_is)
    (case l35 => k_is)
    (case c35 => k_is)
    (case k35 => k_is)
    (case t35 => k_is)
    (case y35 => first | rfl | with_unfolding_all rfl | kernel_rfl)
    (case d35 => first | kernel_rfl | k_is)
    (case n35 => first | kernel_rfl | rfl | decide +kernel)
    (case e35 => exact hT8 _ (by first | decide | k_mem))
    (case a36 => k_is)
    (case l36 => k_is)
    (case c36 => k_is)
    (case k36 => k_is)
    (case a37 => k_is)
    (case l37 => k_is)
    (case c37 => k_is)
    (case k37 => k_is)
    (case a38 => k_is)
    (case l38 => k_is)
    (case c38 => k_is)
    (case k38 => k_is)
    (case a39 => k_is)
    (case l39 => k_is)
    (case c39 => k_is)
    (case k39 => k_is)
    (case a40 => k_is)
    (case l40 => k_is)
    (case c40 => k_is)
    (case k40 => k_is)
    (case a41 => k_is)
    (case l41 => k_is)
    (case c41 => k_is)
    (case k41 => k_is)
    (case a42 => k_is)
    (case l42 => k_is)
    (case c42 => k_is)
    (case k42 => k_is)
    (case t42 => k_is)
    (case y42 => first | rfl | with_unfolding_all rfl | kernel_rfl)
    (case d42 => first | kernel_rfl | k_is)
    (case n42 => first | kernel_rfl | rfl | decide +kernel)
    (case e42 => exact hT8 _ (by first | decide | k_mem))
    (case a43 => k_is)
    (case l43 => k_is)
    (case c43 => k_is)
    (case k43 => k_is)
    (case a44 => k_is)
    (case l44 => k_is)
    (case c44 => k_is)
    (case k44 => k_is)
    (case a45 => k_is)
    (case l45 => k_is)
    (case c45 => k_is)
    (case k45 => k_is)
    (case a46 => k_is)
    (case l46 => k_is)
    (case c46 => k_is)
    (case k46 => k_is)
    (case a47 => k_is)
    (case l47 => k_is)
    (case c47 => k_is)
    (case k47 => k_is)
    (case a48 => k_is)
    (case l48 => k_is)
    (case c48 => k_is)
    (case k48 => k_is)
    (case a49 => k_is)
    (case l49 => k_is)
    (case c49 => k_is)
    (case k49 => k_is)
    (case z_abs => k_is)
    (case z_all => k_is)
    (case z_any => k_is)
    (case z_bool => k_is)
    (case z_dict => k_is)
    (case z_divmod => k_is)
    (case z_enumerate => k_is)
    (case z_int => k_is)
    (case z_isinstance => k_is)
    (case z_len => k_is)
    (case z_list => k_is)
    (case z_max => k_is)
    (case z_min => k_is)
    (case z_range => k_is)
    (case z_repr => k_is)
    (case z_set => k_is)
    (case z_sorted => k_is)
    (case z_str => k_is)
    (case z_sum => k_is)
    (case z_tuple => k_is)
    (case z_zip => k_is)
    (case q_gcd => k_is)
    (case q_MOST_CELLS => k_is)
    (case q_ZERO => k_is)
    (case r_ZERO => k_is)
    (case nd => decide)


