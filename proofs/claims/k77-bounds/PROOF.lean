import PyProof.Rows.All
import Wide.All
import OpenK.AllK
import Wide.FinOn
import HandS.ForMost
import HandS.ForExc
import HandS.IsInst
import HandS.TupAny
import HandS.Conv
import HandS.Style
import HandS.SetFor
import HandS.CallSlots
import HandS.ExcIs
import KE.GoesEnum
import HandS.Strs
import HandS.Zip
import HandS.More
import HandS.SortInts
import HandS.Ends
import PySem.Challenge.RW_unhurried_k77_whole_bounds_of_edges
set_option Elab.async false
set_option linter.all false
set_option maxRecDepth 100000
set_option maxHeartbeats 4000000
/-! A data layer over HandS: tuples are values, only what may change has an address. -/
namespace DL
open PySem PySem.Spec PyProof.Rows L2

inductive D where
  | non | bl (b : Bool) | int (i : Int) | str (x : Str) | tup (xs : List D) | loc (a : Addr) | ty (n : String) | opq (v : V) | lsv (xs : List D)
inductive DO where
  | lst (xs : List D) | dK (kvs : List (Key × D)) | dT (kvs : List (List Key × D)) | set (S : Int → Bool) (n : Nat) | ins (C dx : Addr) (fs : List (Str × D))
abbrev DH := Addr → Option DO
def updD (h : DH) (a : Addr) (o : DO) : DH := fun b => if b = a then some o else h b
@[simp] theorem updD_same {h : DH} {a : Addr} {o : DO} : updD h a o a = some o := by unfold updD; rw [if_pos rfl]
theorem updD_ne {h : DH} {a b : Addr} {o : DO} (e : b ≠ a) : updD h a o b = h b := by unfold updD; rw [if_neg e]
@[simp] theorem updD_updD {h : DH} {a : Addr} {o u : DO} : updD (updD h a o) a u = updD h a u := by
  funext b; unfold updD; split <;> rfl
theorem updD_comm {h : DH} {a b : Addr} {o u : DO} (e : a ≠ b) : updD (updD h a o) b u = updD (updD h b u) a o := by
  funext c; unfold updD
  by_cases h1 : c = b
  · subst h1
    by_cases h2 : c = a
    · exact absurd h2.symm e
    · simp [h2]
  · simp [h1]

/-- a list that nobody changes (the script) -/
def Frz (K : PySem.W.Frag) (H : Hp) (a : Addr) (xs : List V) : Prop := (∃ o, H a = some (.frz o (.lst xs))) ∨
  ∃ (o : Obj) (its : Array Value) (n : Nat), K.lookup a = some o ∧ o.cls = .type "list" ∧ o.dict = none ∧ o.data = .seq its n ∧ its.size ≤ sizeLine ∧ Vals xs its.toList
theorem Frz.sq {K : PySem.W.Frag} {H : Hp} {a : Addr} {xs : List V} (f : Frz K H a xs) : SqL K H a xs := f.elim (fun ⟨o, e⟩ => .inl (.inr ⟨o, e⟩)) .inr
theorem frz_of {K : PySem.W.Frag} {H : Hp} {a : Addr} {xs : List V} (o : Only H) (s : SqL K H a xs) : Frz K H a xs := by
  rcases s with (s | s) | s
  · rcases o a with z | ⟨ob, ys, z⟩ <;> rw [z] at s <;> cases s
  · exact .inl s
  · exact .inr s
mutual
inductive Rep (K : PySem.W.Frag) (H : Hp) : V → D → Prop
  | non : Rep K H .non .non
  | bl (b : Bool) : Rep K H (.bl b) (.bl b)
  | int (i : Int) : Rep K H (.int i) (.int i)
  | str (x : Str) : Rep K H (.str x) (.str x)
  | tup {a : Addr} {vs : List V} {ds : List D} : H a = some (.tup vs) → Reps K H vs ds → Rep K H (.ref a) (.tup ds)
  | loc (a : Addr) : Rep K H (.ref a) (.loc a)
  | ty (n : String) : Rep K H (.ty n) (.ty n)
  | opq (v : V) : Rep K H v (.opq v)
  | lsv {a : Addr} {vs : List V} {ds : List D} : Frz K H a vs → Reps K H vs ds → Rep K H (.ref a) (.lsv ds)
inductive Reps (K : PySem.W.Frag) (H : Hp) : List V → List D → Prop
  | nil : Reps K H [] []
  | cons {v : V} {vs : List V} {d : D} {ds : List D} : Rep K H v d → Reps K H vs ds → Reps K H (v :: vs) (d :: ds)
end
structure Tle (K : PySem.W.Frag) (H H1 : Hp) : Prop where
  tup : ∀ a vs, H a = some (HO.tup vs) → H1 a = some (HO.tup vs)
  frz : ∀ a o u, H a = some (HO.frz o u) → H1 a = some (HO.frz o u)
theorem Frz.mono {K : PySem.W.Frag} {H H1 : Hp} {a : Addr} {xs : List V} (t : Tle K H H1) (f : Frz K H a xs) : Frz K H1 a xs := f.elim (fun ⟨o, e⟩ => .inl ⟨o, t.frz _ _ _ e⟩) .inr
section
variable {K : PySem.W.Frag} {H H1 H2 : Hp} {v w : V} {d e : D} {vs ws : List V} {ds es : List D}
mutual
theorem Rep.mono (t : Tle K H H1) : ∀ {v : V} {d : D}, Rep K H v d → Rep K H1 v d
  | _, _, .non => .non
  | _, _, .bl b => .bl b
  | _, _, .int i => .int i
  | _, _, .str x => .str x
  | _, _, .tup h r => .tup (t.tup _ _ h) (Reps.mono t r)
  | _, _, .lsv h r => .lsv (h.mono t) (Reps.mono t r)
  | _, _, .loc a => .loc a
  | _, _, .ty n => .ty n
  | _, _, .opq v => .opq v
theorem Reps.mono (t : Tle K H H1) : ∀ {vs : List V} {ds : List D}, Reps K H vs ds → Reps K H1 vs ds
  | _, _, .nil => .nil
  | _, _, .cons r rs => .cons (Rep.mono t r) (Reps.mono t rs)
end
theorem Reps.length : ∀ {vs : List V} {ds : List D}, Reps K H vs ds → vs.length = ds.length
  | _, _, .nil => rfl
  | _, _, .cons _ t => congrArg (· + 1) (Reps.length t)
theorem Reps.get : ∀ {vs : List V} {ds : List D} {i : Nat} {d : D}, Reps K H vs ds → ds[i]? = some d → ∃ v, vs[i]? = some v ∧ Rep K H v d
  | _, _, _, _, .nil, e => by simp at e
  | _, _, 0, _, .cons r _, e => by simp at e; subst e; exact ⟨_, rfl, r⟩
  | _, _, i + 1, _, .cons _ t, e => by
    obtain ⟨u, h1, h2⟩ := Reps.get (i := i) t (by simpa using e)
    exact ⟨u, by simpa using h1, h2⟩
theorem Reps.get' : ∀ {vs : List V} {ds : List D} {i : Nat} {v : V}, Reps K H vs ds → vs[i]? = some v → ∃ d, ds[i]? = some d ∧ Rep K H v d
  | _, _, _, _, .nil, e => by simp at e
  | _, _, 0, _, .cons r _, e => by simp at e; subst e; exact ⟨_, rfl, r⟩
  | _, _, i + 1, _, .cons _ t, e => by
    obtain ⟨u, h1, h2⟩ := Reps.get' (i := i) t (by simpa using e)
    exact ⟨u, by simpa using h1, h2⟩
theorem Reps.append : ∀ {vs ws : List V} {ds es : List D}, Reps K H vs ds → Reps K H ws es → Reps K H (vs ++ ws) (ds ++ es)
  | _, _, _, _, .nil, s => s
  | _, _, _, _, .cons r t, s => .cons r (Reps.append t s)
theorem Reps.take : ∀ {vs : List V} {ds : List D} (n : Nat), Reps K H vs ds → Reps K H (vs.take n) (ds.take n)
  | _, _, 0, _ => .nil
  | _, _, _ + 1, .nil => .nil
  | _, _, n + 1, .cons r t => .cons r (Reps.take n t)
theorem Reps.drop : ∀ {vs : List V} {ds : List D} (n : Nat), Reps K H vs ds → Reps K H (vs.drop n) (ds.drop n)
  | _, _, 0, r => r
  | _, _, _ + 1, .nil => .nil
  | _, _, n + 1, .cons _ t => Reps.drop n t
theorem Reps.set (r : Rep K H v d) : ∀ {vs : List V} {ds : List D} (i : Nat), Reps K H vs ds → Reps K H (vs.set i v) (ds.set i d)
  | _, _, _, .nil => .nil
  | _, _, 0, .cons _ t => .cons r t
  | _, _, i + 1, .cons q t => .cons q (Reps.set r i t)
theorem Reps.reverse {vs : List V} {ds : List D} (r : Reps K H vs ds) : Reps K H vs.reverse ds.reverse := by
  induction vs generalizing ds with
  | nil => cases r; exact .nil
  | cons v vs ih =>
    cases r with
    | cons a b =>
      rw [List.reverse_cons, List.reverse_cons]
      exact (ih b).append (.cons a .nil)
theorem Reps.eraseIdx : ∀ {vs : List V} {ds : List D} (i : Nat), Reps K H vs ds → Reps K H (vs.eraseIdx i) (ds.eraseIdx i)
  | _, _, _, .nil => .nil
  | _, _, 0, .cons _ t => t
  | _, _, i + 1, .cons q t => .cons q (Reps.eraseIdx i t)
theorem Reps.dropLast {vs : List V} {ds : List D} (r : Reps K H vs ds) : Reps K H vs.dropLast ds.dropLast := by
  rw [List.dropLast_eq_take, List.dropLast_eq_take, r.length]
  exact r.take _
theorem Reps.rep {n : Nat} (r : Reps K H vs ds) : Reps K H (List.replicate n vs).flatten (List.replicate n ds).flatten := by
  induction n with
  | zero => exact .nil
  | succ n ih =>
    rw [List.replicate_succ, List.replicate_succ, List.flatten_cons, List.flatten_cons]
    exact r.append ih
theorem Reps.isEmpty (r : Reps K H vs ds) : vs.isEmpty = ds.isEmpty := by
  cases r <;> rfl
theorem Rep.int_inv (r : Rep K H v (.int i)) : v = .int i := by cases r; rfl
theorem Rep.bl_inv (r : Rep K H v (.bl i)) : v = .bl i := by cases r; rfl
theorem Rep.str_inv (r : Rep K H v (.str i)) : v = .str i := by cases r; rfl
theorem Rep.non_inv (r : Rep K H v .non) : v = .non := by cases r; rfl
theorem Rep.loc_inv (r : Rep K H v (.loc a)) : v = .ref a := by cases r; rfl
theorem Rep.opq_inv (r : Rep K H v (.opq w)) : v = w := by cases r; rfl
theorem Rep.tup_inv (r : Rep K H v (.tup ds)) : ∃ a vs, v = .ref a ∧ H a = some (.tup vs) ∧ Reps K H vs ds := by
  cases r with
  | tup h r => exact ⟨_, _, rfl, h, r⟩
theorem reps_ints : ∀ ns : List Int, Reps K H (ns.map V.int) (ns.map D.int)
  | [] => .nil
  | n :: r => .cons (.int n) (reps_ints r)
theorem reps_ints_inv : ∀ {ns : List Int} {vs : List V}, Reps K H vs (ns.map D.int) → vs = ns.map V.int
  | [], _, .nil => rfl
  | n :: r, _, .cons a b => by rw [a.int_inv, reps_ints_inv b]; rfl
theorem reps_bls_inv : ∀ {ns : List Bool} {vs : List V}, Reps K H vs (ns.map D.bl) → vs = ns.map V.bl
  | [], _, .nil => rfl
  | n :: r, _, .cons a b => by rw [a.bl_inv, reps_bls_inv b]; rfl
end

def RepKV {κ : Type} (K : PySem.W.Frag) (H : Hp) : List (κ × V) → List (κ × D) → Prop := Paired fun p q => p.1 = q.1 ∧ Rep K H p.2 q.2
theorem RepKV.mono {κ : Type} {K : PySem.W.Frag} {H H1 : Hp} (t : Tle K H H1) {a : List (κ × V)} {b : List (κ × D)} (r : RepKV K H a b) : RepKV K H1 a b := L2.Paired.mapP r fun _ _ z => ⟨z.1, z.2.mono t⟩
def RepO (K : PySem.W.Frag) (H : Hp) : HO → DO → Prop
  | .lst vs, .lst ds => Reps K H vs ds
  | .dK kvs, .dK kds => RepKV K H kvs kds
  | .dT kvs, .dT kds => RepKV K H kvs kds
  | .set S n, .set S' n' => S = S' ∧ n = n'
  | .ins C dx fs, .ins C' dx' gs => C = C' ∧ dx = dx' ∧ RepKV K H fs gs
  | _, _ => False
theorem RepO.mono {K : PySem.W.Frag} {H H1 : Hp} (t : Tle K H H1) {o : HO} {u : DO} (r : RepO K H o u) : RepO K H1 o u := by
  cases o <;> cases u <;> first | exact Reps.mono t r | exact RepKV.mono t r | exact ⟨r.1, r.2.1, RepKV.mono t r.2.2⟩ | exact r
/-- what changes (no tuple, nothing frozen) -/
def Chg (o : HO) : Prop := (∀ xs, o ≠ .tup xs) ∧ ∀ ob z, o ≠ .frz ob z
theorem chg_lst {xs : List V} : Chg (.lst xs) := ⟨(fun _ z => nomatch z), (fun _ _ z => nomatch z)⟩
theorem chg_dK {xs : List (Key × V)} : Chg (.dK xs) := ⟨(fun _ z => nomatch z), (fun _ _ z => nomatch z)⟩
theorem chg_dT {xs : List (List Key × V)} : Chg (.dT xs) := ⟨(fun _ z => nomatch z), (fun _ _ z => nomatch z)⟩
theorem RepO.notup {K : PySem.W.Frag} {H : Hp} {o : HO} {u : DO} (r : RepO K H o u) : Chg o := by
  cases o <;> cases u <;> first | exact r.elim | exact ⟨(fun _ z => nomatch z), (fun _ _ z => nomatch z)⟩
def RHp (K : PySem.W.Frag) (H : Hp) (h : DH) : Prop := ∀ a u, h a = some u → ∃ o, H a = some o ∧ RepO K H o u
abbrev DSt := List (Option D)
structure RSt (K : PySem.W.Frag) (H : Hp) (s : DSt) (σ : L2.St) : Prop where
  len : s.length = σ.length
  at_ : ∀ (i : Nat) (d : D), s[i]? = some (some d) → ∃ v, σ[i]? = some (some v) ∧ Rep K H v d
structure Go (K : PySem.W.Frag) (H : Hp) (h : DH) (H1 : Hp) (h1 : DH) : Prop where
  tle : Tle K H H1
  dom : ∀ a, H a ≠ none → H1 a ≠ none
  hid : ∀ a, h a = none → H a ≠ none → h1 a = none
  kept : ∀ a o, h a = none → H a = some o → H1 a = some o
  rep : RHp K H1 h1
section
variable {K : PySem.W.Frag} {H H1 H2 : Hp} {h h1 h2 : DH} {s : DSt} {σ : L2.St} {p : Addr} {o : HO} {u : DO}
theorem RHp.fresh (r : RHp K H h) (e : H p = none) : h p = none := by
  cases q : h p with
  | none => rfl
  | some u =>
    obtain ⟨o, z, _⟩ := r p u q
    rw [e] at z; cases z
theorem Go.refl (r : RHp K H h) : Go K H h H h := ⟨⟨fun _ _ z => z, fun _ _ _ z => z⟩, fun _ z => z, fun _ z _ => z, fun _ _ _ z => z, r⟩
theorem Go.trans (a : Go K H h H1 h1) (b : Go K H1 h1 H2 h2) : Go K H h H2 h2 :=
  ⟨⟨fun x y z => b.tle.tup x y (a.tle.tup x y z), fun x o y z => b.tle.frz x o y (a.tle.frz x o y z)⟩, fun x z => b.dom x (a.dom x z), fun x z y => b.hid x (a.hid x z y) (a.dom x y), fun x o z y => b.kept x o (a.hid x z (by rw [y]; exact fun w => nomatch w)) (a.kept x o z y), b.rep⟩
theorem tle_new (e : H p = none) : Tle K H (upd H p o) := ⟨fun a vs q => by rw [upd_ne (ne_of_none q e)]; exact q, fun a ob u q => by rw [upd_ne (ne_of_none q e)]; exact q⟩
theorem tle_put {o1 : HO} (e : H p = some o1) (n : Chg o1) : Tle K H (upd H p o) := ⟨fun a vs q => by
  rw [upd_ne (show a ≠ p from fun z => by subst z; rw [e] at q; exact n.1 _ (Option.some.inj q))]; exact q, fun a ob u q => by
  rw [upd_ne (show a ≠ p from fun z => by subst z; rw [e] at q; exact n.2 _ _ (Option.some.inj q))]; exact q⟩
theorem Tle.trans (a : Tle K H H1) (b : Tle K H1 H2) : Tle K H H2 := ⟨fun x y z => b.tup x y (a.tup x y z), fun x o y z => b.frz x o y (a.frz x o y z)⟩
theorem dom_upd : ∀ a, H a ≠ none → upd H p o a ≠ none := fun a q => by
  unfold upd; split
  · exact fun z => by cases z
  · exact q
theorem RHp.put (r : RHp K H h) (t : Tle K H (upd H p o)) (n : RepO K (upd H p o) o u) : RHp K (upd H p o) (updD h p u) := fun a w e => by
  by_cases q : a = p
  · subst q
    rw [updD_same] at e; cases e
    exact ⟨o, upd_same, n⟩
  · rw [updD_ne q] at e
    obtain ⟨o', z, y⟩ := r a w e
    exact ⟨o', by rw [upd_ne q]; exact z, y.mono t⟩
theorem RHp.tmp (r : RHp K H h) (e : H p = none) : RHp K (upd H p o) h := fun a w q => by
  obtain ⟨o', z, y⟩ := r a w q
  exact ⟨o', by rw [upd_ne (ne_of_none z e)]; exact z, y.mono (tle_new e)⟩
theorem Go.new (r : RHp K H h) (e : H p = none) (n : RepO K (upd H p o) o u) : Go K H h (upd H p o) (updD h p u) :=
  ⟨tle_new e, dom_upd, fun a z y => by rw [updD_ne (show a ≠ p from fun q => by subst q; exact y e)]; exact z, fun a o z y => by rw [upd_ne (ne_of_none y e)]; exact y, r.put (tle_new e) n⟩
theorem Go.tmp (r : RHp K H h) (e : H p = none) : Go K H h (upd H p o) h := ⟨tle_new e, dom_upd, fun _ z _ => z, fun a o z y => by rw [upd_ne (ne_of_none y e)]; exact y, r.tmp e⟩
theorem Go.put {w : DO} (r : RHp K H h) (e : h p = some w) (n : RepO K (upd H p o) o u) : Go K H h (upd H p o) (updD h p u) := by
  obtain ⟨o1, z, y⟩ := r p w e
  have t : Tle K H (upd H p o) := tle_put z y.notup
  exact ⟨t, dom_upd, fun a q _ => by rw [updD_ne (show a ≠ p from fun x => by subst x; rw [e] at q; cases q)]; exact q, fun a o q y => by rw [upd_ne (show a ≠ p from fun x => by subst x; rw [e] at q; cases q)]; exact y, r.put t n⟩
def Sub (h h1 : DH) : Prop := ∀ a u, h a = some u → h1 a = some u
theorem Sub.refl : Sub h h := fun _ _ z => z
theorem Sub.trans (a : Sub h h1) (b : Sub h1 h2) : Sub h h2 := fun x y z => b x y (a x y z)
theorem Sub.new (e : h p = none) : Sub h (updD h p u) := fun a w q => by
  rw [updD_ne (show a ≠ p from fun z => by subst z; rw [e] at q; cases q)]
  exact q
theorem Sub.upd (t : Sub h h1) : Sub (updD h p u) (updD h1 p u) := fun a w q => by
  by_cases z : a = p
  · subst z; rw [updD_same] at q ⊢; exact q
  · rw [updD_ne z] at q ⊢; exact t a w q
theorem Sub.none (t : Sub h h1) (e : h1 p = Option.none) : h p = Option.none := by
  cases q : h p with
  | none => rfl
  | some u => rw [t _ _ q] at e; cases e
theorem Go.sub (g : Go K H h H1 h1) (t : Sub h2 h1) : Go K H h H1 h2 :=
  ⟨g.tle, g.dom, fun a z y => t.none (g.hid a z y), g.kept, fun a w q => g.rep a w (t a w q)⟩
/-- an object that was not there and is not shown is written | shown -/
theorem Go.wr {xs ys : List V} (g : Go K H h H1 h1) (e : H p = none) (e1 : h1 p = none) (z : H1 p = some (.lst xs)) : Go K H h (upd H1 p (.lst ys)) h1 := by
  have t : Tle K H1 (upd H1 p (.lst ys)) := tle_put z chg_lst
  refine ⟨g.tle.trans t, fun a q => dom_upd a (g.dom a q), g.hid, fun a o q y => ?_, fun a w q => ?_⟩
  · rw [upd_ne (ne_of_none y e)]; exact g.kept a o q y
  · obtain ⟨o', y, r⟩ := g.rep a w q
    exact ⟨o', by rw [upd_ne (show a ≠ p from fun x => by subst x; rw [e1] at q; cases q)]; exact y, r.mono t⟩
theorem Go.show (g : Go K H h H1 h1) (e : H p = none) (z : H1 p = some o) (r : RepO K H1 o u) : Go K H h H1 (updD h1 p u) :=
  ⟨g.tle, g.dom, fun a q y => by rw [updD_ne (show a ≠ p from fun x => by subst x; exact y e)]; exact g.hid a q y, g.kept, fun a w q => by
    by_cases x : a = p
    · subst x; rw [updD_same] at q; cases q; exact ⟨o, z, r⟩
    · rw [updD_ne x] at q; exact g.rep a w q⟩
theorem RSt.mono (t : Tle K H H1) (r : RSt K H s σ) : RSt K H1 s σ := ⟨r.len, fun i d e => let ⟨v, a, b⟩ := r.at_ i d e; ⟨v, a, b.mono t⟩⟩
theorem RSt.set {v : V} {d : D} (r : RSt K H s σ) (q : Rep K H v d) (i : Nat) : RSt K H (s.set i (some d)) (σ.set i (some v)) := by
  refine ⟨by rw [List.length_set, List.length_set]; exact r.len, fun j e z => ?_⟩
  rw [List.getElem?_set] at z ⊢
  by_cases hj : i = j
  · subst hj
    rw [if_pos rfl] at z ⊢
    rw [r.len] at z
    split at z
    · rename_i hl
      rw [if_pos hl]
      cases z
      exact ⟨v, rfl, q⟩
    · cases z
  · rw [if_neg hj] at z ⊢
    exact r.at_ j e z
theorem RSt.none (r : RSt K H s σ) (i : Nat) : RSt K H (s.set i none) (σ.set i none) := by
  refine ⟨by rw [List.length_set, List.length_set]; exact r.len, fun j e z => ?_⟩
  rw [List.getElem?_set] at z ⊢
  by_cases hj : i = j
  · subst hj
    rw [if_pos rfl] at z
    split at z <;> cases z
  · rw [if_neg hj] at z ⊢
    exact r.at_ j e z
def wipeD (s : DSt) : List Nat → DSt
  | [] => s
  | v :: vs => (wipeD s vs).set v none
theorem RSt.wipe (r : RSt K H s σ) : ∀ vs : List Nat, RSt K H (wipeD s vs) (L2.wipe σ vs)
  | [] => r
  | v :: vs => (r.wipe vs).none v
/-- the state s, h stands for σ, H; B, b: where the def began -/
structure At (K : PySem.W.Frag) (B : Hp) (b : DH) (s : DSt) (h : DH) (σ : L2.St) (H : Hp) : Prop where
  st : RSt K H s σ
  go : Go K B b H h
theorem At.rep {B : Hp} {b : DH} (a : At K B b s h σ H) : RHp K H h := a.go.rep
theorem At.step {B : Hp} {b : DH} (a : At K B b s h σ H) (g : Go K H h H1 h1) : At K B b s h1 σ H1 := ⟨a.st.mono g.tle, a.go.trans g⟩
end

/-! ### readings of data -/
abbrev DK := D → DH → Prop
abbrev DTE := DSt → DH → DK → Prop
abbrev DTT := DSt → DH → (Bool → DH → Prop) → Prop
abbrev DTA := DSt → DH → (List D → DH → Prop) → Prop
structure DEnds where
  nx : DSt → DH → Prop
  rt : DK
  bk : DSt → DH → Prop := fun _ _ => False
  ct : DSt → DH → Prop := fun _ _ => False
abbrev DTS := DEnds → DSt → DH → Prop
abbrev DXK := Value → Option Addr → DH → Prop
abbrev DSp := List D → DH → DK → DXK → Prop
abbrev DWX := Value → Option Addr → DSt → DH → Prop

section
variable (K : PySem.W.Frag) (B : Hp) (b : DH)
def LK (H : Hp) (h : DH) (q : DK) (Q : VK) : Prop := ∀ d h1, q d h1 → ∀ v H1, Go K H h H1 h1 → Rep K H1 v d → Q v H1
def LB (H : Hp) (h : DH) (q : Bool → DH → Prop) (Q : Bool → Hp → Prop) : Prop := ∀ d h1, q d h1 → ∀ H1, Go K H h H1 h1 → Q d H1
def LA (H : Hp) (h : DH) (q : List D → DH → Prop) (Q : List V → Hp → Prop) : Prop := ∀ d h1, q d h1 → ∀ v H1, Go K H h H1 h1 → Reps K H1 v d → Q v H1
def LN (H : Hp) (h : DH) (n : DSt → DH → Prop) (N : L2.St → Hp → Prop) : Prop := ∀ s1 h1, n s1 h1 → ∀ σ1 H1, Go K H h H1 h1 → RSt K H1 s1 σ1 → N σ1 H1
structure LEnds (H : Hp) (h : DH) (e : DEnds) (E : Ends) : Prop where
  nx : LN K H h e.nx E.nx
  rt : LK K H h e.rt E.rt
  bk : LN K H h e.bk E.bk
  ct : LN K H h e.ct E.ct
def lE (t : DTE) : TE := fun σ H Q => ∃ s h q, At K B b s h σ H ∧ t s h q ∧ LK K H h q Q
def lT (t : DTT) : TT := fun σ H Q => ∃ s h q, At K B b s h σ H ∧ t s h q ∧ LB K H h q Q
def lA (t : DTA) : TA := fun σ H Q => ∃ s h q, At K B b s h σ H ∧ t s h q ∧ LA K H h q Q
def lS (t : DTS) : TS := fun E σ H => ∃ s h e, At K B b s h σ H ∧ t e s h ∧ LEnds K H h e E
def lW (w : DWX) : WX := fun cls d σ H => ∃ s h, At K B b s h σ H ∧ w cls d s h
def liftSp (sp : DSp) : Sp := fun vs H Q E => ∃ ds h q x, Reps K H vs ds ∧ RHp K H h ∧ sp ds h q x ∧ LK K H h q Q ∧ ∀ cls d h1, x cls d h1 → ∀ H1, Go K H h H1 h1 → E cls d H1
end
section
variable {K : PySem.W.Frag} {B : Hp} {b : DH} {H H1 : Hp} {h h1 : DH}
theorem LK.go {q : DK} {Q : VK} (l : LK K H h q Q) (g : Go K H h H1 h1) : LK K H1 h1 q Q := fun d h2 z v H2 g2 r => l d h2 z v H2 (g.trans g2) r
theorem LB.go {q : Bool → DH → Prop} {Q : Bool → Hp → Prop} (l : LB K H h q Q) (g : Go K H h H1 h1) : LB K H1 h1 q Q := fun d h2 z H2 g2 => l d h2 z H2 (g.trans g2)
theorem LA.go {q : List D → DH → Prop} {Q : List V → Hp → Prop} (l : LA K H h q Q) (g : Go K H h H1 h1) : LA K H1 h1 q Q := fun d h2 z v H2 g2 r => l d h2 z v H2 (g.trans g2) r
theorem LN.go {q : DSt → DH → Prop} {Q : L2.St → Hp → Prop} (l : LN K H h q Q) (g : Go K H h H1 h1) : LN K H1 h1 q Q := fun d h2 z v H2 g2 r => l d h2 z v H2 (g.trans g2) r
theorem LEnds.go {e : DEnds} {E : Ends} (l : LEnds K H h e E) (g : Go K H h H1 h1) : LEnds K H1 h1 e E := ⟨l.nx.go g, l.rt.go g, l.bk.go g, l.ct.go g⟩
end

section
variable {X : Cx}
theorem pe_weak {e : Expr} {t t' : TE} (p : PE X e t) (w : ∀ σ H Q, t' σ H Q → t σ H Q) : PE X e t' := ⟨fun pins s σ H Q I h => p.run pins s σ H Q I (w σ H Q h)⟩
theorem pt_weak {e : Expr} {t t' : TT} (p : PT X e t) (w : ∀ σ H Q, t' σ H Q → t σ H Q) : PT X e t' := ⟨fun pins s σ H Q I h => p.run pins s σ H Q I (w σ H Q h)⟩
theorem pw_weak {e : Expr} {t t' : TT} (p : PW X e t) (w : ∀ σ H Q, t' σ H Q → t σ H Q) : PW X e t' := ⟨fun wh pins s σ H Q I h => p.run wh pins s σ H Q I (w σ H Q h)⟩
theorem pa_weak {e : List Expr} {t t' : TA} (p : PA X e t) (w : ∀ σ H Q, t' σ H Q → t σ H Q) : PA X e t' := ⟨fun pos pins s σ H Q I h => p.run pos pins s σ H Q I (w σ H Q h)⟩
theorem ps_weak {e : Stmt} {t t' : TS} (p : PS X e t) (w : ∀ D σ H, t' D σ H → t D σ H) : PS X e t' := ⟨fun pins s σ H D I h => p.run pins s σ H D I (w D σ H h)⟩
theorem pss_weak {e : List Stmt} {t t' : TS} (p : PSs X e t) (w : ∀ D σ H, t' D σ H → t D σ H) : PSs X e t' := ⟨fun pins s σ H D I h => p.run pins s σ H D I (w D σ H h)⟩
theorem pi_weak {tg e : Expr} {t t' : TI} (p : PI X tg e t) (w : ∀ σ H Q, t' σ H Q → t σ H Q) : PI X tg e t' := ⟨fun pins s σ H Q I h => p.run pins s σ H Q I (w σ H Q h)⟩
theorem pts_weak {e : List Expr} {t t' : TT} (p : PTs X e t) (w : ∀ σ H Q, t' σ H Q → t σ H Q) : PTs X e t' := ⟨fun pins s σ H Q I h => p.run pins s σ H Q I (w σ H Q h)⟩
end

/-! ### names, constants, operators -/
def dVar (i : Nat) : DTE := fun s h q => match s[i]? with
  | some (some d) => q d h
  | _ => False
def dC (d : D) : DTE := fun _ h q => q d h
abbrev DR2 := D → D → DH → DK → Prop
abbrev DR1 := D → DH → DK → Prop
abbrev DRC := List D → DH → DK → Prop
def dOp (r : DR2) (ta tb : DTE) : DTE := fun s h q => ta s h fun x h1 => tb s h1 fun y h2 => r x y h2 q
def dUn (r : DR1) (ta : DTE) : DTE := fun s h q => ta s h fun x h1 => r x h1 q
def dNil : DTA := fun _ h q => q [] h
def dCons (ta : DTE) (tr : DTA) : DTA := fun s h q => ta s h fun x h1 => tr s h1 fun xs h2 => q (x :: xs) h2
def dCB (r : DRC) (ta : DTA) : DTE := fun s h q => ta s h fun xs h1 => r xs h1 q
def RefOp (K : PySem.W.Frag) (r : R2) (r' : DR2) : Prop := ∀ x y d e H h q Q, Rep K H x d → Rep K H y e → RHp K H h → r' d e h q → LK K H h q Q → r x y H Q
def RefUn (K : PySem.W.Frag) (r : V → Hp → VK → Prop) (r' : DR1) : Prop := ∀ x d H h q Q, Rep K H x d → RHp K H h → r' d h q → LK K H h q Q → r x H Q
def RefCB (K : PySem.W.Frag) (r : List V → Hp → VK → Prop) (r' : DRC) : Prop := ∀ xs ds H h q Q, Reps K H xs ds → RHp K H h → r' ds h q → LK K H h q Q → r xs H Q
section
variable {X : Cx} {B : Hp} {b : DH} {e a c : Expr} {es : List Expr} {ta tb tc : DTE} {tas : DTA} {pos p : Pos}
theorem lE_var {K : PySem.W.Frag} {i : Nat} {σ : L2.St} {H : Hp} {Q : VK} (z : lE K B b (dVar i) σ H Q) : tVar i σ H Q := by
  obtain ⟨s, h, q, at_, t, l⟩ := z
  unfold dVar at t
  split at t
  · rename_i d hd
    obtain ⟨v, hv, r⟩ := at_.st.at_ i d hd
    exact ⟨v, hv, l d h t v H (Go.refl at_.rep) r⟩
  · exact t.elim
theorem de_var (h : PE X e (tVar i)) : PE X e (lE X.K B b (dVar i)) := pe_weak h fun _ _ _ z => lE_var z
theorem de_c {v : V} {d : D} (h : PE X e (tC v)) (r : ∀ K H, Rep K H v d) : PE X e (lE X.K B b (dC d)) := pe_weak h fun σ H Q ⟨s, h, q, at_, t, l⟩ => l d h t v H (Go.refl at_.rep) (r X.K H)
theorem de_int {i : Int} {j : Nat} : PE X (.Constant (.int i) j pos) (lE X.K B b (dC (.int i))) := de_c pe_int fun _ _ => .int i
theorem de_bl {i : Bool} {j : Nat} : PE X (.Constant (.bool i) j pos) (lE X.K B b (dC (.bl i))) := de_c pe_bl fun _ _ => .bl i
theorem de_non {j : Nat} : PE X (.Constant .none j pos) (lE X.K B b (dC .non)) := de_c pe_non fun _ _ => .non
theorem de_str {x : Str} {j : Nat} : PE X (.Constant (.str x) j pos) (lE X.K B b (dC (.str x))) := de_c pe_str fun _ _ => .str x
theorem lE_op {K : PySem.W.Frag} {r : R2} {r' : DR2} (rf : RefOp K r r') {σ : L2.St} {H : Hp} {Q : VK} (z : lE K B b (dOp r' ta tb) σ H Q) : tOp r (lE K B b ta) (lE K B b tb) σ H Q := by
  obtain ⟨s, h, q, at_, t, l⟩ := z
  exact ⟨s, h, _, at_, t, fun x h1 z1 v H1 g1 r1 => ⟨s, h1, _, at_.step g1, z1, fun y h2 z2 w H2 g2 r2 => rf v w x y H2 h2 q Q (r1.mono g2.tle) r2 g2.rep z2 (l.go (g1.trans g2))⟩⟩
theorem de_op {op : Operator} {r : R2} {r' : DR2} (ho : OpR X (binaryOp op) r) (rf : RefOp X.K r r') (ha : PE X a (lE X.K B b ta)) (hb : PE X c (lE X.K B b tb)) : PE X (.BinOp a op c pos) (lE X.K B b (dOp r' ta tb)) :=
  pe_weak (pe_op ho ha hb) fun _ _ _ z => lE_op rf z
theorem de_un {op : UnaryOp} {r : V → Hp → VK → Prop} {r' : DR1} (ho : UnR X (unaryOp op) r) (rf : RefUn X.K r r') (ha : PE X a (lE X.K B b ta)) : PE X (.UnaryOp op a pos) (lE X.K B b (dUn r' ta)) :=
  pe_weak (pe_un ho ha) fun σ H Q ⟨s, h, q, at_, t, l⟩ => ⟨s, h, _, at_, t, fun x h1 z1 v H1 g1 r1 => rf v x H1 h1 q Q r1 g1.rep z1 (l.go g1)⟩
theorem de_cmp {op : CmpOp} {r : R2} {r' : DR2} (ho : OpR X (compareOp op) r) (rf : RefOp X.K r r') (ha : PE X a (lE X.K B b ta)) (hb : PE X c (lE X.K B b tb)) (hm : behindInMarks op c = false) : PE X (.Compare a [op] [c] pos) (lE X.K B b (dOp r' ta tb)) :=
  pe_weak (pe_cmpR ho ha hb hm) fun _ _ _ z => lE_op rf z
theorem da_nil : PA X [] (lA X.K B b dNil) := pa_weak pa_nil fun σ H Q ⟨s, h, q, at_, t, l⟩ => l [] h t [] H (Go.refl at_.rep) .nil
theorem da_cons (ha : PE X e (lE X.K B b ta)) (hr : PA X es (lA X.K B b tas)) (hs : starEach (e :: es) X.env = (false, eval e X.env) :: starEach es X.env := by rfl) : PA X (e :: es) (lA X.K B b (dCons ta tas)) :=
  pa_weak (pa_cons ha hr hs) fun σ H Q ⟨s, h, q, at_, t, l⟩ => ⟨s, h, _, at_, t, fun x h1 z1 v H1 g1 r1 => ⟨s, h1, _, at_.step g1, z1, fun ys h2 z2 ws H2 g2 r2 => l _ h2 z2 _ H2 (g1.trans g2) (.cons (r1.mono g2.tle) r2)⟩⟩
theorem lE_cb {K : PySem.W.Frag} {r : List V → Hp → VK → Prop} {r' : DRC} (rf : RefCB K r r') {σ : L2.St} {H : Hp} {Q : VK} (z : lE K B b (dCB r' tas) σ H Q) : tCB r (lA K B b tas) σ H Q := by
  obtain ⟨s, h, q, at_, t, l⟩ := z
  exact ⟨s, h, _, at_, t, fun xs h1 z1 vs H1 g1 r1 => rf vs xs H1 h1 q Q r1 g1.rep z1 (l.go g1)⟩
theorem de_cb {r : List V → Hp → VK → Prop} {r' : DRC} (h : PE X e (tCB r (lA X.K B b tas))) (rf : RefCB X.K r r') : PE X e (lE X.K B b (dCB r' tas)) := pe_weak h fun _ _ _ z => lE_cb rf z
end
end DL
set_option Elab.async false
set_option linter.all false
set_option maxRecDepth 100000
set_option maxHeartbeats 4000000
namespace DL
open PySem PySem.Spec PyProof.Rows L2

/-! ### tests -/
/-- a value's truth -/
def truD (d : D) (h : DH) (q : Bool → DH → Prop) : Prop := match d with
  | .non => q false h
  | .bl k => q k h
  | .int i => q (i != 0) h
  | .str y => y.length ≤ sizeLine ∧ q ((y.length : Int) != 0) h
  | .tup xs => q (!xs.isEmpty) h
  | .loc a => match h a with
    | some (.lst xs) => q (!xs.isEmpty) h
    | some (.dK kvs) => q (!kvs.isEmpty) h
    | _ => False
  | _ => False
def dTru (t : DTE) : DTT := fun s h q => t s h fun d h1 => truD d h1 q
def dAnd (t u : DTT) : DTT := fun s h q => t s h fun c h1 => if c = true then u s h1 q else q false h1
def dOr (t u : DTT) : DTT := fun s h q => t s h fun c h1 => if c = true then q true h1 else u s h1 q
def dNot (t : DTT) : DTT := fun s h q => t s h fun c h1 => q (!c) h1
def dIf (t : DTT) (ta tb : DTE) : DTE := fun s h q => t s h fun c h1 => if c = true then ta s h1 q else tb s h1 q
/-- a and b, a or b, not a as values: bools -/
def dAndV (ta tb : DTE) : DTE := fun s h q => ta s h fun x h1 => match x with
  | .bl c => if c = true then tb s h1 q else q (.bl false) h1
  | _ => False
def dOrV (ta tb : DTE) : DTE := fun s h q => ta s h fun x h1 => match x with
  | .bl c => if c = true then q (.bl true) h1 else tb s h1 q
  | _ => False
def dNotV (ta : DTE) : DTE := fun s h q => ta s h fun x h1 => match x with
  | .bl c => q (.bl (!c)) h1
  | _ => False
section
variable {X : Cx} {B : Hp} {b : DH} {e a c : Expr} {es : List Expr} {ta tb tc : DTE} {tt tu : DTT} {tas : DTA} {pos p : Pos}
theorem dt_tru (ha : PE X a (lE X.K B b ta)) (he : ∀ whole, isTrue a X.env whole = (do let v ← whole; standAt a.pos; holding [v] (truthy v)) := by intro _; rfl) : PT X a (lT X.K B b (dTru ta)) := by
  refine pt_weak (pt_truth ha he) fun σ H Q ⟨s, h, q, at_, t, l⟩ => ⟨s, h, _, at_, t, fun d h1 z v H1 g r => ?_⟩
  cases d with
  | non => rw [r.non_inv]; exact ⟨false, rfl, l _ _ z _ g⟩
  | bl k => rw [r.bl_inv]; exact ⟨k, rfl, l _ _ z _ g⟩
  | int k => rw [r.int_inv]; exact ⟨_, rfl, l _ _ z _ g⟩
  | str k => rw [r.str_inv]; exact ⟨_, ⟨z.1, rfl⟩, l _ _ z.2 _ g⟩
  | tup ds =>
    obtain ⟨p, vs, rfl, h1, h2⟩ := r.tup_inv
    exact ⟨_, .inr (.inl ⟨vs, SqT.of h1, rfl⟩), l _ _ (by rw [h2.isEmpty]; exact z) _ g⟩
  | loc p =>
    rw [r.loc_inv]
    have z : (match h1 p with | some (.lst xs) => _ | some (.dK kvs) => _ | _ => _) := z
    split at z
    · rename_i xs hx
      obtain ⟨o, h2, h3⟩ := g.rep p _ hx
      cases o <;> first | exact h3.elim | skip
      exact ⟨_, .inl ⟨_, SqL.of h2, rfl⟩, l _ _ (by rw [show _ = xs.isEmpty from Reps.isEmpty h3]; exact z) _ g⟩
    · rename_i xs hx
      obtain ⟨o, h2, h3⟩ := g.rep p _ hx
      cases o <;> first | exact h3.elim | skip
      rename_i kvs
      refine ⟨_, .inr (.inr ⟨kvs, h2, rfl⟩), l _ _ ?_ _ g⟩
      have e : kvs.isEmpty = xs.isEmpty := by
        have h4 : RepKV X.K H1 kvs xs := h3
        cases h4 <;> rfl
      rw [e]; exact z
    · exact z.elim
  | ty n => exact (z : False).elim
  | opq w => exact (z : False).elim
  | lsv w => exact (z : False).elim
theorem dt_not (ha : PT X a (lT X.K B b tt)) : PT X (.UnaryOp .Not a pos) (lT X.K B b (dNot tt)) :=
  pt_weak (pt_not ha) fun σ H Q ⟨s, h, q, at_, t, l⟩ => ⟨s, h, _, at_, t, fun d h1 z H1 g => l _ _ z _ g⟩
theorem dw_and1 (ha : PT X a (lT X.K B b tt)) : PW X (.BoolOp .And [a] pos) (lT X.K B b tt) := pw_and1 ha
theorem dw_or1 (ha : PT X a (lT X.K B b tt)) : PW X (.BoolOp .Or [a] pos) (lT X.K B b tt) := pw_or1 ha
theorem dw_and {e : Expr} {rest : List Expr} (ha : PT X a (lT X.K B b tt)) (hb : PW X (.BoolOp .And (e :: rest) pos) (lT X.K B b tu)) : PW X (.BoolOp .And (a :: e :: rest) pos) (lT X.K B b (dAnd tt tu)) :=
  pw_weak (pw_and ha hb) fun σ H Q ⟨s, h, q, at_, t, l⟩ => ⟨s, h, _, at_, t, fun d h1 z H1 g => by
    cases d with
    | true => rw [if_pos rfl] at z ⊢; exact ⟨s, h1, _, at_.step g, z, l.go g⟩
    | false => rw [if_neg Bool.false_ne_true] at z ⊢; exact l _ _ z _ g⟩
theorem dw_or {e : Expr} {rest : List Expr} (ha : PT X a (lT X.K B b tt)) (hb : PW X (.BoolOp .Or (e :: rest) pos) (lT X.K B b tu)) : PW X (.BoolOp .Or (a :: e :: rest) pos) (lT X.K B b (dOr tt tu)) :=
  pw_weak (pw_or ha hb) fun σ H Q ⟨s, h, q, at_, t, l⟩ => ⟨s, h, _, at_, t, fun d h1 z H1 g => by
    cases d with
    | true => rw [if_pos rfl] at z ⊢; exact l _ _ z _ g
    | false => rw [if_neg Bool.false_ne_true] at z ⊢; exact ⟨s, h1, _, at_.step g, z, l.go g⟩⟩
theorem dt_w (h : PW X e (lT X.K B b tt)) : PT X e (lT X.K B b tt) := h.pt
theorem de_if (ht : PT X e (lT X.K B b tt)) (ha : PE X a (lE X.K B b ta)) (hb : PE X c (lE X.K B b tb)) : PE X (.IfExp e a c pos) (lE X.K B b (dIf tt ta tb)) :=
  pe_weak (pe_ifExp ht ha hb) fun σ H Q ⟨s, h, q, at_, t, l⟩ => ⟨s, h, _, at_, t, fun d h1 z H1 g => by
    cases d with
    | true => rw [if_pos rfl] at z ⊢; exact ⟨s, h1, _, at_.step g, z, l.go g⟩
    | false => rw [if_neg Bool.false_ne_true] at z ⊢; exact ⟨s, h1, _, at_.step g, z, l.go g⟩⟩
theorem de_one {op} (h : PE X a (lE X.K B b ta)) : PE X (.BoolOp op [a] pos) (lE X.K B b ta) := pe_one h
theorem de_and {e : Expr} {rest : List Expr} (ha : PE X a (lE X.K B b ta)) (hb : PE X (.BoolOp .And (e :: rest) pos) (lE X.K B b tb)) : PE X (.BoolOp .And (a :: e :: rest) pos) (lE X.K B b (dAndV ta tb)) :=
  pe_weak (pe_and ha hb) fun σ H Q ⟨s, h, q, at_, t, l⟩ => ⟨s, h, _, at_, t, fun d h1 z v H1 g r => by
    cases d with
    | bl k =>
      refine ⟨k, r.bl_inv, ?_⟩
      have z : (if k = true then _ else _) := z
      cases k with
      | true => rw [if_pos rfl] at z ⊢; exact ⟨s, h1, _, at_.step g, z, l.go g⟩
      | false => rw [if_neg Bool.false_ne_true] at z ⊢; exact l _ _ z _ _ g (.bl false)
    | _ => exact (z : False).elim⟩
theorem de_or {e : Expr} {rest : List Expr} (ha : PE X a (lE X.K B b ta)) (hb : PE X (.BoolOp .Or (e :: rest) pos) (lE X.K B b tb)) : PE X (.BoolOp .Or (a :: e :: rest) pos) (lE X.K B b (dOrV ta tb)) :=
  pe_weak (pe_or ha hb) fun σ H Q ⟨s, h, q, at_, t, l⟩ => ⟨s, h, _, at_, t, fun d h1 z v H1 g r => by
    cases d with
    | bl k =>
      refine ⟨k, r.bl_inv, ?_⟩
      have z : (if k = true then _ else _) := z
      cases k with
      | true => rw [if_pos rfl] at z ⊢; exact l _ _ z _ _ g (.bl true)
      | false => rw [if_neg Bool.false_ne_true] at z ⊢; exact ⟨s, h1, _, at_.step g, z, l.go g⟩
    | _ => exact (z : False).elim⟩
theorem de_not (ha : PE X a (lE X.K B b ta)) : PE X (.UnaryOp .Not a pos) (lE X.K B b (dNotV ta)) :=
  pe_weak (pe_not ha) fun σ H Q ⟨s, h, q, at_, t, l⟩ => ⟨s, h, _, at_, t, fun d h1 z v H1 g r => by
    cases d with
    | bl k => exact ⟨k, r.bl_inv, l _ _ z _ _ g (.bl _)⟩
    | _ => exact (z : False).elim⟩
/-- the heap behind an expression that only made things of its own: as it was -/
def dPure (t : DTE) : DTE := fun s h q => t s h fun d h1 => Sub h h1 ∧ q d h
theorem de_pure (ha : PE X a (lE X.K B b ta)) : PE X a (lE X.K B b (dPure ta)) := pe_weak ha fun σ H Q ⟨s, h, q, at_, t, l⟩ =>
  ⟨s, h, _, at_, t, fun d h1 z v H1 g r => l d h z.2 v H1 (g.sub z.1) r⟩

/-! ### statements -/
def dSeq (t u : DTS) : DTS := fun e s h => t { e with nx := u e } s h
def dNext : DTS := fun e s h => e.nx s h
def dBreak : DTS := fun e s h => e.bk s h
def dCont : DTS := fun e s h => e.ct s h
def dDrop (t : DTE) : DTS := fun e s h => t s h fun _ h1 => e.nx s h1
def dRet (t : DTE) : DTS := fun e s h => t s h e.rt
def dRetN : DTS := fun e _ h => e.rt .non h
def dIfS (c : DTT) (t u : DTS) : DTS := fun e s h => c s h fun k h1 => if k = true then t e s h1 else u e s h1
/-- patterns -/
abbrev DTG := D → DSt → (DSt → Prop) → Prop
def pName (i : Nat) : DTG := fun d s q => q (s.set i (some d))
def setAll (s : DSt) : List Nat → List D → DSt
  | i :: is, d :: ds => setAll (s.set i (some d)) is ds
  | _, _ => s
def pTup (is : List Nat) : DTG := fun d s q => match d with
  | .tup ds => ds.length = is.length ∧ q (setAll s is ds)
  | _ => False
def gNames : List Nat → TGs
  | [] => gNil
  | i :: is => gCons (gName i) (gNames is)
def RefG (K : PySem.W.Frag) (g : TG) (g' : DTG) : Prop := ∀ x d s σ H q (Q : L2.St → Hp → Prop), Rep K H x d → RSt K H s σ → g' d s q → (∀ s1, q s1 → ∀ σ1, RSt K H s1 σ1 → Q σ1 H) → g x σ H Q
theorem refG_name {K : PySem.W.Frag} (i : Nat) : RefG K (gName i) (pName i) := fun x d s σ H q Q r rs z k => k _ z _ (rs.set r i)
theorem gNames_all {K : PySem.W.Frag} : ∀ (is : List Nat) (ds : List D) (vs : List V) (s : DSt) (σ : L2.St) (H : Hp) (Q : L2.St → Hp → Prop), ds.length = is.length → Reps K H vs ds → RSt K H s σ → (∀ σ1, RSt K H (setAll s is ds) σ1 → Q σ1 H) → gNames is vs σ H Q
  | [], [], _, s, σ, H, Q, _, .nil, rs, k => ⟨rfl, k σ rs⟩
  | i :: is, d :: ds, _, s, σ, H, Q, hl, .cons r rr, rs, k => ⟨_, _, rfl, gNames_all is ds _ (s.set i (some d)) _ H Q (by simpa using hl) rr (rs.set r i) k⟩
theorem refG_tup {K : PySem.W.Frag} (is : List Nat) : RefG K (gTup K is.length (gNames is)) (pTup is) := fun x d s σ H q Q r rs z k => by
  cases d with
  | tup ds =>
    obtain ⟨hl, z⟩ := (z : ds.length = is.length ∧ q (setAll s is ds))
    obtain ⟨a, vs, rfl, h1, h2⟩ := r.tup_inv
    exact ⟨a, vs, rfl, SqT.of h1, by rw [h2.length]; exact hl, gNames_all is ds vs s σ H Q hl h2 rs fun σ1 q1 => k _ z _ q1⟩
  | _ => exact (z : False).elim
def dAsg (t : DTE) (g : DTG) : DTS := fun e s h => t s h fun d h1 => g d s fun s1 => e.nx s1 h1
def dPar (i j : Nat) (ta : DTA) : DTS := fun e s h => ta s h fun ds h1 => match ds with
  | [d, u] => e.nx ((s.set i (some d)).set j (some u)) h1
  | _ => False
def dAug (i : Nat) (t : DTE) (r : DR2) : DTS := fun e s h => match s[i]? with
  | some (some x) => t s h fun y h1 => r x y h1 fun z h2 => e.nx (s.set i (some z)) h2
  | _ => False
abbrev DR3 := D → D → D → DH → (DH → Prop) → Prop
def RefSet (K : PySem.W.Frag) (r : TSet) (r' : DR3) : Prop := ∀ o i v od id d H h q (Q : Hp → Prop), Rep K H o od → Rep K H i id → Rep K H v d → RHp K H h → r' od id d h q → (∀ h1, q h1 → ∀ H1, Go K H h H1 h1 → Q H1) → r o i v H Q
/-- o[i] = v -/
def dSet (to ti tv : DTE) (r : DR3) : DTS := fun e s h => tv s h fun v h1 => to s h1 fun o h2 => ti s h2 fun i h3 => r o i v h3 fun h4 => e.nx s h4
def dWhile (c : DTT) (tb : DTS) : DTS := fun e s h => ∃ W : Nat → DSt → DH → Prop, (∃ m, W m s h) ∧ ∀ m s h, W m s h →
  c s h fun k h1 => if k = true then ∃ N : DSt → DH → Prop, (∀ s' h', N s' h' → ∃ m', m' < m ∧ W m' s' h') ∧ tb { e with nx := N, ct := N, bk := e.nx } s h1 else e.nx s h1
section
variable {st : Stmt} {rest sts body orelse : List Stmt} {t u : DTS} {g : TG} {g' : DTG} {tg : Expr}
theorem lN_of {K : PySem.W.Frag} {H : Hp} {h : DH} {e : DEnds} {E : Ends} {s : DSt} {σ : L2.St} {u : DTS} (at_ : At K B b s h σ H) (l : LEnds K H h e E) : LN K H h (u e) (lS K B b u E) := fun s1 h1 z σ1 H1 g r =>
  ⟨s1, h1, e, ⟨r, at_.go.trans g⟩, z, l.go g⟩
theorem dss_nil : PSs X [] (lS X.K B b dNext) := pss_weak pss_nil fun D σ H ⟨s, h, e, at_, t, l⟩ => l.nx s h t σ H (Go.refl at_.rep) at_.st
theorem dss_cons (h1 : PS X st (lS X.K B b t)) (h2 : PSs X rest (lS X.K B b u)) : PSs X (st :: rest) (lS X.K B b (dSeq t u)) :=
  pss_weak (pss_cons h1 h2) fun D σ H ⟨s, h, e, at_, t, l⟩ => ⟨s, h, _, at_, t, ⟨lN_of at_ l, l.rt, l.bk, l.ct⟩⟩
theorem dss_one (h1 : PS X st (lS X.K B b t)) : PSs X [st] (lS X.K B b t) := pss_one h1
theorem ds_expr (he : PE X e (lE X.K B b ta)) (hs : swapsWith e none pos.line X.env = pure false := by rfl) : PS X (.Expr e pos) (lS X.K B b (dDrop ta)) :=
  ps_weak (ps_expr he hs) fun D σ H ⟨s, h, e, at_, t, l⟩ => ⟨s, h, _, at_, t, fun d h1 z v H1 g r => l.nx s h1 z σ H1 g (at_.step g).st⟩
theorem ds_ret (he : PE X e (lE X.K B b ta)) : PS X (.Return (some e) pos) (lS X.K B b (dRet ta)) :=
  ps_weak (ps_ret he) fun D σ H ⟨s, h, e, at_, t, l⟩ => ⟨s, h, _, at_, t, l.rt⟩
theorem ds_retN : PS X (.Return none pos) (lS X.K B b dRetN) := ps_weak ps_retN fun D σ H ⟨s, h, e, at_, t, l⟩ => l.rt _ _ t _ _ (Go.refl at_.rep) .non
theorem ds_pass : PS X (.Pass pos) (lS X.K B b dNext) := ps_weak ps_pass fun D σ H ⟨s, h, e, at_, t, l⟩ => l.nx s h t σ H (Go.refl at_.rep) at_.st
theorem ds_break : PS X (.Break pos) (lS X.K B b dBreak) := ps_weak ps_break fun D σ H ⟨s, h, e, at_, t, l⟩ => l.bk s h t σ H (Go.refl at_.rep) at_.st
theorem ds_cont : PS X (.Continue pos) (lS X.K B b dCont) := ps_weak ps_continue fun D σ H ⟨s, h, e, at_, t, l⟩ => l.ct s h t σ H (Go.refl at_.rep) at_.st
theorem ds_if (hc : PT X e (lT X.K B b tt)) (ha : PSs X body (lS X.K B b t)) (hb : PSs X orelse (lS X.K B b u)) : PS X (.If e body orelse pos) (lS X.K B b (dIfS tt t u)) :=
  ps_weak (ps_if hc ha hb) fun D σ H ⟨s, h, e, at_, t, l⟩ => ⟨s, h, _, at_, t, fun d h1 z H1 g => by
    cases d with
    | true => rw [if_pos rfl] at z ⊢; exact ⟨s, h1, e, at_.step g, z, l.go g⟩
    | false => rw [if_neg Bool.false_ne_true] at z ⊢; exact ⟨s, h1, e, at_.step g, z, l.go g⟩⟩
theorem lS_asg {K : PySem.W.Frag} {D : Ends} {σ : L2.St} {H : Hp} (rg : RefG K g g') (z : lS K B b (dAsg ta g') D σ H) : tAsg (lE K B b ta) g D σ H := by
  obtain ⟨s, h, e, at_, t, l⟩ := z
  exact ⟨s, h, _, at_, t, fun d h1 z v H1 g1 r => rg v d s σ H1 _ _ r (at_.step g1).st z fun s1 z1 σ1 r1 => l.nx s1 h1 z1 σ1 H1 g1 r1⟩
theorem ds_asg (he : PE X e (lE X.K B b ta)) (hg : PG X tg g) (rg : RefG X.K g g') (hs : swapsWithSole [tg] e pos.line X.env = pure false := by rfl) (hw : swappedStores [tg] e X.env = pure none := by rfl)
    (h1 : (assignEach [tg] X.env).map (·.2) = [assign tg X.env] := by rfl) : PS X (.Assign [tg] e pos) (lS X.K B b (dAsg ta g')) :=
  ps_weak (ps_asg he hg hs hw h1) fun D σ H z => lS_asg rg z
theorem ds_set {i : Nat} {x : Str} {pos' : Pos} (hN : X.N.Nodup) (hi : X.N[i]? = some x) (hx : Loc X.env.scope x) (he : PE X e (lE X.K B b ta)) (hs : swapsWith e (some (.Name x pos')) pos.line X.env = pure false := by rfl) (hf : X.fn x = true ∨ X.env.scope.names.lookup x = some .local := by first | exact .inl rfl | exact .inr rfl | assumption) :
    PS X (.Assign [.Name x pos'] e pos) (lS X.K B b (dAsg ta (pName i))) := ps_weak (ps_set hN hi hx he hs hf) fun D σ H z => lS_asg (refG_name i) z
theorem ds_par {i j : Nat} {x y : Str} {a c : Expr} {px py pt : Pos} {kt k2 pt2} (hc : X.calm = true) (hN : X.N.Nodup) (hi : X.N[i]? = some x) (hj : X.N[j]? = some y) (hij : i ≠ j)
    (hx : X.env.scope.names.lookup x = some .local) (hy : X.env.scope.names.lookup y = some .local) (ha : PA X [a, c] (lA X.K B b tas))
    (hw : swappedStores [.Tuple [.Name x px, .Name y py] kt pt] (.Tuple [a, c] k2 pt2) X.env = pure (some [x, y]))
    (hs : swapsWithSole [.Tuple [.Name x px, .Name y py] kt pt] (.Tuple [a, c] k2 pt2) pos.line X.env = pure false := by rfl) :
    PS X (.Assign [.Tuple [.Name x px, .Name y py] kt pt] (.Tuple [a, c] k2 pt2) pos) (lS X.K B b (dPar i j tas)) :=
  ps_weak (ps_par hc hN hi hj hij hx hy ha hw hs) fun D σ H ⟨s, h, e, at_, t, l⟩ => ⟨s, h, _, at_, t, fun ds h1 z vs H1 g r => by
    split at z
    · rename_i d u
      cases r with
      | cons r1 r2 =>
        cases r2 with
        | cons r2 r3 =>
          cases r3
          exact ⟨_, _, rfl, l.nx _ h1 z _ H1 g (((at_.step g).st.set r1 i).set r2 j)⟩
    · exact z.elim⟩
theorem ds_aug {i : Nat} {x : Str} {op : Operator} {ti : TIp} {r : DR2} {pos' : Pos} (hN : X.N.Nodup) (hi : X.N[i]? = some x) (hx : Loc X.env.scope x) (he : PE X e (lE X.K B b ta)) (ho : PIp X op ti) (rf : RefOp X.K ti r)
    (hf : X.fn x = true ∨ X.env.scope.names.lookup x = some .local := by first | exact .inl rfl | exact .inr rfl | assumption) :
    PS X (.AugAssign (.Name x pos') op e pos) (lS X.K B b (dAug i ta r)) :=
  ps_weak (ps_aug hN hi hx he ho hf) fun D σ H ⟨s, h, e, at_, t, l⟩ => by
    unfold dAug at t
    split at t
    · rename_i x hx
      obtain ⟨v, hv, rv⟩ := at_.st.at_ i x hx
      refine ⟨v, hv, s, h, _, at_, t, fun y h1 z w H1 g r => ?_⟩
      refine rf v w x y H1 h1 _ _ (rv.mono g.tle) r g.rep z fun d h2 z2 w2 H2 g2 r2 => ?_
      exact l.nx _ h2 z2 _ H2 (g.trans g2) ((at_.step (g.trans g2)).st.set r2 i)
    · exact t.elim
theorem ds_setItem {o i : Expr} {r : TSet} {r' : DR3} {to ti : DTE} (he : PE X e (lE X.K B b ta)) (ho : PE X o (lE X.K B b to)) (hi : PE X i (lE X.K B b ti)) (hset : PSet X r) (rf : RefSet X.K r r')
    (ha : ∀ v, assign (.Subscript o i p) X.env v = (do
      let ov ← holding [v] (eval o X.env)
      let iv ← holding [v, ov] (eval i X.env)
      standAt p
      holding [v, ov, iv] (setItem ov iv v)
      release [v, ov, iv] []) := by intro _; rfl)
    (hs : swapsWithSole [.Subscript o i p] e pos.line X.env = pure false := by rfl) (hw : swappedStores [.Subscript o i p] e X.env = pure none := by rfl)
    (h1 : (assignEach [.Subscript o i p] X.env).map (·.2) = [assign (.Subscript o i p) X.env] := by rfl) : PS X (.Assign [.Subscript o i p] e pos) (lS X.K B b (dSet to ti ta r')) :=
  ps_weak (ps_asg he (pg_sub ho hi hset ha) hs hw h1) fun D σ H ⟨s, h, e, at_, t, l⟩ => ⟨s, h, _, at_, t, fun v h1 z1 vv H1 g1 r1 =>
    ⟨s, h1, _, at_.step g1, z1, fun od h2 z2 ov H2 g2 r2 => ⟨s, h2, _, at_.step (g1.trans g2), z2, fun id h3 z3 iv H3 g3 r3 =>
      rf ov iv vv od id v H3 h3 _ _ (r2.mono g3.tle) r3 (r1.mono (g2.trans g3).tle) g3.rep z3 fun h4 z4 H4 g4 => l.nx s h4 z4 σ H4 (g1.trans (g2.trans (g3.trans g4))) (at_.step (g1.trans (g2.trans (g3.trans g4)))).st⟩⟩⟩
theorem ds_while (hp : PassesOwn (model X.prog X.w) X.A X.env X.xe) (hc : PT X e (lT X.K B b tt)) (hb : PSs X body (lS X.K B b t)) : PS X (.While e body [] pos) (lS X.K B b (dWhile tt t)) :=
  ps_weak (ps_while hp hc hb) fun D σ H ⟨s, h, e, at_, t, l⟩ => by
    obtain ⟨W, ⟨m0, w0⟩, step⟩ := t
    refine ⟨fun m σ1 H1 => ∃ s1 h1, At X.K B b s1 h1 σ1 H1 ∧ Go X.K H h H1 h1 ∧ W m s1 h1, ⟨m0, s, h, at_, Go.refl at_.rep, w0⟩, ?_⟩
    rintro m σ1 H1 ⟨s1, h1, at1, g1, w1⟩
    refine ⟨s1, h1, _, at1, step m s1 h1 w1, fun k h2 z H2 g2 => ?_⟩
    cases k with
    | true =>
      rw [if_pos rfl] at z ⊢
      obtain ⟨N, hN, z⟩ := z
      have at2 := at1.step g2
      have lN : LN X.K H2 h2 N (fun σ' H' => ∃ s' h', At X.K B b s' h' σ' H' ∧ Go X.K H h H' h' ∧ N s' h') := fun s3 h3 z3 σ3 H3 g3 r3 => ⟨s3, h3, ⟨r3, at2.go.trans g3⟩, (g1.trans g2).trans g3, z3⟩
      refine ⟨_, fun σ' H' ⟨s', h', at', g', n'⟩ => ?_, s1, h2, _, at2, z, ⟨lN, (l.go (g1.trans g2)).rt, (l.go (g1.trans g2)).nx, lN⟩⟩
      obtain ⟨m', hm, w'⟩ := hN s' h' n'
      exact ⟨m', hm, s', h', at', g', w'⟩
    | false =>
      rw [if_neg Bool.false_ne_true] at z ⊢
      exact l.nx s1 h2 z σ1 H2 (g1.trans g2) (at1.step g2).st
end
end

/-! ### what is walked -/
/-- J gives xs, one by one, while G stands -/
structure JRep (K : PySem.W.Frag) (H0 : Hp) (h0 : DH) (J : It) (xs : List D) (G : DH → Prop) : Prop where
  go : ∀ i H h, Go K H0 h0 H h → G h → i < xs.length → J.go i H
  stop : ∀ H h, Go K H0 h0 H h → G h → J.stop xs.length H
  yld : ∀ i H h x H', Go K H0 h0 H h → G h → i < xs.length → J.yld i H x H' → Go K H h H' h ∧ ∃ d, xs[i]? = some d ∧ Rep K H' x d
abbrev DTI := DSt → DH → (List D → (DH → Prop) → DH → Prop) → Prop
def lI (K : PySem.W.Frag) (B : Hp) (b : DH) (w : DTI) : TI := fun σ H R => ∃ s h r, At K B b s h σ H ∧ w s h r ∧ ∀ xs G h1, r xs G h1 → ∀ J H1, Go K H h H1 h1 → JRep K H1 h1 J xs G → R J H1
def dFor (w : DTI) (g : DTG) (tb : DTS) : DTS := fun e s h => w s h fun xs G h1 => ∃ I : Nat → DSt → DH → Prop, I 0 s h1 ∧ (∀ i s h, i ≤ xs.length → I i s h → G h) ∧
  (∀ i x s h, xs[i]? = some x → I i s h → g x s fun s2 => tb { e with nx := I (i + 1), ct := I (i + 1), bk := e.nx } s2 h) ∧ ∀ s h, I xs.length s h → e.nx s h
def accMax : Nat := 1000000
def dLc (w : DTI) (g : DTG) (tt : DTT) (te : DTE) (vs : List Nat) : DTE := fun s h q => w s h fun xs G h1 => ∃ I : Nat → List D → DH → Prop, I 0 [] h1 ∧ (∀ i acc h, i ≤ xs.length → I i acc h → G h ∧ acc.length < accMax) ∧
  (∀ i x acc h, xs[i]? = some x → I i acc h → g x (wipeD s vs) fun s2 => tt s2 h fun k h2 => if k = true then te s2 h2 fun y h3 => I (i + 1) (acc ++ [y]) h3 else I (i + 1) acc h2) ∧
  ∀ acc h, I xs.length acc h → ∀ p, h p = none → q (.loc p) (updD h p (.lst acc))
def dYes : DTT := fun _ h q => q true h
theorem wipe_get (σ : L2.St) : ∀ (vs : List Nat) (j : Nat), (L2.wipe σ vs)[j]? = if j ∈ vs ∧ j < σ.length then some none else σ[j]?
  | [], j => by simp [L2.wipe]
  | v :: vs, j => by
    have ih := wipe_get σ vs j
    have hl : ∀ vs : List Nat, (L2.wipe σ vs).length = σ.length := fun vs => by
      induction vs with
      | nil => rfl
      | cons v vs ih => show ((L2.wipe σ vs).set v none).length = _; rw [List.length_set, ih]
    show ((L2.wipe σ vs).set v none)[j]? = _
    rw [List.getElem?_set, hl]
    by_cases e : v = j
    · subst e
      by_cases hv : v < σ.length
      · simp [hv]
      · simp [hv, List.getElem?_eq_none (Nat.le_of_not_lt hv)]
    · rw [if_neg e, ih]
      have e' : ¬ j = v := fun z => e z.symm
      simp [List.mem_cons, e']
theorem wipe_set {σ : L2.St} {vs : List Nat} {i : Nat} {v : Option V} (hi : i ∈ vs) : L2.wipe (σ.set i v) vs = L2.wipe σ vs := by
  apply List.ext_getElem?
  intro j
  rw [wipe_get, wipe_get, List.length_set, List.getElem?_set]
  by_cases e : i = j
  · subst e
    by_cases hv : i < σ.length
    · simp [hi, hv]
    · simp [hv, List.getElem?_eq_none (Nat.le_of_not_lt hv)]
  · rw [if_neg e]
/-- a pattern that stores in the slots vs alone -/
def OwnG (K : PySem.W.Frag) (vs : List Nat) (g : TG) (g' : DTG) : Prop := ∀ x d s σ H q (Q : L2.St → Hp → Prop), Rep K H x d → RSt K H s σ → g' d s q → (∀ s1, q s1 → ∀ σ1, RSt K H s1 σ1 → L2.wipe σ1 vs = L2.wipe σ vs → Q σ1 H) → g x σ H Q
theorem ownG_name {K : PySem.W.Frag} {i : Nat} {vs : List Nat} (hi : i ∈ vs) : OwnG K vs (gName i) (pName i) := fun x d s σ H q Q r rs z k => k _ z _ (rs.set r i) (wipe_set hi)
theorem ownG_names {K : PySem.W.Frag} {ws : List Nat} : ∀ (is : List Nat) (ds : List D) (vs : List V) (s : DSt) (σ : L2.St) (H : Hp) (Q : L2.St → Hp → Prop), (∀ i ∈ is, i ∈ ws) → ds.length = is.length → Reps K H vs ds → RSt K H s σ → (∀ σ1, RSt K H (setAll s is ds) σ1 → L2.wipe σ1 ws = L2.wipe σ ws → Q σ1 H) → gNames is vs σ H Q
  | [], [], _, s, σ, H, Q, _, _, .nil, rs, k => ⟨rfl, k σ rs rfl⟩
  | i :: is, d :: ds, _, s, σ, H, Q, hi, hl, .cons r rr, rs, k => ⟨_, _, rfl, ownG_names is ds _ (s.set i (some d)) _ H Q (fun j hj => hi j (List.mem_cons_of_mem _ hj)) (by simpa using hl) rr (rs.set r i) fun σ1 q1 q2 => k σ1 q1 (q2.trans (wipe_set (hi i List.mem_cons_self)))⟩
theorem ownG_tup {K : PySem.W.Frag} {is vs : List Nat} (hi : ∀ i ∈ is, i ∈ vs) : OwnG K vs (gTup K is.length (gNames is)) (pTup is) := fun x d s σ H q Q r rs z k => by
  cases d with
  | tup ds =>
    obtain ⟨hl, z⟩ := (z : ds.length = is.length ∧ q (setAll s is ds))
    obtain ⟨a, vs, rfl, h1, h2⟩ := r.tup_inv
    exact ⟨a, vs, rfl, SqT.of h1, by rw [h2.length]; exact hl, ownG_names is ds vs s σ H Q hi hl h2 rs fun σ1 q1 q2 => k _ z _ q1 q2⟩
  | _ => exact (z : False).elim
theorem wipe_wipe (σ : L2.St) (vs : List Nat) : L2.wipe (L2.wipe σ vs) vs = L2.wipe σ vs := by
  apply List.ext_getElem?
  intro j
  have hl : ∀ vs : List Nat, (L2.wipe σ vs).length = σ.length := fun vs => by
    induction vs with
    | nil => rfl
    | cons v vs ih => show ((L2.wipe σ vs).set v none).length = _; rw [List.length_set, ih]
  rw [wipe_get, wipe_get, hl]
  split <;> rfl
theorem accMax_lt {n : Nat} (h : n < accMax) : n < sizeLine := Nat.lt_of_lt_of_le h (by decide)
section
variable {X : Cx} {B : Hp} {b : DH} {e a c iter tg elt : Expr} {ifs : List Expr} {body : List Stmt} {w : DTI} {g : TG} {g' : DTG} {t : DTS} {tt : DTT} {te : DTE} {pos : Pos}
theorem ds_for (hp : PassesOwn (model X.prog X.w) X.A X.env X.xe) (hc : X.calm = true) (hi : PI X tg iter (lI X.K B b w)) (hg : PG X tg g) (rg : RefG X.K g g') (hb : PSs X body (lS X.K B b t))
    (hs : ∀ x, foldedSetIterable iter X.env x = pure x := by intro _; rfl) : PS X (.For tg iter body [] pos) (lS X.K B b (dFor w g' t)) :=
  ps_weak (ps_for hp hc hi hg hb hs) fun D σ H ⟨s, h, e, at_, t, l⟩ => by
    refine ⟨s, h, _, at_, t, ?_⟩
    rintro xs G h1 ⟨I, i0, hG, step, fin⟩ J H1 g1 jr
    refine ⟨fun i m σ2 H2 => m = xs.length - i ∧ i ≤ xs.length ∧ ∃ s2 h2, At X.K B b s2 h2 σ2 H2 ∧ Go X.K H1 h1 H2 h2 ∧ I i s2 h2, ⟨xs.length, by simp, Nat.zero_le _, s, h1, at_.step g1, Go.refl g1.rep, i0⟩, ?_⟩
    rintro i m σ2 H2 ⟨rfl, hi, s2, h2, at2, g2, i2⟩
    have hg2 := hG i s2 h2 hi i2
    by_cases hlt : i < xs.length
    · refine .inr ⟨jr.go i H2 h2 g2 hg2 hlt, fun σ' H' => ∃ s' h', At X.K B b s' h' σ' H' ∧ Go X.K H1 h1 H' h' ∧ I (i + 1) s' h', fun σ' H' ⟨s', h', q1, q2, q3⟩ => ⟨xs.length - (i + 1), by omega, rfl, hlt, s', h', q1, q2, q3⟩, fun x H' y => ?_⟩
      obtain ⟨g3, d, hd, rd⟩ := jr.yld i H2 h2 x H' g2 hg2 hlt y
      have at3 := at2.step g3
      refine rg x d s2 σ2 H' _ _ rd at3.st (step i d s2 h2 hd i2) fun s3 z σ3 r3 => ?_
      have lN : LN X.K H' h2 (I (i + 1)) (fun σ' H' => ∃ s' h', At X.K B b s' h' σ' H' ∧ Go X.K H1 h1 H' h' ∧ I (i + 1) s' h') := fun s4 h4 z4 σ4 H4 g4 r4 => ⟨s4, h4, ⟨r4, at3.go.trans g4⟩, (g2.trans g3).trans g4, z4⟩
      have l2 := l.go (g1.trans (g2.trans g3))
      exact ⟨s3, h2, _, ⟨r3, at3.go⟩, z, ⟨lN, l2.rt, l2.nx, lN⟩⟩
    · have e : i = xs.length := by omega
      subst e
      exact .inl ⟨jr.stop H2 h2 g2 hg2, l.nx s2 h2 (fin s2 h2 i2) σ2 H2 (g1.trans g2) at2.st⟩
theorem lE_lc {K : PySem.W.Frag} {vs : List Nat} (og : OwnG K vs g g') {σ : L2.St} {H : Hp} {Q : VK} (z : lE K B b (dLc w g' tt te vs) σ H Q) :
    tLc (lI K B b w) g (lT K B b tt) (lE K B b te) vs σ H Q := by
  obtain ⟨s, h, q, at_, t, l⟩ := z
  refine ⟨s, h, _, at_, t, ?_⟩
  rintro xs G h1 ⟨I, i0, hG, step, fin⟩ J H1 g1 jr
  intro D hD
  have at1 := at_.step g1
  have hd1 : h1 D = none := at1.rep.fresh hD
  have gD : Go K H1 h1 (upd H1 D (.lst [])) h1 := Go.tmp at1.rep hD
  refine ⟨fun i m H2 => m = xs.length - i ∧ i ≤ xs.length ∧ ∃ acc ys h2, Go K H1 h1 H2 h2 ∧ h2 D = none ∧ H2 D = some (.lst ys) ∧ Reps K H2 ys acc ∧ I i acc h2, ⟨xs.length, by simp, Nat.zero_le _, [], [], h1, gD, hd1, upd_same, .nil, i0⟩, ?_⟩
  rintro i m H2 ⟨rfl, hi, acc, ys, h2, g2, hd2, e2, ra, i2⟩
  obtain ⟨hg2, hl2⟩ := hG i acc h2 hi i2
  by_cases hlt : i < xs.length
  · refine .inr ⟨jr.go i H2 h2 g2 hg2 hlt, fun H' => ∃ acc ys h', Go K H1 h1 H' h' ∧ h' D = none ∧ H' D = some (.lst ys) ∧ Reps K H' ys acc ∧ I (i + 1) acc h', fun H' ⟨a1, a2, a3, a4⟩ => ⟨xs.length - (i + 1), by omega, rfl, hlt, a1, a2, a3, a4⟩, fun x H' y => ?_⟩
    obtain ⟨g3, d, hd, rd⟩ := jr.yld i H2 h2 x H' g2 hg2 hlt y
    have atw : At K B b (wipeD s vs) h2 (L2.wipe σ vs) H' := ⟨((at_.st.mono ((g1.trans g2).trans g3).tle).wipe vs), at1.go.trans (g2.trans g3)⟩
    refine og x d (wipeD s vs) (L2.wipe σ vs) H' _ _ rd atw.st (step i d acc h2 hd i2) fun s3 z σ3 r3 ew => ?_
    refine ⟨ew.trans (wipe_wipe σ vs), s3, h2, _, ⟨r3, atw.go⟩, z, fun k h3 z3 H4 g4 => ?_⟩
    have ne : ∀ {o : HO}, some o ≠ (none : Option HO) := fun z => nomatch z
    have gg4 : Go K H2 h2 H4 h3 := g3.trans g4
    cases k with
    | true =>
      rw [if_pos rfl] at z3
      show (if true = true then _ else _)
      rw [if_pos rfl]
      refine ⟨s3, h3, _, ⟨r3.mono g4.tle, atw.go.trans g4⟩, z3, fun y h5 z5 vy H5 g5 r5 => ?_⟩
      have gg : Go K H2 h2 H5 h5 := gg4.trans g5
      have e5 : H5 D = some (.lst ys) := gg.kept D _ hd2 e2
      have hd5 : h5 D = none := gg.hid D hd2 (by rw [e2]; exact ne)
      have g15 := g2.trans gg
      refine ⟨ys, e5, by rw [ra.length]; exact accMax_lt hl2, acc ++ [y], ys ++ [vy], h5, g15.wr hD hd5 e5, hd5, upd_same, ?_, z5⟩
      have t5 : Tle K H5 (upd H5 D (.lst (ys ++ [vy]))) := tle_put e5 chg_lst
      exact ((ra.mono gg.tle).mono t5).append (.cons (r5.mono t5) .nil)
    | false =>
      rw [if_neg Bool.false_ne_true] at z3
      show (if false = true then _ else _)
      rw [if_neg Bool.false_ne_true]
      exact ⟨acc, ys, h3, g2.trans gg4, gg4.hid D hd2 (by rw [e2]; exact ne), gg4.kept D _ hd2 e2, ra.mono gg4.tle, z3⟩
  · have e : i = xs.length := by omega
    subst e
    exact .inl ⟨jr.stop H2 h2 g2 hg2, l _ _ (fin acc h2 i2 D hd2) _ H2 (g1.trans (g2.show hD e2 ra)) (.loc D)⟩
theorem de_lc {scope : Scope} {own : List (Str × Nat)} (hc : X.calm = true) (hN : X.N.Nodup) (hi : PI X tg iter (lI X.K B b w)) (ok : BlkOk X.N X.env.scope scope own) (og : OwnG X.K (own.map (·.2)) g g')
    (hg : ∀ (s : Shared) (H : Hp) (C : Addr) (cl : List (Str × Addr)) (fp : List Addr), PG (X.blk s H scope (compEnvC scope cl C X.env) fp) tg g) (ht : ∀ (s : Shared) (H : Hp) (C : Addr) (cl : List (Str × Addr)) (fp : List Addr), PTs (X.blk s H scope (compEnvC scope cl C X.env) fp) ifs (lT X.K B b tt))
    (he : ∀ (s : Shared) (H : Hp) (C : Addr) (cl : List (Str × Addr)) (fp : List Addr), PE (X.blk s H scope (compEnvC scope cl C X.env) fp) elt (lE X.K B b te)) (hs : ∀ x, foldedSetIterable iter X.env x = pure x := by intro _; rfl) :
    PE X (.ListComp elt [⟨tg, iter, ifs, 0⟩] scope pos) (lE X.K B b (dLc w g' tt te (own.map (·.2)))) :=
  pe_weak (pe_lc hc hN hi ok hg ht he hs) fun σ H Q z => lE_lc og z
theorem ds_setLc {i : Nat} {y : Str} {py spos : Pos} {scope : Scope} {own : List (Str × Nat)} (hc : X.calm = true) (hN : X.N.Nodup) (hy : X.N[i]? = some y) (hyl : X.env.scope.names.lookup y = some .local)
    (hsw : swapsWith (.ListComp elt [⟨tg, iter, ifs, 0⟩] scope pos) (some (.Name y py)) spos.line X.env = pure true) (hi : PI X tg iter (lI X.K B b w)) (ok : BlkOk X.N X.env.scope scope own) (og : OwnG X.K (own.map (·.2)) g g')
    (hg : ∀ (s : Shared) (H : Hp) (C : Addr) (cl : List (Str × Addr)) (fp : List Addr), PG (X.blk s H scope (compEnvC scope cl C X.env) fp) tg g) (ht : ∀ (s : Shared) (H : Hp) (C : Addr) (cl : List (Str × Addr)) (fp : List Addr), PTs (X.blk s H scope (compEnvC scope cl C X.env) fp) ifs (lT X.K B b tt))
    (he : ∀ (s : Shared) (H : Hp) (C : Addr) (cl : List (Str × Addr)) (fp : List Addr), PE (X.blk s H scope (compEnvC scope cl C X.env) fp) elt (lE X.K B b te)) (hs : ∀ x, foldedSetIterable iter X.env x = pure x := by intro _; rfl) :
    PS X (.Assign [.Name y py] (.ListComp elt [⟨tg, iter, ifs, 0⟩] scope pos) spos) (lS X.K B b (dAsg (dLc w g' tt te (own.map (·.2))) (pName i))) :=
  ps_weak (ps_setLc hc hN hy hyl hsw hi ok hg ht he hs) fun D σ H z => by
    obtain ⟨s, h, e, at_, t, l⟩ := z
    refine lE_lc og ⟨s, h, _, at_, t, fun d h1 z v H1 g1 r => ?_⟩
    exact l.nx _ h1 z _ H1 g1 ((at_.step g1).st.set r i)
theorem dts_nil : PTs X [] (lT X.K B b dYes) := pts_weak pts_nil fun σ H Q ⟨s, h, q, at_, t, l⟩ => l _ _ t H (Go.refl at_.rep)
theorem dts_one (h : PT X e (lT X.K B b tt)) : PTs X [e] (lT X.K B b tt) := pts_one h
end

/-! ### calls, raising, defs -/
def dCall (sp : DSp) (w : DWX) (ta : DTA) : DTE := fun s h q => ta s h fun ds h1 => sp ds h1 q fun cls d h2 => w cls d s h2
def dRaise (cls : Value) (w : DWX) : DTS := fun _ s h => w cls none s h
section
variable {X : Cx} {B : Hp} {b : DH} {e : Expr} {es : List Expr} {tas : DTA} {W : DWX} {sp : DSp} {k : Nat} {f : Addr} {fd : FuncData} {ps : List Str} {x : Str} {p pos : Pos}
theorem de_call (F : FnOk X.prog X.w X.K X.mg X.base (L2.CX X.prog X.w) k f fd ps (liftSp X.K sp)) (hr : Room k X.A) (hg : Gl X x) (hm : X.mg x = some (.ref f)) (hk : PySem.W.keepIn X.K (.ref f) = true) (hb : Binds X.K fd ps []) (tk : Takes X (lW X.K B b W))
    (ha : PA X (e :: es) (lA X.K B b tas)) (hdb : (x == ("__debug__" : Str)) = false := by decide) (he : starEach (e :: es) X.env = (false, eval e X.env) :: starEach es X.env := by rfl) (hpl : (backTo pos (starEach es X.env)).any (·.1) = false := by rfl) :
    PE X (.Call (.Name x p) (e :: es) [] pos) (lE X.K B b (dCall sp W tas)) :=
  pe_weak (pe_callS F hr hg hm hk hb (fun σ => passAt tk σ) ha hdb he hpl) fun σ H Q ⟨s, h, q, at_, t, l⟩ => ⟨s, h, _, at_, t, fun ds h1 z vs H1 g1 r1 =>
    ⟨ds, h1, q, _, r1, g1.rep, z, l.go g1, fun cls d h2 z2 H2 g2 => ⟨s, h2, at_.step (g1.trans g2), z2⟩⟩⟩
theorem ds_raise {cls : Value} {ex : Expr} (hc : X.calm = true) (tk : Takes X (lW X.K B b W)) (he : PMk X ex fun _ H Q => Q cls none H) : PS X (.Raise (some ex) none pos) (lS X.K B b (dRaise cls W)) :=
  ps_weak (ps_raise hc tk he) fun D σ H ⟨s, h, e, at_, t, l⟩ => ⟨s, h, at_, t⟩
theorem takes_none : Takes X (lW X.K B b fun _ _ _ _ => False) := fun _ _ x => by
  obtain ⟨_, _, _, _, _, _, _, _, _, _, _, _, _, _, _, _, z⟩ := x
  obtain ⟨_, _, _, z⟩ := z
  exact z.elim
end
def startD (N : List Str) (ds : List D) : DSt := ds.map some ++ List.replicate (N.length - ds.length) none
theorem rst_start {K : PySem.W.Frag} {H : Hp} {vs : List V} {ds : List D} (r : Reps K H vs ds) (N : List Str) : RSt K H (startD N ds) (L2.start N vs) := by
  have hl := r.length
  refine ⟨by unfold startD L2.start; simp [hl], fun i d e => ?_⟩
  unfold startD at e
  rw [List.getElem?_append] at e
  split at e
  · rename_i hi
    rw [List.getElem?_map] at e
    cases q : ds[i]? with
    | none => rw [q] at e; cases e
    | some d' =>
      rw [q] at e
      simp at e
      subst e
      obtain ⟨v, h1, h2⟩ := r.get q
      refine ⟨v, ?_, h2⟩
      unfold L2.start
      rw [List.getElem?_append, if_pos (by simpa [hl] using hi), List.getElem?_map, h1]
      rfl
  · rw [List.getElem?_replicate] at e
    split at e <;> cases e
/-- behind a def what it made for itself may be forgotten -/
def retQ (q : DK) : DK := fun d h => ∃ h2, Sub h2 h ∧ q d h2
def retX (x : DXK) : DXK := fun c d h => ∃ h2, Sub h2 h ∧ x c d h2
theorem okD {P : Program} {w : World} {K : PySem.W.Frag} {mg : Str → Option Value} {base : Heap} {x qual : Str} {st : Stmt} {f : Addr} {fd : FuncData} {N ps : List Str} {k : Nat} {sp : DSp} (F : Fun K x qual st f fd) (S : FnScope N ps (defScope st))
    (len : ∀ ds h q x, sp ds h q x → ds.length = ps.length)
    (hbody : ∀ (cdv : Value) (A : Around) (outer : List Env) (s : Shared) (H : Hp) (E : XK) (b : DH) (ds : List D) (q : DK) (xx : DXK), Room k (A.deeper (envOfC qual (defScope st) s.heap.objs.size f cdv)) →
      Takes (cxOf (L2.CX P w) P w K mg base N qual (defScope st) f cdv A outer s H E) (lW K H b fun c d _ h => retX xx c d h) → sp ds b q xx →
      ∃ t, PSs (cxOf (L2.CX P w) P w K mg base N qual (defScope st) f cdv A outer s H E) (defBody st) (lS K H b t) ∧ t { nx := fun _ h => retQ q .non h, rt := retQ q } (startD N ds) b) : FnOk P w K mg base (L2.CX P w) (k + 1) f fd ps (liftSp K sp) := by
  refine F.okX S (fun vs H Q E ⟨ds, h, q, x, r, _, z, _⟩ => by rw [r.length]; exact len ds h q x z) fun cdv A outer s H vs Q E hr ⟨ds, h, q, xx, r, rh, z, l, lx⟩ => ?_
  obtain ⟨t, h1, h2⟩ := hbody cdv A outer s H E h ds q xx hr ((takes_of rfl rfl rfl rfl).imp fun cls d σ H1 ⟨s1, h1, a1, h2, sb, w1⟩ => lx cls d h2 w1 H1 (a1.go.sub sb)) z
  refine ⟨_, h1, startD N ds, h, _, ⟨rst_start r N, Go.refl rh⟩, h2, ⟨fun s1 h1 ⟨h2, sb, z⟩ σ1 H1 g1 r1 => l _ h2 z _ H1 (g1.sub sb) .non, fun d h1 ⟨h2, sb, z⟩ v H1 g1 r1 => l _ h2 z _ H1 (g1.sub sb) r1, fun _ _ z => z.elim, fun _ _ z => z.elim⟩⟩
/-- a def that stands at the top, and its promise -/
structure Has (P : Program) (w : World) (K : PySem.W.Frag) (mg : Str → Option Value) (base : Heap) (x : Str) (k : Nat) (ps : List Str) (sp : DSp) : Prop where
  ex : ∃ f fd, mg x = some (.ref f) ∧ PySem.W.keepIn K (.ref f) = true ∧ Binds K fd ps [] ∧ FnOk P w K mg base (L2.CX P w) k f fd ps (liftSp K sp)
theorem de_callH {X : Cx} {B : Hp} {b : DH} {e : Expr} {es : List Expr} {tas : DTA} {W : DWX} {sp : DSp} {k : Nat} {ps : List Str} {x : Str} {p pos : Pos} (F : Has X.prog X.w X.K X.mg X.base x k ps sp) (hr : Room k X.A) (hg : Gl X x) (tk : Takes X (lW X.K B b W))
    (ha : PA X (e :: es) (lA X.K B b tas)) (hdb : (x == ("__debug__" : Str)) = false := by decide) (he : starEach (e :: es) X.env = (false, eval e X.env) :: starEach es X.env := by rfl) (hpl : (backTo pos (starEach es X.env)).any (·.1) = false := by rfl) :
    PE X (.Call (.Name x p) (e :: es) [] pos) (lE X.K B b (dCall sp W tas)) := by
  obtain ⟨f, fd, h1, h2, h3, h4⟩ := F.ex
  exact de_call h4 hr hg h1 h2 h3 tk ha hdb he hpl
end DL
set_option Elab.async false
set_option linter.all false
set_option maxRecDepth 100000
set_option maxHeartbeats 4000000
namespace DL
open PySem PySem.Spec PyProof.Rows L2

section
variable {K : PySem.W.Frag} {H : Hp} {h : DH} {a : Addr} {ds : List D}
theorem RHp.lst (r : RHp K H h) (e : h a = some (.lst ds)) : ∃ vs, H a = some (.lst vs) ∧ Reps K H vs ds := by
  obtain ⟨o, h1, h2⟩ := r a _ e
  cases o <;> first | exact h2.elim | exact ⟨_, h1, h2⟩
theorem RHp.dK {kds : List (Key × D)} (r : RHp K H h) (e : h a = some (.dK kds)) : ∃ kvs, H a = some (.dK kvs) ∧ RepKV K H kvs kds := by
  obtain ⟨o, h1, h2⟩ := r a _ e
  cases o <;> first | exact h2.elim | exact ⟨_, h1, h2⟩
theorem RHp.dT {kds : List (List Key × D)} (r : RHp K H h) (e : h a = some (.dT kds)) : ∃ kvs, H a = some (.dT kvs) ∧ RepKV K H kvs kds := by
  obtain ⟨o, h1, h2⟩ := r a _ e
  cases o <;> first | exact h2.elim | exact ⟨_, h1, h2⟩
end
/-! ### numbers -/
/-- ints in, under C -/
def dII (C : Int → Int → Prop) (g : Int → Int → D) : DR2 := fun x y h q => match x, y with
  | .int i, .int j => C i j ∧ q (g i j) h
  | _, _ => False
theorem refII {K : PySem.W.Frag} {C : Int → Int → Prop} {g : Int → Int → V} {g' : Int → Int → D} (hg : ∀ K H i j, Rep K H (g i j) (g' i j)) : RefOp K (rI C g) (dII C g') := fun x y d e H h q Q rx ry rh z l => by
  cases d with
  | int i =>
    cases e with
    | int j =>
      obtain ⟨c, z⟩ := (z : C i j ∧ q (g' i j) h)
      exact ⟨i, j, rx.int_inv, ry.int_inv, c, l _ _ z _ _ (Go.refl rh) (hg K H i j)⟩
    | _ => exact (z : False).elim
  | _ => exact (z : False).elim
def dI0 (g : Int → Int → D) : DR2 := fun x y h q => match x, y with
  | .int i, .int j => q (g i j) h
  | _, _ => False
theorem refI0 {K : PySem.W.Frag} {g : Int → Int → V} {g' : Int → Int → D} (hg : ∀ K H i j, Rep K H (g i j) (g' i j)) : RefOp K (rI0 g) (dI0 g') := fun x y d e H h q Q rx ry rh z l => by
  cases d with
  | int i =>
    cases e with
    | int j => exact ⟨i, j, rx.int_inv, ry.int_inv, l _ _ z _ _ (Go.refl rh) (hg K H i j)⟩
    | _ => exact (z : False).elim
  | _ => exact (z : False).elim
abbrev dSub : DR2 := dI0 fun i j => .int (i - j)
abbrev dFdiv : DR2 := dII CDiv fun i j => .int (i / j)
abbrev dMod : DR2 := dII (fun _ j => 0 < j) fun i j => .int (i % j)
abbrev dPow : DR2 := dII CPow fun i j => .int (i ^ j.toNat)
abbrev dShl : DR2 := dII CPow fun i j => .int (i * 2 ^ j.toNat)
abbrev dShr : DR2 := dII (fun _ j => 0 ≤ j) fun i j => .int (i / 2 ^ j.toNat)
abbrev dBand : DR2 := dI0 fun i j => .int (Builtin.bitAnd i j)
abbrev dBor : DR2 := dI0 fun i j => .int (Builtin.bitOr i j)
abbrev dBxor : DR2 := dI0 fun i j => .int (Builtin.bitXor i j)
abbrev dLt : DR2 := dI0 fun i j => .bl (decide (i < j))
abbrev dLe : DR2 := dI0 fun i j => .bl (decide (i ≤ j))
abbrev dGt : DR2 := dI0 fun i j => .bl (decide (j < i))
abbrev dGe : DR2 := dI0 fun i j => .bl (decide (j ≤ i))
/-- a + b of ints, texts, tuples, lists -/
def dAdd : DR2 := fun x y h q => match x, y with
  | .int i, .int j => q (.int (i + j)) h
  | .str i, .str j => i.length + j.length ≤ sizeLine ∧ q (.str (i ++ j)) h
  | .tup xs, .tup ys => xs.length + ys.length ≤ sizeLine ∧ q (.tup (xs ++ ys)) h
  | .loc a, .loc b => match h a, h b with
    | some (.lst xs), some (.lst ys) => xs.length + ys.length ≤ sizeLine ∧ ∀ p, h p = none → q (.loc p) (updD h p (.lst (xs ++ ys)))
    | _, _ => False
  | _, _ => False
def rAddU (K : PySem.W.Frag) : R2 := fun x y H Q => (rI0 (fun i j => .int (i + j)) x y H Q ∨ (∃ i j, x = .str i ∧ y = .str j ∧ i.length + j.length ≤ sizeLine ∧ Q (.str (i ++ j)) H)) ∨ (rCatA K x y H Q ∨ rCat x y H Q)
theorem op_addU {X : Cx} : OpR X (binaryOp .Add) (rAddU X.K) := (op_add.or op_add_str).or (op_catA.or op_cat)
theorem refAdd {K : PySem.W.Frag} : RefOp K (rAddU K) dAdd := fun x y d e H h q Q rx ry rh z l => by
  unfold dAdd at z
  split at z
  · exact .inl (.inl ⟨_, _, rx.int_inv, ry.int_inv, l _ _ z _ _ (Go.refl rh) (.int _)⟩)
  · exact .inl (.inr ⟨_, _, rx.str_inv, ry.str_inv, z.1, l _ _ z.2 _ _ (Go.refl rh) (.str _)⟩)
  · rename_i xs ys
    obtain ⟨a, vs, rfl, h1, h2⟩ := rx.tup_inv
    obtain ⟨b, ws, rfl, h3, h4⟩ := ry.tup_inv
    refine .inr (.inl ⟨a, b, vs, ws, rfl, rfl, SqT.of h1, SqT.of h3, by rw [h2.length, h4.length]; exact z.1, fun e => ?_, fun _ e => ?_, fun _ _ p hp => ?_⟩)
    · subst e; cases h2
      exact l _ _ z.2 _ _ (Go.refl rh) ry
    · subst e; cases h4
      rw [List.append_nil] at z
      exact l _ _ z.2 _ _ (Go.refl rh) rx
    · exact l _ _ z.2 _ _ (Go.tmp rh hp) (.tup upd_same ((h2.append h4).mono (tle_new hp)))
  · rename_i a b
    split at z
    · rename_i xs ys e1 e2
      obtain ⟨vs, h1, h2⟩ := rh.lst e1
      obtain ⟨ws, h3, h4⟩ := rh.lst e2
      rw [rx.loc_inv, ry.loc_inv]
      refine .inr (.inr ⟨a, b, vs, ws, rfl, rfl, h1, h3, by rw [h2.length, h4.length]; exact z.1, fun p hp => ?_⟩)
      exact l _ _ (z.2 p (rh.fresh hp)) _ _ (Go.new rh hp ((h2.append h4).mono (tle_new hp))) (.loc p)
    · exact z.elim
  · exact z.elim
/-- a * b of ints (one of them below 2^64), a list times an int -/
def dMul : DR2 := fun x y h q => match x, y with
  | .int i, .int j => CMul i j ∧ q (.int (i * j)) h
  | .loc a, .int k => match h a with
    | some (.lst xs) => -(2 ^ 63) ≤ k ∧ k < 2 ^ 63 ∧ xs.length * k.toNat ≤ sizeLine ∧ ∀ p, h p = none → q (.loc p) (updD h p (.lst (List.replicate k.toNat xs).flatten))
    | _ => False
  | _, _ => False
def rMulU : R2 := fun x y H Q => rI CMul (fun i j => .int (i * j)) x y H Q ∨ rRep x y H Q
theorem op_mulU {X : Cx} : OpR X (binaryOp .Mult) rMulU := op_mul.or op_rep
theorem refMul {K : PySem.W.Frag} : RefOp K rMulU dMul := fun x y d e H h q Q rx ry rh z l => by
  unfold dMul at z
  split at z
  · exact .inl ⟨_, _, rx.int_inv, ry.int_inv, z.1, l _ _ z.2 _ _ (Go.refl rh) (.int _)⟩
  · rename_i a k
    split at z
    · rename_i xs e1
      obtain ⟨vs, h1, h2⟩ := rh.lst e1
      rw [rx.loc_inv, ry.int_inv]
      refine .inr ⟨a, k, vs, rfl, rfl, h1, z.1, z.2.1, by rw [h2.length]; exact z.2.2.1, fun p hp => ?_⟩
      exact l _ _ (z.2.2.2 p (rh.fresh hp)) _ _ (Go.new rh hp (h2.rep.mono (tle_new hp))) (.loc p)
    · exact z.elim
  · exact z.elim
def dI1 (g : Int → D) : DR1 := fun x h q => match x with
  | .int i => q (g i) h
  | _ => False
theorem refI1 {K : PySem.W.Frag} {g : Int → V} {g' : Int → D} (hg : ∀ K H i, Rep K H (g i) (g' i)) : RefUn K (rU g) (dI1 g') := fun x d H h q Q rx rh z l => by
  cases d with
  | int i => exact ⟨i, rx.int_inv, l _ _ z _ _ (Go.refl rh) (hg K H i)⟩
  | _ => exact (z : False).elim
/-- == of scalars -/
def eqS : D → D → Option Bool
  | .int i, .int j => some (decide (i = j))
  | .str i, .str j => some (decide (i = j))
  | .bl i, .bl j => some (decide (i = j))
  | .non, .non => some true
  | .non, .int _ => some false | .int _, .non => some false | .non, .bl _ => some false | .bl _, .non => some false | .non, .str _ => some false | .str _, .non => some false
  | .int _, .str _ => some false | .str _, .int _ => some false | .bl _, .str _ => some false | .str _, .bl _ => some false
  | _, _ => none
def dEqS : DR2 := fun x y h q => match eqS x y with
  | some k => q (.bl k) h
  | none => False
def dNeS : DR2 := fun x y h q => match eqS x y with
  | some k => q (.bl (!k)) h
  | none => False
theorem eqS_ok {K : PySem.W.Frag} {H : Hp} {x y : V} {d e : D} {k : Bool} (rx : Rep K H x d) (ry : Rep K H y e) (z : eqS d e = some k) : scal x y = true ∧ decide (x = y) = k := by
  cases rx <;> cases ry <;> simp [eqS] at z <;> subst z <;> simp [scal]
theorem refEqS {K : PySem.W.Frag} : RefOp K rEq dEqS := fun x y d e H h q Q rx ry rh z l => by
  unfold dEqS at z
  split at z
  · rename_i k hk
    obtain ⟨h1, h2⟩ := eqS_ok rx ry hk
    exact ⟨h1, by rw [h2]; exact l _ _ z _ _ (Go.refl rh) (.bl _)⟩
  · exact z.elim
theorem refNeS {K : PySem.W.Frag} : RefOp K rNe dNeS := fun x y d e H h q Q rx ry rh z l => by
  unfold dNeS at z
  split at z
  · rename_i k hk
    obtain ⟨h1, h2⟩ := eqS_ok rx ry hk
    exact ⟨h1, by rw [h2]; exact l _ _ z _ _ (Go.refl rh) (.bl _)⟩
  · exact z.elim
/-- is None -/
def nonD : D → Option Bool
  | .non => some true
  | .opq _ => none
  | _ => some false
def dIsN : DR2 := fun x y h q => match y, nonD x with
  | .non, some k => q (.bl k) h
  | _, _ => False
def dNotN : DR2 := fun x y h q => match y, nonD x with
  | .non, some k => q (.bl (!k)) h
  | _, _ => False
theorem nonD_ok {K : PySem.W.Frag} {H : Hp} {x : V} {d : D} {k : Bool} (rx : Rep K H x d) (z : nonD d = some k) : decide (x = .non) = k := by
  cases rx <;> simp [nonD] at z <;> subst z <;> simp
theorem refIsN {K : PySem.W.Frag} : RefOp K (fun x y H Q => y = .non ∧ Q (.bl (decide (x = .non))) H) dIsN := fun x y d e H h q Q rx ry rh z l => by
  unfold dIsN at z
  split at z
  · rename_i k hk
    exact ⟨ry.non_inv, by rw [nonD_ok rx hk]; exact l _ _ z _ _ (Go.refl rh) (.bl _)⟩
  · exact z.elim
theorem refNotN {K : PySem.W.Frag} : RefOp K (fun x y H Q => y = .non ∧ Q (.bl (!decide (x = .non))) H) dNotN := fun x y d e H h q Q rx ry rh z l => by
  unfold dNotN at z
  split at z
  · rename_i k hk
    exact ⟨ry.non_inv, by rw [nonD_ok rx hk]; exact l _ _ z _ _ (Go.refl rh) (.bl _)⟩
  · exact z.elim

/-! ### keys, dicts, membership -/
def kD : Key → D
  | .inl i => .int i
  | .inr x => .str x
def keyD : D → Option Key
  | .int i => some (.inl i)
  | .str x => some (.inr x)
  | _ => none
def keysD : List D → Option (List Key)
  | [] => some []
  | d :: r => match keyD d, keysD r with
    | some k, some ks => some (k :: ks)
    | _, _ => none
theorem keyD_ok {K : PySem.W.Frag} {H : Hp} {v : V} {d : D} {k : Key} (r : Rep K H v d) (e : keyD d = some k) : v = kV k := by
  cases r <;> simp [keyD] at e <;> subst e <;> rfl
theorem keysD_ok {K : PySem.W.Frag} {H : Hp} : ∀ {vs : List V} {ds : List D} {ks : List Key}, Reps K H vs ds → keysD ds = some ks → vs = ks.map kV
  | _, _, _, .nil, e => by cases e; rfl
  | _, _, _, .cons r t, e => by
    unfold keysD at e
    split at e
    · rename_i k ks h1 h2
      cases e
      rw [keyD_ok r h1, keysD_ok t h2]; rfl
    · cases e
@[simp] theorem keysD_map : ∀ ks : List Key, keysD (ks.map kD) = some ks
  | [] => rfl
  | k :: r => by
    show (match keyD (kD k), keysD (r.map kD) with | some k, some ks => some (k :: ks) | _, _ => none) = _
    rw [keysD_map r]
    cases k <;> rfl
section
variable {κ : Type} [DecidableEq κ]
def valD (kvs : List (κ × D)) (k : κ) : Option D := (kvs.find? fun kv => decide (kv.1 = k)).map (·.2)
def putD (kvs : List (κ × D)) (k : κ) (v : D) : List (κ × D) :=
  if (kvs.any fun kv => decide (kv.1 = k)) = true then kvs.map (fun kv => if kv.1 = k then (kv.1, v) else kv) else kvs ++ [(k, v)]
def dropD (kvs : List (κ × D)) (k : κ) : List (κ × D) := kvs.filter fun kv => decide (kv.1 ≠ k)
theorem repKV_val {K : PySem.W.Frag} {H : Hp} {k : κ} : ∀ {kvs : List (κ × V)} {kds : List (κ × D)}, RepKV K H kvs kds → (valD kds k = none ∧ valV kvs k = none) ∨ ∃ v d, valD kds k = some d ∧ valV kvs k = some v ∧ Rep K H v d
  | _, _, .nil => .inl ⟨rfl, rfl⟩
  | (k1, v1) :: kvs, (k2, d2) :: kds, .cons r t => by
    obtain ⟨e, r⟩ := r
    have e : k1 = k2 := e
    subst e
    have ih := repKV_val (k := k) t
    unfold valD valV at ih ⊢
    by_cases q : k1 = k
    · refine .inr ⟨v1, d2, ?_, ?_, r⟩ <;> simp [q]
    · simp only [List.find?_cons, decide_eq_false q]
      exact ih
theorem repKV_any {K : PySem.W.Frag} {H : Hp} {k : κ} : ∀ {kvs : List (κ × V)} {kds : List (κ × D)}, RepKV K H kvs kds → (kvs.any fun kv => decide (kv.1 = k)) = (kds.any fun kv => decide (kv.1 = k))
  | _, _, .nil => rfl
  | _, _, .cons r t => by rw [List.any_cons, List.any_cons, repKV_any t, r.1]
theorem repKV_append {K : PySem.W.Frag} {H : Hp} : ∀ {a c : List (κ × V)} {b d : List (κ × D)}, RepKV K H a b → RepKV K H c d → RepKV K H (a ++ c) (b ++ d)
  | _, _, _, _, .nil, q => q
  | _, _, _, _, .cons r t, q => .cons r (repKV_append t q)
theorem repKV_map {K : PySem.W.Frag} {H : Hp} {k : κ} {v : V} {d : D} (r : Rep K H v d) : ∀ {a : List (κ × V)} {b : List (κ × D)}, RepKV K H a b →
    RepKV K H (a.map (fun kv => if kv.1 = k then (kv.1, v) else kv)) (b.map (fun kv => if kv.1 = k then (kv.1, d) else kv))
  | _, _, .nil => .nil
  | (k1, v1) :: _, (k2, d2) :: _, .cons q t => by
    refine .cons ?_ (repKV_map r t)
    obtain ⟨e, q⟩ := q
    have e : k1 = k2 := e
    subst e
    show (if k1 = k then (k1, v) else (k1, v1)).1 = (if k1 = k then (k1, d) else (k1, d2)).1 ∧ Rep K H (if k1 = k then (k1, v) else (k1, v1)).2 (if k1 = k then (k1, d) else (k1, d2)).2
    by_cases z : k1 = k
    · rw [if_pos z, if_pos z]; exact ⟨rfl, r⟩
    · rw [if_neg z, if_neg z]; exact ⟨rfl, q⟩
theorem repKV_put {K : PySem.W.Frag} {H : Hp} {k : κ} {v : V} {d : D} {a : List (κ × V)} {b : List (κ × D)} (q : RepKV K H a b) (r : Rep K H v d) : RepKV K H (putK a k v) (putD b k d) := by
  unfold putK putD
  rw [repKV_any q]
  split
  · exact repKV_map r q
  · exact repKV_append q (.cons ⟨rfl, r⟩ .nil)
theorem repKV_drop {K : PySem.W.Frag} {H : Hp} {k : κ} : ∀ {a : List (κ × V)} {b : List (κ × D)}, RepKV K H a b → RepKV K H (dropK a k) (dropD b k)
  | _, _, .nil => .nil
  | (k1, v1) :: _, (k2, d2) :: _, .cons q t => by
    obtain ⟨e, q⟩ := q
    have e : k1 = k2 := e
    subst e
    have ih := repKV_drop (k := k) t
    unfold dropK dropD at ih ⊢
    rw [List.filter_cons, List.filter_cons]
    show RepKV K H (if decide (k1 ≠ k) = true then _ else _) (if decide (k1 ≠ k) = true then _ else _)
    split
    · exact .cons ⟨rfl, q⟩ ih
    · exact ih
theorem repKV_length {K : PySem.W.Frag} {H : Hp} {a : List (κ × V)} {b : List (κ × D)} (q : RepKV K H a b) : a.length = b.length := Paired.length q
end
/-- what the dict at a holds at the key y: k gets it -/
def getD (h : DH) (a : Addr) (y : D) (k : Option D → Prop) : Prop := match h a with
  | some (.dK kds) => match keyD y with
    | some x => k (valD kds x)
    | none => False
  | some (.dT kds) => match y with
    | .tup ys => match keysD ys with
      | some x => k (valD kds x)
      | none => False
    | _ => False
  | _ => False
theorem getD_ok {K : PySem.W.Frag} {H : Hp} {h : DH} {a : Addr} {v : V} {y : D} {k : Option D → Prop} (rh : RHp K H h) (r : Rep K H v y) (z : getD h a y k) :
    ∃ o d, DGet H a v o ∧ k d ∧ ((o = none ∧ d = none) ∨ ∃ w e, o = some w ∧ d = some e ∧ Rep K H w e) := by
  unfold getD at z
  split at z
  · rename_i kds e
    obtain ⟨kvs, h1, h2⟩ := rh.dK e
    split at z
    · rename_i x hx
      refine ⟨_, _, .inl ⟨kvs, x, Rd.of h1, keyD_ok r hx, rfl⟩, z, ?_⟩
      rcases repKV_val (k := x) h2 with ⟨q1, q2⟩ | ⟨w, e, q1, q2, q3⟩
      · exact .inl ⟨q2, q1⟩
      · exact .inr ⟨w, e, q2, q1, q3⟩
    · exact z.elim
  · rename_i kds e
    obtain ⟨kvs, h1, h2⟩ := rh.dT e
    split at z
    · rename_i ys
      split at z
      · rename_i x hx
        obtain ⟨b, vs, rfl, h3, h4⟩ := r.tup_inv
        rw [keysD_ok h4 hx] at h3
        refine ⟨_, _, .inr ⟨kvs, x, b, Rd.of h1, rfl, h3, rfl⟩, z, ?_⟩
        rcases repKV_val (k := x) h2 with ⟨q1, q2⟩ | ⟨w, e, q1, q2, q3⟩
        · exact .inl ⟨q2, q1⟩
        · exact .inr ⟨w, e, q2, q1, q3⟩
      · exact z.elim
    · exact z.elim
  · exact z.elim
/-- flat items -/
def flatD : D → Bool
  | .non => true
  | .bl _ => true
  | .int _ => true
  | .str _ => true
  | _ => false
def eqF : D → D → Bool
  | .non, .non => true
  | .bl a, .bl b => a == b
  | .bl a, .int b => (if a then 1 else 0) == b
  | .int a, .bl b => a == (if b then 1 else 0)
  | .int a, .int b => a == b
  | .str a, .str b => a == b
  | _, _ => false
def inD (x : D) (xs : List D) : Bool := xs.any fun y => eqF y x
theorem flatD_ok {K : PySem.W.Frag} {H : Hp} {v : V} {d : D} (r : Rep K H v d) (e : flatD d = true) : flatV v = true := by
  cases r <;> first | rfl | simp [flatD] at e
theorem eqF_ok {K : PySem.W.Frag} {H : Hp} {v w : V} {d e : D} (r : Rep K H v d) (r' : Rep K H w e) (h1 : flatD d = true) (h2 : flatD e = true) : eqV v w = eqF d e := by
  cases r <;> cases r' <;> first | rfl | simp [flatD] at h1 h2
theorem flats_ok {K : PySem.W.Frag} {H : Hp} : ∀ {vs : List V} {ds : List D}, Reps K H vs ds → ds.all flatD = true → vs.all flatV = true
  | _, _, .nil, _ => rfl
  | _, _, .cons r t, e => by
    rw [List.all_cons, Bool.and_eq_true] at e ⊢
    exact ⟨flatD_ok r e.1, flats_ok t e.2⟩
theorem inD_ok {K : PySem.W.Frag} {H : Hp} {v : V} {d : D} (r : Rep K H v d) (h1 : flatD d = true) : ∀ {vs : List V} {ds : List D}, Reps K H vs ds → ds.all flatD = true → inV v vs = inD d ds
  | _, _, .nil, _ => rfl
  | _, _, .cons q t, e => by
    rw [List.all_cons, Bool.and_eq_true] at e
    have ih := inD_ok r h1 t e.2
    unfold inV inD at ih ⊢
    rw [List.any_cons, List.any_cons, ih, eqF_ok q r e.1 h1]
/-- x in c: c a list or tuple of flat items, a dict -/
def dIn (neg : Bool) : DR2 := fun x c h q => match c with
  | .tup ds => flatD x = true ∧ ds.all flatD = true ∧ q (.bl (if neg then !inD x ds else inD x ds)) h
  | .loc a => match h a with
    | some (.lst ds) => flatD x = true ∧ ds.all flatD = true ∧ q (.bl (if neg then !inD x ds else inD x ds)) h
    | _ => getD h a x fun o => q (.bl (if neg then !o.isSome else o.isSome)) h
  | _ => False
def rDIn (neg : Bool) : R2 := fun y x H Q => ∃ a o, x = .ref a ∧ DGet H a y o ∧ Q (.bl (if neg then !o.isSome else o.isSome)) H
def rInU (K : PySem.W.Frag) (neg : Bool) : R2 := fun x y H Q => rIn K neg x y H Q ∨ rDIn neg x y H Q
theorem op_dIn {X : Cx} (hu : X.A.units + 1 < cLine) : OpR X (compareOp .In) (rDIn false) := by
  intro pins s σ H x y v u Q I rx ry h
  obtain ⟨a, o, rfl, g, q⟩ := h
  obtain rfl : u = Value.ref a := ry
  exact d_in hu I g rx fun s3 I3 => ⟨.bl o.isSome, H, I3, rfl, q⟩
theorem op_dNotIn {X : Cx} (hu : X.A.units + 1 < cLine) : OpR X (compareOp .NotIn) (rDIn true) := by
  intro pins s σ H x y v u Q I rx ry h
  obtain ⟨a, o, rfl, g, q⟩ := h
  obtain rfl : u = Value.ref a := ry
  exact d_notIn hu I g rx fun s3 I3 => ⟨.bl (!o.isSome), H, I3, rfl, q⟩
theorem op_inU {X : Cx} (hu : X.A.units + 1 < cLine) : OpR X (compareOp .In) (rInU X.K false) := op_in_seq.or (op_dIn hu)
theorem op_notInU {X : Cx} (hu : X.A.units + 1 < cLine) : OpR X (compareOp .NotIn) (rInU X.K true) := op_notIn_seq.or (op_dNotIn hu)
theorem refIn {K : PySem.W.Frag} {neg : Bool} : RefOp K (rInU K neg) (dIn neg) := fun x y d e H h q Q rx ry rh z l => by
  have fin : ∀ {p : Addr} {vs : List V} {ds : List D}, (SqL K H p vs ∨ SqT K H p vs) → Reps K H vs ds → y = .ref p → flatD d = true → ds.all flatD = true → q (.bl (if neg then !inD d ds else inD d ds)) h → rIn K neg x y H Q := fun {p vs ds} h1 h2 e f1 f2 z =>
    ⟨p, vs, e, h1, flatD_ok rx f1, flats_ok h2 f2, by rw [inD_ok rx f1 h2 f2]; exact l _ _ z _ _ (Go.refl rh) (.bl _)⟩
  have fin2 : ∀ {p : Addr}, y = .ref p → getD h p d (fun o => q (.bl (if neg then !o.isSome else o.isSome)) h) → rDIn neg x y H Q := fun {p} e z => by
    obtain ⟨o, d', h1, h2, h3⟩ := getD_ok rh rx z
    refine ⟨p, o, e, h1, ?_⟩
    have e1 : o.isSome = d'.isSome := by
      rcases h3 with ⟨e1, e2⟩ | ⟨w, e', e1, e2, _⟩ <;> (rw [e1, e2] <;> rfl)
    rw [e1]
    exact l _ _ h2 _ _ (Go.refl rh) (.bl _)
  unfold dIn at z
  split at z
  · obtain ⟨p, vs, e, h1, h2⟩ := ry.tup_inv
    exact .inl (fin (.inr (SqT.of h1)) h2 e z.1 z.2.1 z.2.2)
  · rename_i p
    split at z
    · rename_i ds e1
      obtain ⟨vs, h1, h2⟩ := rh.lst e1
      exact .inl (fin (.inl (SqL.of h1)) h2 ry.loc_inv z.1 z.2.1 z.2.2)
    · exact .inr (fin2 ry.loc_inv z)
  · exact z.elim

/-! ### subscripts -/
/-- x[i]: a tuple, a list, a text, a dict -/
def dIx : DR2 := fun x i h q => match x with
  | .tup ds => match i with
    | .int k => match atI ds k with
      | some d => q d h
      | none => False
    | _ => False
  | .str z => match i with
    | .int k => match atI z.cps.toList k with
      | some c => z.length ≤ sizeLine ∧ q (.str ⟨#[c]⟩) h
      | none => False
    | _ => False
  | .loc a => match h a with
    | some (.lst ds) => match i with
      | .int k => match atI ds k with
        | some d => q d h
        | none => False
      | _ => False
    | _ => getD h a i fun o => match o with
      | some d => q d h
      | none => False
  | _ => False
theorem reps_atI {K : PySem.W.Frag} {H : Hp} {vs : List V} {ds : List D} {k : Int} {d : D} (r : Reps K H vs ds) (e : atI ds k = some d) : ∃ v, atI vs k = some v ∧ Rep K H v d := by
  unfold atI at e ⊢
  rw [r.length]
  cases q : ixN ds.length k with
  | none => rw [q] at e; cases e
  | some j => rw [q] at e; exact r.get e
def rIxD : R2 := fun x y H Q => ∃ a v, x = .ref a ∧ DGet H a y (some v) ∧ Q v H
def rIxU (K : PySem.W.Frag) : R2 := fun x y H Q => rIx K x y H Q ∨ rIxD x y H Q
theorem ix_dict {X : Cx} (hu : X.A.units + 1 < cLine) : IxR X rIxD := by
  intro value slice pins s σ H x y v u Q I rx ry h hs
  obtain ⟨a, w, rfl, g, q⟩ := h
  obtain rfl : v = Value.ref a := rx
  exact PyProof.Rows.tail_any (dict_typeIs I g) PySem.F.slot_dict_getitem.lookup (d_getItem hu I g ry fun w' s3 I3 rw' => ⟨w, H, I3, rw', q⟩) hs
theorem ix_u {X : Cx} (hu : X.A.units + 1 < cLine) : IxR X (rIxU X.K) := ix_seq.or (ix_dict hu)
theorem refIx {K : PySem.W.Frag} : RefOp K (rIxU K) dIx := fun x y d e H h q Q rx ry rh z l => by
  unfold dIx at z
  split at z
  · obtain ⟨p, vs, rfl, h1, h2⟩ := rx.tup_inv
    split at z
    · split at z
      · rename_i k _ d hk
        obtain ⟨v, h3, h4⟩ := reps_atI h2 hk
        exact .inl (.inr (.inl ⟨p, vs, k, v, rfl, ry.int_inv, SqT.of h1, h3, l _ _ z _ _ (Go.refl rh) h4⟩))
      · exact z.elim
    · exact z.elim
  · split at z
    · split at z
      · rename_i k _ c hk
        exact .inl (.inr (.inr ⟨_, k, c, rx.str_inv, ry.int_inv, z.1, hk, l _ _ z.2 _ _ (Go.refl rh) (.str _)⟩))
      · exact z.elim
    · exact z.elim
  · rename_i p
    split at z
    · rename_i ds e1
      obtain ⟨vs, h1, h2⟩ := rh.lst e1
      split at z
      · split at z
        · rename_i k _ d hk
          obtain ⟨v, h3, h4⟩ := reps_atI h2 hk
          exact .inl (.inl ⟨p, vs, k, v, rx.loc_inv, ry.int_inv, SqL.of h1, h3, l _ _ z _ _ (Go.refl rh) h4⟩)
        · exact z.elim
      · exact z.elim
    · obtain ⟨o, d', h1, h2, h3⟩ := getD_ok rh ry z
      rcases h3 with ⟨e1, e2⟩ | ⟨w, e', e1, e2, r⟩
      · subst e2; exact h2.elim
      · subst e1 e2
        exact .inr ⟨p, w, rx.loc_inv, h1, l _ _ h2 _ _ (Go.refl rh) r⟩
  · exact z.elim
/-- x[i] = v: a list, a dict -/
def dPut : DR3 := fun x i v h q => match x with
  | .loc a => match h a with
    | some (.lst ds) => match i with
      | .int k => match ixN ds.length k with
        | some j => q (updD h a (.lst (ds.set j v)))
        | none => False
      | _ => False
    | some (.dK kds) => match keyD i with
      | some k => kds.length < sizeLine ∧ q (updD h a (.dK (putD kds k v)))
      | none => False
    | some (.dT kds) => match i with
      | .tup ys => match keysD ys with
        | some k => kds.length < sizeLine ∧ q (updD h a (.dT (putD kds k v)))
        | none => False
      | _ => False
    | _ => False
  | _ => False
def rPutU : TSet := fun o i v H Q => rSetL o i v H Q ∨ ∃ a H4, o = .ref a ∧ DPut H a i v H4 ∧ Q H4
theorem set_u {X : Cx} (hu : X.A.units + 1 < cLine) : PSet X rPutU := by
  intro pins s σ H o i v ov iv u Q I ro ri rv h
  rcases h with h | ⟨a, H4, rfl, g, q⟩
  · exact set_list pins s σ H o i v ov iv u Q I ro ri rv h
  · obtain rfl : ov = Value.ref a := ro
    exact d_setItem hu I g ri rv fun s4 I4 => ⟨H4, I4, q⟩
theorem refPut {K : PySem.W.Frag} : RefSet K rPutU dPut := fun o i v od id d H h q Q ro ri rv rh z k => by
  unfold dPut at z
  split at z
  · rename_i a
    rw [ro.loc_inv]
    split at z
    · rename_i ds e1
      obtain ⟨vs, h1, h2⟩ := rh.lst e1
      split at z
      · split at z
        · rename_i n _ j hj
          refine .inl ⟨a, vs, n, j, rfl, ri.int_inv, h1, by rw [h2.length]; exact hj, k _ z _ (Go.put rh e1 ?_)⟩
          have t : Tle K H (upd H a (.lst (vs.set j v))) := tle_put h1 chg_lst
          exact (h2.mono t).set (rv.mono t) j
        · exact z.elim
      · exact z.elim
    · rename_i kds e1
      obtain ⟨kvs, h1, h2⟩ := rh.dK e1
      split at z
      · rename_i x hx
        refine .inr ⟨a, _, rfl, .inl ⟨kvs, x, h1, keyD_ok ri hx, by rw [repKV_length h2]; exact z.1, rfl⟩, k _ z.2 _ (Go.put rh e1 ?_)⟩
        have t : Tle K H (upd H a (.dK (putK kvs x v))) := tle_put h1 chg_dK
        exact repKV_put (h2.mono t) (rv.mono t)
      · exact z.elim
    · rename_i kds e1
      obtain ⟨kvs, h1, h2⟩ := rh.dT e1
      split at z
      · split at z
        · rename_i ys x hx
          obtain ⟨b, vs, rfl, h3, h4⟩ := ri.tup_inv
          rw [keysD_ok h4 hx] at h3
          refine .inr ⟨a, _, rfl, .inr ⟨kvs, x, b, h1, rfl, h3, by rw [repKV_length h2]; exact z.1, rfl⟩, k _ z.2 _ (Go.put rh e1 ?_)⟩
          have t : Tle K H (upd H a (.dT (putK kvs x v))) := tle_put h1 chg_dT
          exact repKV_put (h2.mono t) (rv.mono t)
        · exact z.elim
      · exact z.elim
    · exact z.elim
  · exact z.elim
/-! ### slices -/
abbrev DTO := DSt → DH → (Option Int → DH → Prop) → Prop
def dNoPart : DTO := fun _ h q => q none h
def dPart (t : DTE) : DTO := fun s h q => t s h fun d h1 => match d with
  | .int i => q (some i) h1
  | _ => False
def lO (K : PySem.W.Frag) (B : Hp) (b : DH) (t : DTO) : TO := fun σ H Q => ∃ s h q, At K B b s h σ H ∧ t s h q ∧ ∀ o h1, q o h1 → ∀ H1, Go K H h H1 h1 → Q o H1
def cutD (xs : List D) (lo hi : Option Int) : List D := (xs.drop (HT.sIx xs.length 0 lo)).take (HT.sIx xs.length xs.length hi - HT.sIx xs.length 0 lo)
theorem reps_cut {K : PySem.W.Frag} {H : Hp} {vs : List V} {ds : List D} (r : Reps K H vs ds) (lo hi : Option Int) : Reps K H (cutV vs lo hi) (cutD ds lo hi) := by
  unfold cutV cutD
  rw [r.length]
  exact (r.drop _).take _
def dCut (x : D) (lo hi : Option Int) (h : DH) (q : DK) : Prop := match x with
  | .tup ds => q (.tup (cutD ds lo hi)) h
  | .str z => z.length ≤ sizeLine ∧ q (.str (cutS z lo hi)) h
  | .loc a => match h a with
    | some (.lst ds) => ∀ p, h p = none → q (.loc p) (updD h p (.lst (cutD ds lo hi)))
    | _ => False
  | _ => False
def dSl (t : DTE) (tl th : DTO) : DTE := fun s h q => t s h fun x h1 => tl s h1 fun lo h2 => th s h2 fun hi h3 => dCut x lo hi h3 q
def rSlU (K : PySem.W.Frag) : V → Option Int → Option Int → Hp → VK → Prop := fun x lo hi H Q => rSlA K x lo hi H Q ∨ (rSlS x lo hi H Q ∨ rSlL K x lo hi H Q)
theorem sl_u {X : Cx} : SlR X (rSlU X.K) := sl_tupA.or (sl_str.or sl_list)
theorem sIx_whole {ds : List D} {lo hi : Option Int} (e : HT.sIx ds.length 0 lo = 0 ∧ HT.sIx ds.length ds.length hi = ds.length) : cutD ds lo hi = ds := by
  unfold cutD
  rw [e.1, e.2]
  simp
theorem refCut {K : PySem.W.Frag} {x : V} {d : D} {H : Hp} {h : DH} {q : DK} {Q : VK} {lo hi : Option Int} (rx : Rep K H x d) (rh : RHp K H h) (z : dCut d lo hi h q) (l : LK K H h q Q) : rSlU K x lo hi H Q := by
  unfold dCut at z
  split at z
  · rename_i ds
    obtain ⟨p, vs, rfl, h1, h2⟩ := rx.tup_inv
    refine .inl ⟨p, vs, rfl, SqT.of h1, fun e => ?_, fun e p hp => ?_⟩
    · rw [h2.length] at e
      rw [sIx_whole e] at z
      exact l _ _ z _ _ (Go.refl rh) rx
    · exact l _ _ z _ _ (Go.tmp rh hp) (.tup upd_same ((reps_cut h2 lo hi).mono (tle_new hp)))
  · exact .inr (.inl ⟨_, rx.str_inv, z.1, l _ _ z.2 _ _ (Go.refl rh) (.str _)⟩)
  · rename_i a
    split at z
    · rename_i ds e1
      obtain ⟨vs, h1, h2⟩ := rh.lst e1
      refine .inr (.inr ⟨a, vs, rx.loc_inv, SqL.of h1, fun p hp => ?_⟩)
      exact l _ _ (z p (rh.fresh hp)) _ _ (Go.new rh hp ((reps_cut h2 lo hi).mono (tle_new hp))) (.loc p)
    · exact z.elim
  · exact z.elim
/-- xs[::-1] -/
def dRev (t : DTE) : DTE := fun s h q => t s h fun x h1 => match x with
  | .loc a => match h1 a with
    | some (.lst ds) => ∀ p, h1 p = none → q (.loc p) (updD h1 p (.lst ds.reverse))
    | _ => False
  | _ => False
/-! ### displays -/
def dTup (t : DTA) : DTE := fun s h q => t s h fun xs h1 => xs.length ≤ sizeLine ∧ q (.tup xs) h1
def dLst (t : DTA) : DTE := fun s h q => t s h fun xs h1 => xs.length ≤ sizeLine ∧ ∀ p, h1 p = none → q (.loc p) (updD h1 p (.lst xs))
def dNewK : DTE := fun _ h q => ∀ p, h p = none → q (.loc p) (updD h p (.dK []))
def dNewT : DTE := fun _ h q => ∀ p, h p = none → q (.loc p) (updD h p (.dT []))
section
variable {X : Cx} {B : Hp} {b : DH} {e a c o i : Expr} {lo hi : Option Expr} {es : List Expr} {ta tb tc : DTE} {tl th : DTO} {tas : DTA} {pos p p2 : Pos}
theorem de_ix (hu : X.A.units + 1 < cLine) (ha : PE X a (lE X.K B b ta)) (hb : PE X c (lE X.K B b tb)) (hs : PlainIx c) : PE X (.Subscript a c pos) (lE X.K B b (dOp dIx ta tb)) :=
  pe_weak (pe_ix (ix_u hu) ha hb hs) fun _ _ _ z => lE_op refIx z
theorem do_none : PO X none (lO X.K B b dNoPart) := ⟨fun pins s σ H Q I ⟨s1, h, q, at_, t, l⟩ => po_none.run pins s σ H Q I (l none h t H (Go.refl at_.rep))⟩
theorem do_some (h : PE X e (lE X.K B b ta)) : PO X (some e) (lO X.K B b (dPart ta)) := ⟨fun pins s σ H Q I ⟨s1, h1, q, at_, t, l⟩ => (po_some h).run pins s σ H Q I ⟨s1, h1, _, at_, t, fun d h2 z v H1 g r => by
  cases d with
  | int i => exact ⟨i, r.int_inv, l _ _ z _ g⟩
  | _ => exact (z : False).elim⟩⟩
theorem de_slice (he : PE X e (lE X.K B b ta)) (hl : PO X lo (lO X.K B b tl)) (hu : PO X hi (lO X.K B b th)) : PE X (.Subscript e (.Slice lo hi none p2) pos) (lE X.K B b (dSl ta tl th)) :=
  pe_weak (pe_slice sl_u he hl hu) fun σ H Q ⟨s, h, q, at_, t, l⟩ => ⟨s, h, _, at_, t, fun d h1 z v H1 g1 r => ⟨s, h1, _, at_.step g1, z, fun lo h2 z2 H2 g2 => ⟨s, h2, _, at_.step (g1.trans g2), z2, fun hi h3 z3 H3 g3 =>
    refCut (r.mono (g2.trans g3).tle) g3.rep z3 (l.go (g1.trans (g2.trans g3)))⟩⟩⟩
theorem de_rev {k : Nat} {p1 p2 p3 : Pos} (he : PE X e (lE X.K B b ta)) : PE X (.Subscript e (.Slice none none (some (.UnaryOp .USub (.Constant (.int 1) k p1) p2)) p3) pos) (lE X.K B b (dRev ta)) :=
  pe_weak (pe_revL he) fun σ H Q ⟨s, h, q, at_, t, l⟩ => ⟨s, h, _, at_, t, fun d h1 z v H1 g r => by
    cases d with
    | loc a =>
      have z : (match h1 a with | some (.lst ds) => _ | _ => _) := z
      split at z
      · rename_i ds e1
        obtain ⟨vs, h2, h3⟩ := g.rep.lst e1
        refine ⟨a, vs, r.loc_inv, SqL.of h2, fun p hp => ?_⟩
        exact l _ _ (z p (g.rep.fresh hp)) _ _ (g.trans (Go.new g.rep hp (h3.reverse.mono (tle_new hp)))) (.loc p)
      · exact z.elim
    | _ => exact (z : False).elim⟩
theorem de_tup {x1} (h : PA X es (lA X.K B b tas)) : PE X (.Tuple es x1 pos) (lE X.K B b (dTup tas)) := pe_weak (pe_tup h) fun σ H Q ⟨s, h, q, at_, t, l⟩ => ⟨s, h, _, at_, t, fun ds h1 z vs H1 g r =>
  ⟨by rw [r.length]; exact z.1, fun p hp => l _ _ z.2 _ _ (g.trans (Go.tmp g.rep hp)) (.tup upd_same (r.mono (tle_new hp)))⟩⟩
theorem de_lst (h : PA X es (lA X.K B b tas)) : PE X (.List es pos) (lE X.K B b (dLst tas)) := pe_weak (pe_lst h) fun σ H Q ⟨s, h, q, at_, t, l⟩ => ⟨s, h, _, at_, t, fun ds h1 z vs H1 g r =>
  ⟨by rw [r.length]; exact z.1, fun p hp => l _ _ (z.2 p (g.rep.fresh hp)) _ _ (g.trans (Go.new g.rep hp (r.mono (tle_new hp)))) (.loc p)⟩⟩
theorem de_newK : PE X (.Dict [] [] pos) (lE X.K B b dNewK) := pe_weak pe_dnewK fun σ H Q ⟨s, h, q, at_, t, l⟩ => fun p hp => l _ _ (t p (at_.rep.fresh hp)) _ _ (Go.new at_.rep hp .nil) (.loc p)
theorem de_newT : PE X (.Dict [] [] pos) (lE X.K B b dNewT) := pe_weak pe_dnewT fun σ H Q ⟨s, h, q, at_, t, l⟩ => fun p hp => l _ _ (t p (at_.rep.fresh hp)) _ _ (Go.new at_.rep hp .nil) (.loc p)
end
end DL
set_option Elab.async false
set_option linter.all false
set_option maxRecDepth 100000
set_option maxHeartbeats 4000000
namespace DL
open PySem PySem.Spec PyProof.Rows L2
abbrev RCV := List V → Hp → VK → Prop

/-! ### built-ins by name -/
def lenD (d : D) (h : DH) : Option Nat := match d with
  | .str z => if z.length ≤ sizeLine then some z.length else none
  | .tup ds => some ds.length
  | .loc a => match h a with
    | some (.lst ds) => some ds.length
    | some (.dK kds) => some kds.length
    | _ => none
  | _ => none
def dLen : DRC := fun xs h q => match xs with
  | [d] => match lenD d h with
    | some n => q (.int (n : Nat)) h
    | none => False
  | _ => False
def rLenU (K : PySem.W.Frag) : RCV := fun xs H Q => (∃ x n, xs = [x] ∧ LenV K x H n ∧ Q (.int n) H) ∨ ∃ a kvs, xs = [V.ref a] ∧ H a = some (.dK kvs) ∧ Q (.int kvs.length) H
theorem call_lenU {X : Cx} : CallR X (.builtin "len") (rLenU X.K) := call_len.or call_lenD
theorem reps_one {K : PySem.W.Frag} {H : Hp} {vs : List V} {d : D} (r : Reps K H vs [d]) : ∃ v, vs = [v] ∧ Rep K H v d := by
  cases r with
  | cons a b => cases b; exact ⟨_, rfl, a⟩
theorem reps_two {K : PySem.W.Frag} {H : Hp} {vs : List V} {d e : D} (r : Reps K H vs [d, e]) : ∃ v w, vs = [v, w] ∧ Rep K H v d ∧ Rep K H w e := by
  cases r with
  | cons a b =>
    obtain ⟨w, rfl, c⟩ := reps_one b
    exact ⟨_, _, rfl, a, c⟩
theorem refLen {K : PySem.W.Frag} : RefCB K (rLenU K) dLen := fun xs ds H h q Q r rh z l => by
  unfold dLen at z
  split at z
  · rename_i d
    obtain ⟨v, rfl, rv⟩ := reps_one r
    split at z
    · rename_i n hn
      have fin := l _ _ z _ _ (Go.refl rh) (.int _)
      unfold lenD at hn
      split at hn
      · rename_i z'
        split at hn
        · rename_i hz
          cases hn
          rw [rv.str_inv]
          exact .inl ⟨_, _, rfl, ⟨hz, rfl⟩, fin⟩
        · cases hn
      · cases hn
        obtain ⟨p, vs, rfl, h1, h2⟩ := rv.tup_inv
        exact .inl ⟨_, _, rfl, .inr ⟨vs, SqT.of h1, h2.length.symm⟩, fin⟩
      · rename_i a
        rw [rv.loc_inv]
        split at hn
        · rename_i ds e
          cases hn
          obtain ⟨vs, h1, h2⟩ := rh.lst e
          exact .inl ⟨_, _, rfl, .inl ⟨vs, SqL.of h1, h2.length.symm⟩, fin⟩
        · rename_i kds e
          cases hn
          obtain ⟨kvs, h1, h2⟩ := rh.dK e
          exact .inr ⟨a, kvs, rfl, h1, by rw [repKV_length h2]; exact fin⟩
        · cases hn
      · cases hn
    · exact z.elim
  · exact z.elim
def dAbs : DRC := fun xs h q => match xs with
  | [.int i] => q (.int (i.natAbs : Nat)) h
  | _ => False
theorem refAbs {K : PySem.W.Frag} : RefCB K (fun xs H Q => ∃ i, xs = [.int i] ∧ Q (.int (if i < 0 then -i else i)) H) dAbs := fun xs ds H h q Q r rh z l => by
  unfold dAbs at z
  split at z
  · rename_i i
    obtain ⟨v, rfl, rv⟩ := reps_one r
    refine ⟨i, by rw [rv.int_inv], ?_⟩
    have e : (if i < 0 then -i else i) = ((i.natAbs : Nat) : Int) := by split <;> omega
    rw [e]
    exact l _ _ z _ _ (Go.refl rh) (.int _)
  · exact z.elim
def dInt : DRC := fun xs h q => match xs with
  | [.int i] => q (.int i) h
  | [.bl k] => q (.int (if k then 1 else 0)) h
  | _ => False
theorem refInt {K : PySem.W.Frag} : RefCB K (fun xs H Q => (∃ i, xs = [.int i] ∧ Q (.int i) H) ∨ ∃ k, xs = [.bl k] ∧ Q (.int (if k then 1 else 0)) H) dInt := fun xs ds H h q Q r rh z l => by
  unfold dInt at z
  split at z
  · obtain ⟨v, rfl, rv⟩ := reps_one r
    exact .inl ⟨_, by rw [rv.int_inv], l _ _ z _ _ (Go.refl rh) (.int _)⟩
  · obtain ⟨v, rfl, rv⟩ := reps_one r
    exact .inr ⟨_, by rw [rv.bl_inv], l _ _ z _ _ (Go.refl rh) (.int _)⟩
  · exact z.elim
/-- the type's name -/
def tyD (d : D) (h : DH) : Option String := match d with
  | .non => some "NoneType"
  | .bl _ => some "bool"
  | .int _ => some "int"
  | .str _ => some "str"
  | .tup _ => some "tuple"
  | .loc a => match h a with
    | some (.lst _) => some "list"
    | some (.dK _) => some "dict"
    | some (.dT _) => some "dict"
    | some (.set _ _) => some "set"
    | _ => none
  | _ => none
theorem tyD_ok {K : PySem.W.Frag} {H : Hp} {h : DH} {v : V} {d : D} {t : String} (r : Rep K H v d) (rh : RHp K H h) (e : tyD d h = some t) : TyX K H v (.type t) := by
  unfold tyD at e
  split at e
  · cases e; rw [r.non_inv]; exact .base .non
  · cases e; rw [r.bl_inv]; exact .base (.bl _)
  · cases e; rw [r.int_inv]; exact .base (.int _)
  · cases e; rw [r.str_inv]; exact .base (.str _)
  · cases e
    obtain ⟨p, vs, rfl, h1, h2⟩ := r.tup_inv
    exact .base (.tup h1)
  · rw [r.loc_inv]
    split at e
    · rename_i e1; cases e
      obtain ⟨vs, h1, _⟩ := rh.lst e1
      exact .base (.lst h1)
    · rename_i e1; cases e
      obtain ⟨vs, h1, _⟩ := rh.dK e1
      exact .base (.dK h1)
    · rename_i e1; cases e
      obtain ⟨vs, h1, _⟩ := rh.dT e1
      exact .base (.dT h1)
    · rename_i e1; cases e
      obtain ⟨o, h1, h2⟩ := rh _ _ e1
      cases o <;> first | exact h2.elim | exact .set h1
    · cases e
  · cases e
/-- is a value of the type t one of T? -/
def isTy (t T : String) : Bool := if t = T then true else decide (t = "bool" ∧ T = "int")
def kTys : List String := ["NoneType", "bool", "int", "str", "tuple", "list", "dict", "set"]
theorem isTy_ok : (kTys.all fun t => kTys.all fun T => kitB t T == some (isTy t T)) = true := by decide +kernel
theorem isTy_kit {t T : String} (h1 : t ∈ kTys) (h2 : T ∈ kTys) : kitB t T = some (isTy t T) := by
  have h := isTy_ok
  rw [List.all_eq_true] at h
  have h := h t h1
  rw [List.all_eq_true] at h
  exact eq_of_beq (h T h2)
theorem tyD_mem {d : D} {h : DH} {t : String} (e : tyD d h = some t) : t ∈ kTys := by
  unfold tyD at e
  split at e <;> (try (cases e <;> decide))
  split at e <;> (try (cases e <;> decide))
/-- isinstance(x, T), T a built-in type -/
def dIsi : DRC := fun xs h q => match xs with
  | [d, .ty T] => match tyD d h with
    | some t => T ∈ kTys ∧ q (.bl (isTy t T)) h
    | none => False
  | _ => False
theorem refIsi {K : PySem.W.Frag} : RefCB K (rIsi K) dIsi := fun xs ds H h q Q r rh z l => by
  unfold dIsi at z
  split at z
  · rename_i d T
    obtain ⟨v, w, rfl, rv, rw'⟩ := reps_two r
    split at z
    · rename_i t ht
      cases rw'
      exact ⟨v, .ty T, _, _, _, rfl, .ty T, tyD_ok rv rh ht, kit_ty (isTy_kit (tyD_mem ht) z.1), l _ _ z.2 _ _ (Go.refl rh) (.bl _)⟩
    · exact z.elim
  · exact z.elim
/-- list(x) -/
def dList : DRC := fun xs h q => match xs with
  | [.lsv ds] => ∀ p, h p = none → q (.loc p) (updD h p (.lst ds))
  | [.tup ds] => ∀ p, h p = none → q (.loc p) (updD h p (.lst ds))
  | [.loc a] => match h a with
    | some (.lst ds) => ∀ p, h p = none → q (.loc p) (updD h p (.lst ds))
    | some (.dK kds) => ∀ p, h p = none → q (.loc p) (updD h p (.lst (kds.map fun kv => kD kv.1)))
    | _ => False
  | _ => False
def rListU (K : PySem.W.Frag) : RCV := fun xs H Q => (∃ p ys, xs = [.ref p] ∧ (SqL K H p ys ∨ SqT K H p ys) ∧ ∀ l, H l = none → Q (.ref l) (upd H l (.lst ys))) ∨ rListD xs H Q
theorem call_listU {X : Cx} (hc : X.calm = true) : CallR X (.type "list") (rListU X.K) := call_list_of.or (call_list_dK hc)
theorem reps_keys {K : PySem.W.Frag} {H : Hp} : ∀ {kvs : List (Key × V)} {kds : List (Key × D)}, RepKV K H kvs kds → Reps K H (kvs.map fun kv => kV kv.1) (kds.map fun kv => kD kv.1)
  | _, _, .nil => .nil
  | (k1, v1) :: _, (k2, d2) :: _, .cons q t => by
    obtain ⟨e, q⟩ := q
    have e : k1 = k2 := e
    subst e
    refine .cons ?_ (reps_keys t)
    cases k1
    · exact .int _
    · exact .str _
theorem refList {K : PySem.W.Frag} : RefCB K (rListU K) dList := fun xs ds H h q Q r rh z l => by
  unfold dList at z
  split at z
  · obtain ⟨v, rfl, rv⟩ := reps_one r
    cases rv with
    | lsv h1 h2 => exact .inl ⟨_, _, rfl, .inl h1.sq, fun x hx => l _ _ (z x (rh.fresh hx)) _ _ (Go.new rh hx (h2.mono (tle_new hx))) (.loc x)⟩
  · obtain ⟨v, rfl, rv⟩ := reps_one r
    obtain ⟨p, vs, rfl, h1, h2⟩ := rv.tup_inv
    exact .inl ⟨p, vs, rfl, .inr (SqT.of h1), fun x hx => l _ _ (z x (rh.fresh hx)) _ _ (Go.new rh hx (h2.mono (tle_new hx))) (.loc x)⟩
  · obtain ⟨v, rfl, rv⟩ := reps_one r
    rw [rv.loc_inv]
    split at z
    · rename_i e
      obtain ⟨vs, h1, h2⟩ := rh.lst e
      exact .inl ⟨_, vs, rfl, .inl (SqL.of h1), fun x hx => l _ _ (z x (rh.fresh hx)) _ _ (Go.new rh hx (h2.mono (tle_new hx))) (.loc x)⟩
    · rename_i e
      obtain ⟨vs, h1, h2⟩ := rh.dK e
      exact .inr ⟨_, vs, rfl, h1, fun x hx => l _ _ (z x (rh.fresh hx)) _ _ (Go.new rh hx ((reps_keys h2).mono (tle_new hx))) (.loc x)⟩
    · exact z.elim
  · exact z.elim
/-- tuple(x) -/
def dTuple : DRC := fun xs h q => match xs with
  | [.tup ds] => q (.tup ds) h
  | [.loc a] => match h a with
    | some (.lst ds) => q (.tup ds) h
    | _ => False
  | _ => False
theorem refTuple {K : PySem.W.Frag} : RefCB K (fun xs H Q => ∃ p ys, xs = [.ref p] ∧ ((SqL K H p ys ∧ ∀ l, H l = none → Q (.ref l) (upd H l (.tup ys))) ∨ (SqT K H p ys ∧ Q (.ref p) H))) dTuple := fun xs ds H h q Q r rh z l => by
  unfold dTuple at z
  split at z
  · obtain ⟨v, rfl, rv⟩ := reps_one r
    obtain ⟨p, vs, rfl, h1, h2⟩ := id rv.tup_inv
    exact ⟨p, vs, rfl, .inr ⟨SqT.of h1, l _ _ z _ _ (Go.refl rh) rv⟩⟩
  · obtain ⟨v, rfl, rv⟩ := reps_one r
    rw [rv.loc_inv]
    split at z
    · rename_i e
      obtain ⟨vs, h1, h2⟩ := rh.lst e
      exact ⟨_, vs, rfl, .inl ⟨SqL.of h1, fun x hx => l _ _ z _ _ (Go.tmp rh hx) (.tup upd_same (h2.mono (tle_new hx)))⟩⟩
    · exact z.elim
  · exact z.elim
/-- all, any of a list of bools -/
def dAll : DRC := fun xs h q => match xs with
  | [.loc a] => ∃ bs : List Bool, h a = some (.lst (bs.map D.bl)) ∧ q (.bl (bs.all id)) h
  | _ => False
def dAny : DRC := fun xs h q => match xs with
  | [.loc a] => ∃ bs : List Bool, h a = some (.lst (bs.map D.bl)) ∧ q (.bl (bs.any id)) h
  | _ => False
theorem refAll {K : PySem.W.Frag} : RefCB K (rAll K) dAll := fun xs ds H h q Q r rh z l => by
  unfold dAll at z
  split at z
  · obtain ⟨v, rfl, rv⟩ := reps_one r
    obtain ⟨bs, e, z⟩ := z
    obtain ⟨vs, h1, h2⟩ := rh.lst e
    have e2 := reps_bls_inv h2
    subst e2
    exact ⟨_, bs, by rw [rv.loc_inv], SqL.of h1, l _ _ z _ _ (Go.refl rh) (.bl _)⟩
  · exact z.elim
theorem refAny {K : PySem.W.Frag} : RefCB K (rAny K) dAny := fun xs ds H h q Q r rh z l => by
  unfold dAny at z
  split at z
  · obtain ⟨v, rfl, rv⟩ := reps_one r
    obtain ⟨bs, e, z⟩ := z
    obtain ⟨vs, h1, h2⟩ := rh.lst e
    have e2 := reps_bls_inv h2
    subst e2
    exact ⟨_, bs, by rw [rv.loc_inv], SqL.of h1, l _ _ z _ _ (Go.refl rh) (.bl _)⟩
  · exact z.elim
def dSum : DRC := fun xs h q => match xs with
  | [.loc a] => ∃ ns : List Int, h a = some (.lst (ns.map D.int)) ∧ q (.int ns.sum) h
  | _ => False
theorem refSum {K : PySem.W.Frag} : RefCB K (rSum K) dSum := fun xs ds H h q Q r rh z l => by
  unfold dSum at z
  split at z
  · obtain ⟨v, rfl, rv⟩ := reps_one r
    obtain ⟨bs, e, z⟩ := z
    obtain ⟨vs, h1, h2⟩ := rh.lst e
    have e2 := reps_ints_inv h2
    subst e2
    exact ⟨_, bs, by rw [rv.loc_inv], SqL.of h1, l _ _ z _ _ (Go.refl rh) (.int _)⟩
  · exact z.elim
/-- max, min of a list of ints, or of two ints -/
def dMax : DRC := fun xs h q => match xs with
  | [.loc a] => ∃ ns : List Int, h a = some (.lst (ns.map D.int)) ∧ 0 < ns.length ∧ ∀ m, m ∈ ns → (∀ y, y ∈ ns → y ≤ m) → q (.int m) h
  | [.int i, .int j] => q (.int (if j > i then j else i)) h
  | _ => False
def dMin : DRC := fun xs h q => match xs with
  | [.loc a] => ∃ ns : List Int, h a = some (.lst (ns.map D.int)) ∧ 0 < ns.length ∧ ∀ m, m ∈ ns → (∀ y, y ∈ ns → m ≤ y) → q (.int m) h
  | [.int i, .int j] => q (.int (if j < i then j else i)) h
  | _ => False
theorem refMax {K : PySem.W.Frag} : RefCB K (fun xs H Q => rMax K xs H Q ∨ ∃ i j, xs = [.int i, .int j] ∧ Q (.int (if j > i then j else i)) H) dMax := fun xs ds H h q Q r rh z l => by
  unfold dMax at z
  split at z
  · obtain ⟨v, rfl, rv⟩ := reps_one r
    obtain ⟨bs, e, h0, z⟩ := z
    obtain ⟨vs, h1, h2⟩ := rh.lst e
    have e2 := reps_ints_inv h2
    subst e2
    exact .inl ⟨_, bs, by rw [rv.loc_inv], SqL.of h1, h0, fun m a b => l _ _ (z m a b) _ _ (Go.refl rh) (.int _)⟩
  · obtain ⟨v, w, rfl, rv, rw'⟩ := reps_two r
    exact .inr ⟨_, _, by rw [rv.int_inv, rw'.int_inv], l _ _ z _ _ (Go.refl rh) (.int _)⟩
  · exact z.elim
theorem refMin {K : PySem.W.Frag} : RefCB K (fun xs H Q => rMin K xs H Q ∨ ∃ i j, xs = [.int i, .int j] ∧ Q (.int (if j < i then j else i)) H) dMin := fun xs ds H h q Q r rh z l => by
  unfold dMin at z
  split at z
  · obtain ⟨v, rfl, rv⟩ := reps_one r
    obtain ⟨bs, e, h0, z⟩ := z
    obtain ⟨vs, h1, h2⟩ := rh.lst e
    have e2 := reps_ints_inv h2
    subst e2
    exact .inl ⟨_, bs, by rw [rv.loc_inv], SqL.of h1, h0, fun m a b => l _ _ (z m a b) _ _ (Go.refl rh) (.int _)⟩
  · obtain ⟨v, w, rfl, rv, rw'⟩ := reps_two r
    exact .inr ⟨_, _, by rw [rv.int_inv, rw'.int_inv], l _ _ z _ _ (Go.refl rh) (.int _)⟩
  · exact z.elim
/-- list(range(a, b)) -/
def rgD (a b : Int) : List D := (List.range (b - a).toNat).map fun i => D.int (a + (i : Nat))
theorem reps_rg {K : PySem.W.Frag} {H : Hp} (a b : Int) : Reps K H (rgV a b) (rgD a b) := by
  unfold rgV rgD
  generalize List.range (b - a).toNat = l
  induction l with
  | nil => exact .nil
  | cons x r ih => exact .cons (.int _) ih
def dLstRg1 (t : DTE) : DTE := fun s h q => t s h fun d h1 => match d with
  | .int n => n ≤ 16777216 ∧ -(2 ^ 62) ≤ n ∧ ∀ p, h1 p = none → q (.loc p) (updD h1 p (.lst (rgD 0 n)))
  | _ => False
def dLstRg2 (t u : DTE) : DTE := fun s h q => t s h fun d h1 => u s h1 fun e h2 => match d, e with
  | .int m, .int n => RgOk m n ∧ ∀ p, h2 p = none → q (.loc p) (updD h2 p (.lst (rgD m n)))
  | _, _ => False

/-! ### methods of lists, dicts -/
abbrev DRM := D → List D → DH → DK → Prop
def tyM (T : String) (d : D) (h : DH) : Prop := match d with
  | .str _ => T = "str"
  | .loc a => match h a with
    | some (.lst _) => T = "list"
    | some (.dK _) => T = "dict"
    | some (.dT _) => T = "dict"
    | some (.set _ _) => T = "set"
    | _ => False
  | _ => False
theorem tyM_ok {K : PySem.W.Frag} {H : Hp} {h : DH} {v : V} {d : D} {T : String} (r : Rep K H v d) (rh : RHp K H h) (e : tyM T d h) : tyV K T v H := by
  unfold tyM at e
  split at e
  · rw [r.str_inv]; exact e
  · rw [r.loc_inv]
    split at e
    · rename_i e1
      obtain ⟨vs, h1, _⟩ := rh.lst e1
      exact .inl ⟨e, vs, SqL.of h1⟩
    · rename_i e1
      obtain ⟨vs, h1, _⟩ := rh.dK e1
      exact .inr (.inr (.inl ⟨e, .inl ⟨vs, h1⟩⟩))
    · rename_i e1
      obtain ⟨vs, h1, _⟩ := rh.dT e1
      exact .inr (.inr (.inl ⟨e, .inr ⟨vs, h1⟩⟩))
    · rename_i e1
      obtain ⟨o, h1, h2⟩ := rh _ _ e1
      cases o <;> first | exact h2.elim | exact .inr (.inr (.inr ⟨e, _, _, h1⟩))
    · exact e.elim
  · exact e.elim
def dMt0 (T : String) (r : DRM) (to : DTE) : DTE := fun s h q => to s h fun x h1 => tyM T x h1 ∧ r x [] h1 q
def dMt (T : String) (r : DRM) (to : DTE) (ta : DTA) : DTE := fun s h q => to s h fun x h1 => tyM T x h1 ∧ ta s h1 fun xs h2 => r x xs h2 q
def RefMt (K : PySem.W.Frag) (r : V → List V → Hp → VK → Prop) (r' : DRM) : Prop := ∀ x xs d ds H h q Q, Rep K H x d → Reps K H xs ds → RHp K H h → r' d ds h q → LK K H h q Q → r x xs H Q
def dAppend : DRM := fun x ys h q => match x, ys with
  | .loc a, [y] => match h a with
    | some (.lst ds) => ds.length < sizeLine ∧ q .non (updD h a (.lst (ds ++ [y])))
    | _ => False
  | _, _ => False
theorem refAppend {K : PySem.W.Frag} : RefMt K rAppend dAppend := fun x xs d ds H h q Q r rs rh z l => by
  unfold dAppend at z
  split at z
  · obtain ⟨w, rfl, rw'⟩ := reps_one rs
    split at z
    · rename_i e
      obtain ⟨vs, h1, h2⟩ := rh.lst e
      have t : Tle K H (upd H _ (.lst (vs ++ [w]))) := tle_put h1 chg_lst
      exact ⟨_, vs, w, r.loc_inv, rfl, h1, by rw [h2.length]; exact z.1, l _ _ z.2 _ _ (Go.put rh e ((h2.mono t).append (.cons (rw'.mono t) .nil))) .non⟩
    · exact z.elim
  · exact z.elim
def dExtend : DRM := fun x ys h q => match x, ys with
  | .loc a, [.loc b] => match h a, h b with
    | some (.lst ds), some (.lst es) => ds.length + es.length ≤ sizeLine ∧ q .non (updD h a (.lst (ds ++ es)))
    | _, _ => False
  | _, _ => False
theorem refExtend {K : PySem.W.Frag} : RefMt K rExtend dExtend := fun x xs d ds H h q Q r rs rh z l => by
  unfold dExtend at z
  split at z
  · obtain ⟨w, rfl, rw'⟩ := reps_one rs
    split at z
    · rename_i e1 e2
      obtain ⟨vs, h1, h2⟩ := rh.lst e1
      obtain ⟨ws, h3, h4⟩ := rh.lst e2
      have t : Tle K H (upd H _ (.lst (vs ++ ws))) := tle_put h1 chg_lst
      exact ⟨_, _, vs, ws, r.loc_inv, by rw [rw'.loc_inv], h1, h3, by rw [h2.length, h4.length]; exact z.1, l _ _ z.2 _ _ (Go.put rh e1 ((h2.append h4).mono t)) .non⟩
    · exact z.elim
  · exact z.elim
/-- xs.pop(), xs.pop(i) -/
def dPop : DRM := fun x ys h q => match x, ys with
  | .loc a, [] => match h a with
    | some (.lst ds) => match ds[ds.length - 1]? with
      | some d => q d (updD h a (.lst ds.dropLast))
      | none => False
    | _ => False
  | _, _ => False
theorem refPop {K : PySem.W.Frag} : RefMt K rPop dPop := fun x xs d ds H h q Q r rs rh z l => by
  unfold dPop at z
  split at z
  · cases rs
    split at z
    · rename_i es e
      obtain ⟨vs, h1, h2⟩ := rh.lst e
      split at z
      · rename_i d hd
        obtain ⟨v, h3, h4⟩ := h2.get hd
        rw [← h2.length] at h3
        have t : Tle K H (upd H _ (.lst vs.dropLast)) := tle_put h1 chg_lst
        exact ⟨_, vs, v, r.loc_inv, rfl, h1, h3, l _ _ z _ _ (Go.put rh e (h2.dropLast.mono t)) (h4.mono t)⟩
      · exact z.elim
    · exact z.elim
  · exact z.elim
def dPopAt : DRM := fun x ys h q => match x, ys with
  | .loc a, [.int i] => match h a with
    | some (.lst ds) => -(2 ^ 63) ≤ i ∧ i < 2 ^ 63 ∧ match seqIndex? i ds.length with
      | some k => match ds[k]? with
        | some d => q d (updD h a (.lst (ds.eraseIdx k)))
        | none => False
      | none => False
    | _ => False
  | _, _ => False
theorem refPopAt {K : PySem.W.Frag} : RefMt K rPopAt dPopAt := fun x xs d ds H h q Q r rs rh z l => by
  unfold dPopAt at z
  split at z
  · obtain ⟨w, rfl, rw'⟩ := reps_one rs
    split at z
    · rename_i es e
      obtain ⟨vs, h1, h2⟩ := rh.lst e
      obtain ⟨z1, z2, z⟩ := z
      split at z
      · rename_i k hk
        split at z
        · rename_i d hd
          obtain ⟨v, h3, h4⟩ := h2.get hd
          rw [← h2.length] at hk
          have t : Tle K H (upd H _ (.lst (vs.eraseIdx k))) := tle_put h1 chg_lst
          exact ⟨_, vs, _, k, v, r.loc_inv, by rw [rw'.int_inv], h1, z1, z2, hk, h3, l _ _ z _ _ (Go.put rh e ((h2.eraseIdx k).mono t)) (h4.mono t)⟩
        · exact z.elim
      · exact z.elim
    · exact z.elim
  · exact z.elim
/-- xs.remove(k), ints -/
def dRemove : DRM := fun x ys h q => match x, ys with
  | .loc a, [.int k] => ∃ ns : List Int, h a = some (.lst (ns.map D.int)) ∧ k ∈ ns ∧ q .non (updD h a (.lst ((ns.erase k).map D.int)))
  | _, _ => False
theorem refRemove {K : PySem.W.Frag} : RefMt K rRemI dRemove := fun x xs d ds H h q Q r rs rh z l => by
  unfold dRemove at z
  split at z
  · rename_i a k
    obtain ⟨w, rfl, rw'⟩ := reps_one rs
    obtain ⟨ns, e, hk, z⟩ := z
    obtain ⟨vs, h1, h2⟩ := rh.lst e
    have e2 := reps_ints_inv h2
    subst e2
    have hi := List.idxOf_lt_length_of_mem hk
    have t : Tle K H (upd H a (.lst ((ns.eraseIdx (ns.idxOf k)).map V.int))) := tle_put h1 chg_lst
    have ee : ns.erase k = ns.eraseIdx (ns.idxOf k) := List.erase_eq_eraseIdx_of_idxOf rfl
    refine ⟨a, ns, k, ns.idxOf k, r.loc_inv, by rw [rw'.int_inv], h1, ?_, fun m hm hc => ?_, l _ _ (by rw [ee] at z; exact z) _ _ (Go.put (o := .lst ((ns.eraseIdx (ns.idxOf k)).map V.int)) (u := .lst ((ns.eraseIdx (ns.idxOf k)).map D.int)) rh e (reps_ints (H := upd H a (.lst ((ns.eraseIdx (ns.idxOf k)).map V.int))) (ns.eraseIdx (ns.idxOf k)))) .non⟩
    · rw [List.getElem?_eq_getElem hi]; exact congrArg some (List.getElem_idxOf hi)
    · obtain ⟨hl, hc⟩ := List.getElem?_eq_some_iff.mp hc
      have h3 := List.not_of_lt_findIdx (p := fun x => x == k) (xs := ns) (i := m) hm
      simp [hc] at h3
  · exact z.elim
section
variable {X : Cx} {B : Hp} {b : DH} {e a c o i : Expr} {es : List Expr} {ta tb to : DTE} {tas : DTA} {pos p p2 apos cpos : Pos} {T id : String} {name : Str} {r : V → List V → Hp → VK → Prop} {r' : DRM}
theorem de_bm0 (pa : PlainAttrs T) (slot : Slot T name id) (hty : typeOf (.builtin id) = pure (.type "method_descriptor")) (hm : MtR X id r) (rf : RefMt X.K r r') (ho : PE X o (lE X.K B b to))
    (hbase : attributeBase o name X.env (eval o X.env) = eval o X.env := by rfl) (hline : (apos.endLine == cpos.line) = true := by rfl) : PE X (.Call (.Attribute o name apos) [] [] cpos) (lE X.K B b (dMt0 T r' to)) :=
  pe_weak (pe_bm0 pa slot hty hm ho hbase hline) fun σ H Q ⟨s, h, q, at_, t, l⟩ => ⟨s, h, _, at_, t, fun d h1 z v H1 g rv => ⟨tyM_ok rv g.rep z.1, rf v [] d [] H1 h1 q Q rv .nil g.rep z.2 (l.go g)⟩⟩
theorem de_bm (pa : PlainAttrs T) (slot : Slot T name id) (hty : typeOf (.builtin id) = pure (.type "method_descriptor")) (hm : MtR X id r) (rf : RefMt X.K r r') (ho : PE X o (lE X.K B b to)) (ha : PA X (e :: es) (lA X.K B b tas))
    (hbase : attributeBase o name X.env (eval o X.env) = eval o X.env := by rfl)
    (hfew : ((backTo cpos (starEach (e :: es) X.env)).all (fun x => !x.1) && (backToKw cpos (keywordEach [] X.env)).all (fun x => x.1.isSome)
      && decide ((e :: es).length + ([] : List Keyword).length + (if ([] : List Keyword).isEmpty then 0 else 1) < 30)) = true := by rfl)
    (hline : (apos.endLine == cpos.line) = true := by rfl) (hs : starEach (e :: es) X.env = (false, eval e X.env) :: starEach es X.env := by rfl) (hplain : (backTo cpos (starEach es X.env)).any (·.1) = false := by rfl) :
    PE X (.Call (.Attribute o name apos) (e :: es) [] cpos) (lE X.K B b (dMt T r' to tas)) :=
  pe_weak (pe_bm pa slot hty hm ho ha hbase hfew hline hs hplain) fun σ H Q ⟨s, h, q, at_, t, l⟩ => ⟨s, h, _, at_, t, fun d h1 z v H1 g rv => ⟨tyM_ok rv g.rep z.1, s, h1, _, at_.step g, z.2, fun ds h2 z2 vs H2 g2 r2 =>
    rf v vs d ds H2 h2 q Q (rv.mono g2.tle) r2 g2.rep z2 (l.go (g.trans g2))⟩⟩
theorem de_lstRg1 (hc : X.calm = true) (hg : Gl X "list") (hm : X.mg "list" = none) (hg2 : Gl X "range") (hm2 : X.mg "range" = none) (ha : PE X a (lE X.K B b ta)) (na : starEach [a] X.env = (false, eval a X.env) :: starEach [] X.env := by rfl)
    (nb : starEach [.Call (.Name "range" p2) [a] [] apos] X.env = (false, eval (.Call (.Name "range" p2) [a] [] apos) X.env) :: starEach [] X.env := by rfl) :
    PE X (.Call (.Name "list" p) [.Call (.Name "range" p2) [a] [] apos] [] pos) (lE X.K B b (dLstRg1 ta)) :=
  pe_weak (pe_listRg hc hg hm (prg_1 hg2 hm2 ha na) nb) fun σ H Q ⟨s, h, q, at_, t, l⟩ => ⟨s, h, _, at_, t, fun d h1 z v H1 g r => by
    cases d with
    | int n =>
      obtain ⟨z1, z2, z3⟩ := (z : n ≤ 16777216 ∧ -(2 ^ 62) ≤ n ∧ ∀ p, h1 p = none → q (.loc p) (updD h1 p (.lst (rgD 0 n))))
      exact ⟨n, r.int_inv, ⟨by omega, by omega, by omega, by omega, by omega⟩, fun p hp => l _ _ (z3 p (g.rep.fresh hp)) _ _ (g.trans (Go.new g.rep hp (reps_rg 0 n))) (.loc p)⟩
    | _ => exact (z : False).elim⟩
theorem de_lstRg2 (hc : X.calm = true) (hg : Gl X "list") (hm : X.mg "list" = none) (hg2 : Gl X "range") (hm2 : X.mg "range" = none) (ha : PE X a (lE X.K B b ta)) (hb : PE X c (lE X.K B b tb)) (na : starEach [a, c] X.env = (false, eval a X.env) :: starEach [c] X.env := by rfl) (nc : starEach [c] X.env = (false, eval c X.env) :: starEach [] X.env := by rfl) (hp : (backTo apos (starEach [c] X.env)).any (·.1) = false := by rfl)
    (nb : starEach [.Call (.Name "range" p2) [a, c] [] apos] X.env = (false, eval (.Call (.Name "range" p2) [a, c] [] apos) X.env) :: starEach [] X.env := by rfl) :
    PE X (.Call (.Name "list" p) [.Call (.Name "range" p2) [a, c] [] apos] [] pos) (lE X.K B b (dLstRg2 ta tb)) :=
  pe_weak (pe_listRg hc hg hm (prg_2 hg2 hm2 ha hb na nc hp) nb) fun σ H Q ⟨s, h, q, at_, t, l⟩ => ⟨s, h, _, at_, t, fun d h1 z v H1 g r => ⟨s, h1, _, at_.step g, z, fun e h2 z2 w H2 g2 r2 => by
    cases d with
    | int m =>
      cases e with
      | int n =>
        obtain ⟨z1, z3⟩ := (z2 : RgOk m n ∧ ∀ p, h2 p = none → q (.loc p) (updD h2 p (.lst (rgD m n))))
        exact ⟨m, n, r.int_inv, r2.int_inv, z1, fun p hp => l _ _ (z3 p (g2.rep.fresh hp)) _ _ ((g.trans g2).trans (Go.new g2.rep hp (reps_rg m n))) (.loc p)⟩
      | _ => exact (z2 : False).elim
    | _ => exact (z2 : False).elim⟩⟩
end

/-! ### what is walked -/
/-- a list or a tuple -/
def dSeqI (t : DTE) : DTI := fun s h r => t s h fun d h1 => match d with
  | .tup ds => r ds (fun _ => True) h1
  | .loc a => match h1 a with
    | some (.lst ds) => r ds (fun h => h a = some (.lst ds)) h1
    | _ => False
  | _ => False
def dRng1 (t : DTA) : DTI := fun s h r => t s h fun ds h1 => match ds with
  | [.int n] => -(2 ^ 62) ≤ n ∧ n < 2 ^ 62 ∧ r (rgD 0 n) (fun _ => True) h1
  | _ => False
def dRng2 (t : DTA) : DTI := fun s h r => t s h fun ds h1 => match ds with
  | [.int m, .int n] => (-(2 ^ 62) ≤ m ∧ m < 2 ^ 62 ∧ -(2 ^ 62) ≤ n ∧ n < 2 ^ 62) ∧ r (rgD m n) (fun _ => True) h1
  | _ => False
def enumD (ds : List D) : List D := ds.zipIdx.map fun p => D.tup [.int (p.2 : Nat), p.1]
def dEnum (t : DTA) : DTI := fun s h r => t s h fun ds h1 => match ds with
  | [.tup ds] => r (enumD ds) (fun _ => True) h1
  | [.loc a] => match h1 a with
    | some (.lst ds) => r (enumD ds) (fun h => h a = some (.lst ds)) h1
    | _ => False
  | _ => False
theorem jr_list {K : PySem.W.Frag} {H0 : Hp} {h0 : DH} {a : Addr} {ds : List D} : JRep K H0 h0 (Itl K a) ds (fun h => h a = some (.lst ds)) where
  go := fun i H h g e hi => by
    obtain ⟨vs, h1, h2⟩ := g.rep.lst e
    have : i < vs.length := by rw [h2.length]; exact hi
    exact ⟨vs, vs[i], SqL.of h1, List.getElem?_eq_getElem this⟩
  stop := fun H h g e => by
    obtain ⟨vs, h1, h2⟩ := g.rep.lst e
    exact ⟨vs, SqL.of h1, by rw [h2.length]; exact Nat.le_refl _⟩
  yld := fun i H h x H' g e hi y => by
    obtain ⟨rfl, y⟩ := y
    obtain ⟨vs, h1, h2⟩ := g.rep.lst e
    exact ⟨Go.refl g.rep, h2.get' (y vs (SqL.of h1))⟩
theorem jr_tup {K : PySem.W.Frag} {H0 : Hp} {h0 : DH} {a : Addr} {vs : List V} {ds : List D} (h1 : H0 a = some (.tup vs)) (h2 : Reps K H0 vs ds) : JRep K H0 h0 (Itt K a) ds (fun _ => True) where
  go := fun i H h g e hi => by
    have : i < vs.length := by rw [h2.length]; exact hi
    exact ⟨vs, vs[i], SqT.of (g.tle.tup _ _ h1), List.getElem?_eq_getElem this⟩
  stop := fun H h g e => ⟨vs, SqT.of (g.tle.tup _ _ h1), by rw [h2.length]; exact Nat.le_refl _⟩
  yld := fun i H h x H' g e hi y => by
    obtain ⟨rfl, y⟩ := y
    exact ⟨Go.refl g.rep, (h2.mono g.tle).get' (y vs (SqT.of (g.tle.tup _ _ h1)))⟩
theorem rgD_len (a b : Int) : (rgD a b).length = (b - a).toNat := by unfold rgD; simp
theorem rgD_get {a b : Int} {i : Nat} (h : i < (b - a).toNat) : (rgD a b)[i]? = some (.int (a + (i : Nat))) := by unfold rgD; simp [h]
theorem jr_rng {K : PySem.W.Frag} {H0 : Hp} {h0 : DH} {lo hi : Int} {n : Nat} (hn : n = (hi - lo).toNat) : JRep K H0 h0 (Itr lo n) (rgD lo hi) (fun _ => True) where
  go := fun i H h g e hi => by rw [rgD_len, ← hn] at hi; exact hi
  stop := fun H h g e => by rw [rgD_len, ← hn]; exact Nat.le_refl n
  yld := fun i H h x H' g e hi y => by
    obtain ⟨rfl, rfl⟩ := y
    rw [rgD_len] at hi
    exact ⟨Go.refl g.rep, _, rgD_get hi, .int _⟩
theorem enumD_get {ds : List D} {i : Nat} {d : D} (h : ds[i]? = some d) : (enumD ds)[i]? = some (.tup [.int (i : Nat), d]) := by
  unfold enumD
  rw [List.getElem?_map, List.getElem?_zipIdx, h]
  simp
theorem enumD_len (ds : List D) : (enumD ds).length = ds.length := by unfold enumD; simp
theorem jr_enumL {K : PySem.W.Frag} {H0 : Hp} {h0 : DH} {a : Addr} {ds : List D} : JRep K H0 h0 (Ite K a) (enumD ds) (fun h => h a = some (.lst ds)) where
  go := fun i H h g e hi => by
    obtain ⟨vs, h1, h2⟩ := g.rep.lst e
    rw [enumD_len] at hi
    have : i < vs.length := by rw [h2.length]; exact hi
    exact ⟨vs, vs[i], SqL.of h1, List.getElem?_eq_getElem this⟩
  stop := fun H h g e => by
    obtain ⟨vs, h1, h2⟩ := g.rep.lst e
    exact ⟨vs, SqL.of h1, by rw [h2.length, enumD_len]; exact Nat.le_refl _⟩
  yld := fun i H h x H' g e hi y => by
    obtain ⟨T, v, rfl, hT, rfl, y⟩ := y
    obtain ⟨vs, h1, h2⟩ := g.rep.lst e
    obtain ⟨d, hd, rd⟩ := h2.get' (y vs (SqL.of h1))
    exact ⟨Go.tmp g.rep hT, _, enumD_get hd, .tup upd_same (.cons (.int _) (.cons (rd.mono (tle_new hT)) .nil))⟩
/-- enumerate over a tuple -/
def Iteu (K : PySem.W.Frag) (a : Addr) : It :=
  ⟨fun i H => ∃ (xs : List V) (x : V), SqT K H a xs ∧ xs[i]? = some x, fun i H v H' => ∃ T x, v = .ref T ∧ H T = none ∧ H' = upd H T (.tup [.int (i : Nat), x]) ∧ ∀ xs, SqT K H a xs → xs[i]? = some x, fun i H => ∃ xs : List V, SqT K H a xs ∧ xs.length = i⟩
theorem jr_enumT {K : PySem.W.Frag} {H0 : Hp} {h0 : DH} {a : Addr} {vs : List V} {ds : List D} (h1 : H0 a = some (.tup vs)) (h2 : Reps K H0 vs ds) : JRep K H0 h0 (Iteu K a) (enumD ds) (fun _ => True) where
  go := fun i H h g e hi => by
    rw [enumD_len] at hi
    have : i < vs.length := by rw [h2.length]; exact hi
    exact ⟨vs, vs[i], SqT.of (g.tle.tup _ _ h1), List.getElem?_eq_getElem this⟩
  stop := fun H h g e => ⟨vs, SqT.of (g.tle.tup _ _ h1), by rw [h2.length, enumD_len]⟩
  yld := fun i H h x H' g e hi y => by
    obtain ⟨T, v, rfl, hT, rfl, y⟩ := y
    obtain ⟨d, hd, rd⟩ := (h2.mono g.tle).get' (y vs (SqT.of (g.tle.tup _ _ h1)))
    exact ⟨Go.tmp g.rep hT, _, enumD_get hd, .tup upd_same (.cons (.int _) (.cons (rd.mono (tle_new hT)) .nil))⟩
theorem turn_enumT {P : Program} {w : World} {K : PySem.W.Frag} {elts : List Expr} {kk : Nat} {tpos : Pos} (a e it : Addr) (hai : a ≠ it) (hae : a ≠ e) :
    Turn P w K (.Tuple elts kk tpos) (Iteu K a) [e, it] e (fun i h => (∃ old, IsEnum h e it ((i : Nat) : Int) old) ∧ h.IsTupleIter it a i ∧ e ≠ it) where
  mem := by simp
  obj := fun i h st b hb => by
    obtain ⟨⟨old, he⟩, ⟨o, ho, hc, hd⟩, _⟩ := st
    have e' : b = e ∨ b = it := by simpa using hb
    rcases e' with z | z
    · rw [z]; exact ⟨_, he, fun v q => nomatch q⟩
    · rw [z]; exact ⟨o, ho, fun v q => by rw [hd] at q; cases q⟩
  keep := fun i h h' st k => let ⟨⟨old, he⟩, hi, hne⟩ := st; ⟨⟨old, k e (by simp) _ he⟩, hi.at fun o q => k it (by simp) o q, hne⟩
  item := by
    intro X hP hw hK hc i pins s σ H E I hf st hg
    subst hP hw hK
    obtain ⟨⟨old, he⟩, hit, hne⟩ := st
    obtain ⟨xs, x, hq, hx⟩ := hg
    obtain ⟨its, rv, p, hz⟩ := I.tuple hq
    obtain ⟨u, hu, ru⟩ := rv.get hx
    have hel : e < s.heap.objs.size := Heap.lt_size he
    have hil : it < s.heap.objs.size := by obtain ⟨_, q, _⟩ := hit; exact Heap.lt_size q
    have hul : i < its.toArray.size := by
      have := (List.getElem?_eq_some_iff.mp hu).1
      simpa using this
    refine wpAny_pyNext_enum_itemD (Draws.tuple (by exact I.ok.hd hc) it a hai its.toArray) he ⟨hit, show s.heap.IsTuple a its.toArray from p⟩ hul hne (by simp [hne, Ne.symm hae]) fun u' h' tk hu' ho hst hT hsz hk => ?_
    have eu : u' = u := by
      have hu2 : its.toArray[i]? = some u := by simpa using hu
      exact Option.some.inj (hu'.symm.trans hu2)
    subst eu
    refine ⟨_, rfl, wpAny_letOwnedTupleGo_enum (s := { s with heap := h', toks := tk + 1 }) ho fun h'' he' sb => ?_⟩
    have hT2 : h''.get? s.heap.objs.size = some { cls := .type "tuple", data := .seq #[.int i tk, u'] } := (sb.2 _ (Nat.ne_of_gt hel)).trans hT
    have new : ObjOk X.prog X.w (upd H s.heap.objs.size (.tup [.int (i : Nat), x])) h'' s.heap.objs.size (.tup [.int (i : Nat), x]) :=
      ⟨by show 2 ≤ sizeLine; decide, [.int i tk, u'], .cons ⟨_, rfl⟩ (.cons ru .nil), ⟨_, hT2, rfl, _, rfl⟩⟩
    have I1 : Inv X pins σ (upd H s.heap.objs.size (.tup [.int (i : Nat), x])) { s with heap := h'', toks := tk + 1 } :=
      I.turnedNew (ch := [e, it]) (fun b ob hb q => (sb.2 b (fun z => hb (by simp [z]))).trans (hk b ob (fun z => hb (by simp [z])) (fun z => hb (by simp [z])) q)) hf (Nat.le_refl _) new
    refine ⟨.ref s.heap.objs.size, _, I1, rfl, ⟨_, x, rfl, I.hok.fresh (Nat.le_refl _), rfl, fun ys hy => by rw [I.tuple_inj hy hq]; exact hx⟩, ⟨⟨u', ?_⟩, hst.1.at fun o q => (sb.2 it (Ne.symm hne)).trans q, hne⟩, fun b hb => ?_⟩
    · have e1 : ((i + 1 : Nat) : Int) = (i : Int) + 1 := by omega
      rw [e1]; exact he'
    · have hb' : b < s.heap.objs.size := by
        have e' : b = e ∨ b = it := by simpa using hb
        rcases e' with z | z
        · rw [z]; exact hel
        · rw [z]; exact hil
      rw [upd_ne (Nat.ne_of_lt hb')]
      exact (hf b hb).1
  done := by
    intro X hP hw hK hc i pins s σ H E I hf st hg
    subst hP hw hK
    obtain ⟨⟨old, he⟩, hit, hne⟩ := st
    obtain ⟨xs, hq, hx⟩ := hg
    obtain ⟨its, rv, p, hz⟩ := I.tuple hq
    obtain ⟨f0, f1, f2, f3, f4, f5⟩ := hf it (by simp)
    have hl := rv.length
    have hi : i = its.toArray.size := by simp; omega
    subst hi
    exact wpAny_pyNext_enum_endD (Draws.tuple (by exact I.ok.hd hc) it a hai its.toArray) he ⟨hit, show s.heap.IsTuple a its.toArray from p⟩ fun h' eb => ⟨rfl, I.turned (t' := s.toks) (fun b o hb q => eb b o hb q) f0 f1 f3 f4 f5⟩
  self := fun A i s Q E st h => let ⟨⟨_, he⟩, _⟩ := st; wpAny_pyIter_enum he h

set_option maxHeartbeats 4000000 in
theorem meets_enumerate_new1 {v : Value} {o : Obj} {H : Heap → Prop} (B : Begins v o H) :
    Meets (Builtin.«enumerate.__new__» ⟨[.type "enumerate", v], []⟩) (fun _ R s => H s.heap ∧
      R (.ok (.ret (.ref (s.heap.push o).objs.size))) { s with heap := (s.heap.push o).push { cls := .type "enumerate", data := .fields #[.none, .bool false, .ref s.heap.objs.size, rawInt 0, .none, .none] } }) :=
  .of_wp fun prog w A R s h => by
    obtain ⟨hp, g, d, tk, os⟩ := s; obtain ⟨h1, h⟩ := h
    have hsub := sub_enumerate
    have q1 : ∀ {A' : Around} {E : Value → Shared → Prop} {Q : Value → Shared → Prop}, Q (.ref hp.objs.size) ⟨hp.push o, g, d, tk, os⟩ → wpAny (model prog w) A' (pyIter v) Q E ⟨hp, g, d, tk, os⟩ :=
      fun q => B.iter prog w _ _ ⟨hp, g, d, tk, os⟩ _ h1 q
    wp_walk using q1
    refine wpAny_stack_any fun st => wpAny_pure ?_
    split
    · rename_i c _ _ _ _ _
      cases (c == Value.type "enumerate")
      · wp_walk using q1
        exact ⟨_, rfl, h⟩
      · wp_walk using q1
        exact ⟨_, rfl, h⟩
    · wp_walk using q1
      exact ⟨_, rfl, h⟩
theorem enum_begins1 {prog : Program} {w : World} {A : Around} {E : Value → Shared → Prop} {s : Shared} {v : Value} {o : Obj} {H : Heap → Prop} {Q : Value → Shared → Prop} (B : Begins v o H) (h1 : H s.heap)
    (h : ∀ h', IsEnum h' (s.heap.objs.size + 1) s.heap.objs.size 0 .none → h'.get? s.heap.objs.size = some o → h'.objs.size = s.heap.objs.size + 2 →
      (∀ b o, s.heap.get? b = some o → h'.get? b = some o) → Q (.ref (s.heap.objs.size + 1)) { s with heap := h' }) :
    wpAny (model prog w) A (call (.type "enumerate") [v]) Q E s := by
  refine callType_new F.called_enumerate (by decide) (F.typeCall_enumerate_1 _) (F.newCall_enumerate_1 _) (fun obj => F.args_object_init_2 obj _) F.entry_enumerate_new
    (meets_enumerate_new1 B) ⟨h1, ?_⟩
  have hz : (s.heap.push o).objs.size = s.heap.objs.size + 1 := Heap.size_push ..
  show _ ∧ _
  rw [hz]
  have he : IsEnum ((s.heap.push o).push { cls := .type "enumerate", data := .fields #[.none, .bool false, .ref s.heap.objs.size, rawInt 0, .none, .none] }) (s.heap.objs.size + 1) s.heap.objs.size 0 .none := by
    have := Heap.get?_push_size (s.heap.push o) (o := { cls := .type "enumerate", data := .fields #[.none, .bool false, .ref s.heap.objs.size, rawInt 0, .none, .none] }) rfl
    rw [hz] at this; exact this
  refine ⟨⟨_, he, rfl⟩, h _ he (Heap.get?_push_of_some _ (Heap.get?_push_size _ B.free)) (by rw [Heap.size_push, hz]) fun b o x => Heap.get?_push_of_some _ (Heap.get?_push_of_some _ x)⟩
section
variable {X : Cx} {B : Hp} {b : DH} {e a c tg : Expr} {es : List Expr} {ta tb : DTE} {tas : DTA} {pos p : Pos}
theorem di_seq (he : PE X e (lE X.K B b ta)) : PI X tg e (lI X.K B b (dSeqI ta)) := by
  refine ⟨fun pins s σ H R I ⟨s1, h, r, at_, t, l⟩ => ?_⟩
  refine thn (he.run pins s σ H (fun v H1 => (∃ a, v = .ref a ∧ (∃ xs, SqL X.K H1 a xs) ∧ R (Itl X.K a) H1) ∨ (∃ a, v = .ref a ∧ (∃ xs, SqT X.K H1 a xs) ∧ R (Itt X.K a) H1)) I ⟨s1, h, _, at_, t, fun d h1 z v H1 g rv => ?_⟩) fun v s2 ⟨x, H1, I1, r1, q1⟩ => ?_
  · cases d with
    | tup ds =>
      obtain ⟨p, vs, rfl, h1, h2⟩ := rv.tup_inv
      exact .inr ⟨p, rfl, ⟨vs, SqT.of h1⟩, l _ _ _ z _ _ g (jr_tup h1 h2)⟩
    | loc a =>
      have z : (match h1 a with | some (.lst ds) => _ | _ => _) := z
      split at z
      · rename_i ds e1
        obtain ⟨vs, h1, h2⟩ := g.rep.lst e1
        exact .inl ⟨a, rv.loc_inv, ⟨vs, SqL.of h1⟩, l _ _ _ z _ _ g jr_list⟩
      · exact z.elim
    | _ => exact (z : False).elim
  · rcases q1 with ⟨a, e, ⟨xs, hq⟩, q⟩ | ⟨a, e, ⟨xs, hq⟩, q⟩
    · subst e
      cases r1
      obtain ⟨its, rv, p, hz⟩ := I1.list hq
      refine wpAny_pyIter_list p.isList ?_
      refine ⟨s2.heap.objs.size, [s2.heap.objs.size], _, _, H1, rfl, I1.kept (t' := s2.toks) fun b o e => Heap.get?_push_of_some _ e, turn_list a _, ⟨_, Heap.get?_push_size _ rfl, rfl, rfl⟩, fun b hb => ?_, q⟩
      have e : b = s2.heap.objs.size := by simpa using hb
      subst e
      exact I1.fpOk (Nat.le_refl _) (I1.hok.fresh (Nat.le_refl _))
    · subst e
      cases r1
      obtain ⟨its, rv, p, hz⟩ := I1.tuple hq
      refine wpAny_pyIter_tuple (show s2.heap.IsTuple a its.toArray from p) ?_
      refine ⟨s2.heap.objs.size, [s2.heap.objs.size], _, _, H1, rfl, I1.kept (t' := s2.toks) fun b o e => Heap.get?_push_of_some _ e, turn_tuple a _, ⟨_, Heap.get?_push_size _ rfl, rfl, rfl⟩, fun b hb => ?_, q⟩
      have e : b = s2.heap.objs.size := by simpa using hb
      subst e
      exact I1.fpOk (Nat.le_refl _) (I1.hok.fresh (Nat.le_refl _))
theorem reps_oneI {K : PySem.W.Frag} {H : Hp} {vs : List V} {n : Int} (r : Reps K H vs [.int n]) : vs = [.int n] := by
  obtain ⟨v, rfl, rv⟩ := reps_one r
  rw [rv.int_inv]
theorem di_rng1 (hg : Gl X "range") (hm : X.mg "range" = none) (ha : PA X [a] (lA X.K B b tas)) (hs : starEach [a] X.env = [(false, eval a X.env)] := by rfl) : PI X tg (.Call (.Name "range" p) [a] [] pos) (lI X.K B b (dRng1 tas)) :=
  pi_weak (pi_range1 hg hm ha hs) fun σ H R ⟨s, h, r, at_, t, l⟩ => ⟨s, h, _, at_, t, fun ds h1 z vs H1 g rv => by
    split at z
    · rename_i n
      exact ⟨n, reps_oneI rv, z.1, z.2.1, l _ _ _ z.2.2 _ _ g (jr_rng (by omega))⟩
    · exact z.elim⟩
theorem di_rng2 (hg : Gl X "range") (hm : X.mg "range" = none) (ha : PA X [a, c] (lA X.K B b tas)) (hs : starEach [a, c] X.env = [(false, eval a X.env), (false, eval c X.env)] := by rfl) (hs2 : starEach [c] X.env = [(false, eval c X.env)] := by rfl) :
    PI X tg (.Call (.Name "range" p) [a, c] [] pos) (lI X.K B b (dRng2 tas)) :=
  pi_weak (pi_range2 hg hm ha hs hs2) fun σ H R ⟨s, h, r, at_, t, l⟩ => ⟨s, h, _, at_, t, fun ds h1 z vs H1 g rv => by
    split at z
    · rename_i m n
      obtain ⟨v, w, rfl, r1, r2⟩ := reps_two rv
      exact ⟨m, n, by rw [r1.int_inv, r2.int_inv], z.1, l _ _ _ z.2 _ _ g (jr_rng rfl)⟩
    · exact z.elim⟩
theorem di_enum {elts : List Expr} {kk : Nat} {tpos : Pos} (hg : Gl X "enumerate") (hm : X.mg "enumerate" = none) (ha : PA X [e] (lA X.K B b tas)) (hs : starEach [e] X.env = [(false, eval e X.env)] := by rfl) :
    PI X (.Tuple elts kk tpos) (.Call (.Name "enumerate" p) [e] [] pos) (lI X.K B b (dEnum tas)) := by
  refine ⟨fun pins s σ H R I ⟨s1, h, r, at_, t, l⟩ => ?_⟩
  have key : lA X.K B b tas σ H fun vs H1 => (∃ a xs, vs = [.ref a] ∧ SqL X.K H1 a xs ∧ R (Ite X.K a) H1) ∨ (∃ a xs, vs = [.ref a] ∧ SqT X.K H1 a xs ∧ H1 a = some (.tup xs) ∧ R (Iteu X.K a) H1) := by
    refine ⟨s1, h, _, at_, t, fun ds h1 z vs H1 g rv => ?_⟩
    split at z
    · obtain ⟨v, rfl, rv2⟩ := reps_one rv
      obtain ⟨p, vs, rfl, h1, h2⟩ := rv2.tup_inv
      exact .inr ⟨p, vs, rfl, SqT.of h1, h1, l _ _ _ z _ _ g (jr_enumT h1 h2)⟩
    · obtain ⟨v, rfl, rv2⟩ := reps_one rv
      split at z
      · rename_i ds e1
        obtain ⟨vs, h1, h2⟩ := g.rep.lst e1
        exact .inl ⟨_, vs, by rw [rv2.loc_inv], SqL.of h1, l _ _ _ z _ _ g jr_enumL⟩
      · exact z.elim
    · exact z.elim
  refine Call_ (ld_blt I hg hm boot_enumerate (PyProof.Rows.callWith_type1 (thn (ha.run pos pins s σ H _ I key) fun us s2 ⟨vs, H1, I1, r1, q1⟩ => ?_) hs rfl))
  rcases q1 with ⟨a, xs, ex, hq, q⟩ | ⟨a, xs, ex, hq, hq', q⟩
  · subst ex
    cases r1 with
    | cons r rr =>
      cases rr
      cases r
      obtain ⟨its, rv, p', hz⟩ := I1.list hq
      refine call_enumerate_list p'.isList fun h' he hit hsz hk => wpAny_pyIter_enum he ?_
      have I2 : Inv X pins σ H1 { s2 with heap := h' } := I1.kept (t' := s2.toks) hk
      refine ⟨s2.heap.objs.size + 1, [s2.heap.objs.size + 1, s2.heap.objs.size], _, _, H1, rfl, I2, turn_enum a (s2.heap.objs.size + 1) s2.heap.objs.size, ⟨⟨.none, he⟩, hit, Nat.succ_ne_self _⟩, fun b hb => ?_, q⟩
      have e' : b = s2.heap.objs.size + 1 ∨ b = s2.heap.objs.size := by simpa using hb
      have hle : s2.heap.objs.size ≤ b := by
        rcases e' with z | z
        · rw [z]; exact Nat.le_add_right _ _
        · rw [z]; exact Nat.le_refl _
      exact I1.fpOk hle (I1.hok.fresh hle)
  · subst ex
    cases r1 with
    | cons r rr =>
      cases rr
      cases r
      obtain ⟨its, rv, p', hz⟩ := I1.tuple hq
      have hal : a < s2.heap.objs.size := (I1.hok a _ hq').lt
      refine enum_begins1 (begins_tuple a its.toArray) (show s2.heap.IsTuple a its.toArray from p') fun h' he hit hsz hk => wpAny_pyIter_enum he ?_
      have I2 : Inv X pins σ H1 { s2 with heap := h' } := I1.kept (t' := s2.toks) hk
      refine ⟨s2.heap.objs.size + 1, [s2.heap.objs.size + 1, s2.heap.objs.size], _, _, H1, rfl, I2, turn_enumT a (s2.heap.objs.size + 1) s2.heap.objs.size (Nat.ne_of_lt hal) (Nat.ne_of_lt (Nat.lt_succ_of_lt hal)), ⟨⟨.none, he⟩, ⟨_, hit, rfl, rfl⟩, Nat.succ_ne_self _⟩, fun b hb => ?_, q⟩
      have e' : b = s2.heap.objs.size + 1 ∨ b = s2.heap.objs.size := by simpa using hb
      have hle : s2.heap.objs.size ≤ b := by
        rcases e' with z | z
        · rw [z]; exact Nat.le_add_right _ _
        · rw [z]; exact Nat.le_refl _
      exact I1.fpOk hle (I1.hok.fresh hle)
end

/-! ### try -/
def dTry (tb : DWX → DTS) (K : PySem.W.Frag) (c : Value) (ts : DTS) (wout : DWX) : DTS := fun e s h =>
  tb (fun cls d s1 h1 => ∃ k, PySem.W.exmOne K cls c = some k ∧ (k = true → ts e s1 h1) ∧ (k = false → wout cls d s1 h1)) e s h
/-- .. as n: i is n's slot -/
def dTryAs (i : Nat) (tb : DWX → DTS) (K : PySem.W.Frag) (c : Value) (ts : Value → Option Addr → Addr → DTS) (wout : DWX) : DTS := fun e s h =>
  tb (fun cls d s1 h1 => ∃ k, PySem.W.exmOne K cls c = some k ∧ (k = true → ∀ a, h1 a = none → ts cls d a { nx := fun s2 h2 => e.nx (s2.set i none) h2, rt := e.rt, bk := fun s2 h2 => e.bk (s2.set i none) h2, ct := fun s2 h2 => e.ct (s2.set i none) h2 } (s1.set i (some (.loc a))) h1) ∧ (k = false → wout cls d s1 h1)) e s h
section
variable {X : Cx} {B : Hp} {b : DH} {x n : Str} {c : Value} {body suite : List Stmt} {b0 : Stmt} {np pos pos' : Pos} {tb : DWX → DTS} {ts : DTS} {wout : DWX}
theorem ds_try (hs : X.stack = X.env :: X.outer) (hf : X.env.frame = some X.env.locals) (hc : Names X x c) (tk : Takes X (lW X.K B b wout))
    (hb : ∀ (B' : Hp) (b' : DH) (W : DWX) (pn : List (Addr × Obj)) (xe : Value → Shared → Prop), Takes (X.tr pn xe) (lW X.K B' b' W) → PassesOwn (model X.prog X.w) X.A X.env xe → PSs (X.tr pn xe) body (lS X.K B' b' (tb W)))
    (hsu : ∀ (a : Addr) (oe : Obj) (cls : Value) (d : Option Addr) (pn : List (Addr × Obj)), Zc cls d oe → (∃ vs, oe.data = .fields vs) → PSs (X.suite a ((a, oe) :: pn)) (b0 :: suite) (lS X.K B b ts)) :
    PS X (.Try body [.ExceptHandler (some (.Name x np)) none (b0 :: suite) pos'] [] [] pos) (lS X.K B b (dTry tb X.K c ts wout)) := by
  refine ps_weak (ps_try_only (tb := fun W => fun D σ H => ∃ (W' : DWX) (h : DH), (∀ cls d σ1 H1, lW X.K H h W' cls d σ1 H1 → W cls d σ1 H1) ∧ lS X.K H h (tb W') D σ H) (ts := fun _ _ _ => lS X.K B b ts) hs hf hc tk
    (fun W pn xe tk2 hp => ⟨fun pins s σ H D I ⟨W', h, hW, z⟩ => (hb H h W' pn xe (tk2.imp hW) hp).run pins s σ H D I z⟩) hsu) fun D σ H ⟨s, h, e, at_, t, l⟩ => ?_
  refine ⟨_, h, ?_, s, h, e, ⟨at_.st, Go.refl at_.rep⟩, t, l⟩
  rintro cls d σ1 H1 ⟨s1, h1, at1, k, z1, z2, z3⟩
  refine ⟨k, z1, fun hk a ha => ?_, fun hk => ?_⟩
  · exact ⟨s1, h1, e, ⟨at1.st, at_.go.trans at1.go⟩, z2 hk, l.go at1.go⟩
  · exact ⟨s1, h1, ⟨at1.st, at_.go.trans at1.go⟩, z3 hk⟩
theorem ds_tryAs {i : Nat} {ts : Value → Option Addr → Addr → DTS} (hs : X.stack = X.env :: X.outer) (hf : X.env.frame = some X.env.locals) (hN : X.N.Nodup) (hi : X.N[i]? = some n) (hln : X.env.kindOf n = some .local) (hc : Names X x c) (tk : Takes X (lW X.K B b wout))
    (hb : ∀ (B' : Hp) (b' : DH) (W : DWX) (pn : List (Addr × Obj)) (xe : Value → Shared → Prop), Takes (X.tr pn xe) (lW X.K B' b' W) → PassesOwn (model X.prog X.w) X.A X.env xe → PSs (X.tr pn xe) body (lS X.K B' b' (tb W)))
    (hsu : ∀ (a : Addr) (oe : Obj) (cls : Value) (d : Option Addr) (pn : List (Addr × Obj)), Zc cls d oe → (∃ vs, oe.data = .fields vs) → PSs (X.suite a ((a, oe) :: pn)) (b0 :: suite) (lS X.K B b (ts cls d a))) :
    PS X (.Try body [.ExceptHandler (some (.Name x np)) (some n) (b0 :: suite) pos'] [] [] pos) (lS X.K B b (dTryAs i tb X.K c ts wout)) := by
  refine ps_weak (ps_try_as (tb := fun W => fun D σ H => ∃ (W' : DWX) (h : DH), (∀ cls d σ1 H1, lW X.K H h W' cls d σ1 H1 → W cls d σ1 H1) ∧ lS X.K H h (tb W') D σ H) (ts := fun a cls d => lS X.K B b (ts cls d a)) hs hf hN hi hln hc tk
    (fun W pn xe tk2 hp => ⟨fun pins s σ H D I ⟨W', h, hW, z⟩ => (hb H h W' pn xe (tk2.imp hW) hp).run pins s σ H D I z⟩) hsu) fun D σ H ⟨s, h, e, at_, t, l⟩ => ?_
  refine ⟨_, h, ?_, s, h, e, ⟨at_.st, Go.refl at_.rep⟩, t, l⟩
  rintro cls d σ1 H1 ⟨s1, h1, at1, k, z1, z2, z3⟩
  refine ⟨k, z1, fun hk a ha => ?_, fun hk => ?_⟩
  · have l2 := l.go at1.go
    exact ⟨s1.set i (some (.loc a)), h1, _, ⟨at1.st.set (.loc a) i, at_.go.trans at1.go⟩, z2 hk a (at1.rep.fresh ha),
      ⟨fun s3 h3 z σ3 H3 g3 r3 => l2.nx _ h3 z _ H3 g3 (r3.none i), l2.rt, fun s3 h3 z σ3 H3 g3 r3 => l2.bk _ h3 z _ H3 g3 (r3.none i), fun s3 h3 z σ3 H3 g3 r3 => l2.ct _ h3 z _ H3 g3 (r3.none i)⟩⟩
  · exact ⟨s1, h1, ⟨at1.st, at_.go.trans at1.go⟩, z3 hk⟩
end

/-! ### isinstance of a caught error -/
def dIsE (K : PySem.W.Frag) (cls : Value) (d : Option Addr) (a : Addr) : DRC := fun xs h q => ∃ C D, xs = [.loc a, .loc C] ∧ cls = .ref D ∧ d = none ∧ ExcC K D ∧ ∃ k, PySem.W.kitOne K (.ref D) (.ref C) = some k ∧ q (.bl k) h
theorem de_isE {X : Cx} {B : Hp} {b : DH} {a : Addr} {oe : Obj} {cls : Value} {d : Option Addr} {pn : List (Addr × Obj)} {e : Expr} {es : List Expr} {tas : DTA} {p pos : Pos} (hz : Zc cls d oe) (hf : ∃ vs, oe.data = .fields vs)
    (hg : Gl (X.suite a ((a, oe) :: pn)) "isinstance") (hm : X.mg "isinstance" = none) (ha : PA (X.suite a ((a, oe) :: pn)) (e :: es) (lA X.K B b tas))
    (he : starEach (e :: es) X.env = (false, eval e X.env) :: starEach es X.env := by rfl) (hpl : (backTo pos (starEach es X.env)).any (·.1) = false := by rfl) :
    PE (X.suite a ((a, oe) :: pn)) (.Call (.Name "isinstance" p) (e :: es) [] pos) (lE X.K B b (dCB (dIsE X.K cls d a) tas)) := by
  refine ⟨fun pins s σ H Q I ⟨s1, h, q, at_, t, l⟩ => ?_⟩
  by_cases hC : ∃ D, cls = .ref D ∧ d = none ∧ ExcC X.K D
  · obtain ⟨D, rfl, rfl, hC⟩ := hC
    refine (pe_callB (call_isE hC hz hf) hg hm PyProof.Rows.boot_isinstance ha (by decide) (by decide) he hpl).run pins s σ H Q I ⟨s1, h, _, at_, t, fun xs h1 z vs H1 g r => ?_⟩
    obtain ⟨C, D', rfl, e1, _, _, k, hk, z⟩ := z
    cases e1
    obtain ⟨v, w, rfl, rv, rw'⟩ := reps_two r
    rw [rv.loc_inv, rw'.loc_inv]
    exact ⟨.ref C, .ref C, k, rfl, fun u hu => hu, hk, l _ _ z _ _ g (.bl k)⟩
  · -- the arguments are evaluated, then the wish is none
    have hno : lA X.K B b tas σ H fun _ _ => False := ⟨s1, h, _, at_, t, fun xs h1 z vs H1 g r => by
      obtain ⟨C, D', _, e1, e2, e3, _⟩ := z
      exact hC ⟨D', e1, e2, e3⟩⟩
    have hcB : CallR (X.suite a ((a, oe) :: pn)) (.builtin "isinstance") (fun _ _ _ => False) := fun _ _ _ _ _ _ _ _ _ z => z.elim
    exact (pe_callB hcB hg hm PyProof.Rows.boot_isinstance ha (by decide) (by decide) he hpl).run pins s σ H Q I hno
end DL
set_option Elab.async false
set_option linter.all false
set_option maxRecDepth 100000
set_option maxHeartbeats 4000000
namespace DL
open PySem PySem.Spec PyProof.Rows L2

/-! ### expressions that make a list that nobody else has -/
abbrev DLK := List D → DH → Prop
abbrev DTL := DSt → DH → DLK → Prop
/-- a new list at p, not shown -/
structure New (K : PySem.W.Frag) (H : Hp) (h : DH) (p : Addr) (vs : List V) (ds : List D) (H1 : Hp) (h1 : DH) : Prop where
  go : Go K H h H1 h1
  old : H p = none
  hid : h1 p = none
  at_ : H1 p = some (.lst vs)
  rep : Reps K H1 vs ds
def LL (K : PySem.W.Frag) (H : Hp) (h : DH) (q : DLK) (Q : VK) : Prop := ∀ ds h1, q ds h1 → ∀ p vs H1, New K H h p vs ds H1 h1 → Q (.ref p) H1
def lL (K : PySem.W.Frag) (B : Hp) (b : DH) (t : DTL) : TE := fun σ H Q => ∃ s h q, At K B b s h σ H ∧ t s h q ∧ LL K H h q Q
section
variable {K : PySem.W.Frag} {H H1 H2 : Hp} {h h1 h2 : DH} {p : Addr} {vs : List V} {ds : List D}
theorem New.fresh (g : Go K H h H1 h1) (hp : H1 p = none) (r : Reps K (upd H1 p (.lst vs)) vs ds) : New K H h p vs ds (upd H1 p (.lst vs)) h1 :=
  ⟨g.trans (Go.tmp g.rep hp), by
    cases e : H p with
    | none => rfl
    | some o => exact absurd hp (g.dom p (by rw [e]; exact fun z => nomatch z)), g.rep.fresh hp, upd_same, r⟩
theorem New.step (n : New K H h p vs ds H1 h1) (g : Go K H1 h1 H2 h2) : New K H h p vs ds H2 h2 :=
  ⟨n.go.trans g, n.old, g.hid p n.hid (by rw [n.at_]; exact fun z => nomatch z), g.kept p _ n.hid n.at_, n.rep.mono g.tle⟩
/-- it is shown -/
theorem New.show (n : New K H h p vs ds H1 h1) : Go K H h H1 (updD h1 p (.lst ds)) := n.go.show n.old n.at_ n.rep
theorem New.back (n : New K H1 h1 p vs ds H2 h2) (g : Go K H h H1 h1) : New K H h p vs ds H2 h2 :=
  ⟨g.trans n.go, by
    cases e : H p with
    | none => rfl
    | some o => exact absurd n.old (g.dom p (by rw [e]; exact fun z => nomatch z)), n.hid, n.at_, n.rep⟩
end
def dNew (t : DTL) : DTE := fun s h q => t s h fun ds h1 => ∀ p, h1 p = none → q (.loc p) (updD h1 p (.lst ds))
def dlLst (t : DTA) : DTL := fun s h q => t s h fun xs h1 => xs.length ≤ sizeLine ∧ q xs h1
def dlLc (w : DTI) (g : DTG) (tt : DTT) (te : DTE) (vs : List Nat) : DTL := fun s h q => w s h fun xs G h1 => ∃ I : Nat → List D → DH → Prop, I 0 [] h1 ∧ (∀ i acc h, i ≤ xs.length → I i acc h → G h ∧ acc.length < accMax) ∧
  (∀ i x acc h, xs[i]? = some x → I i acc h → g x (wipeD s vs) fun s2 => tt s2 h fun k h2 => if k = true then te s2 h2 fun y h3 => I (i + 1) (acc ++ [y]) h3 else I (i + 1) acc h2) ∧
  ∀ acc h, I xs.length acc h → q acc h
def dlRg1 (t : DTE) : DTL := fun s h q => t s h fun d h1 => match d with
  | .int n => n ≤ 16777216 ∧ -(2 ^ 62) ≤ n ∧ q (rgD 0 n) h1
  | _ => False
def dlRg2 (t u : DTE) : DTL := fun s h q => t s h fun d h1 => u s h1 fun e h2 => match d, e with
  | .int m, .int n => RgOk m n ∧ q (rgD m n) h2
  | _, _ => False
/-- a list's items, a value's -/
def lstOf (d : D) (h : DH) : Option (List D) := match d with
  | .loc a => match h a with
    | some (.lst ds) => some ds
    | _ => none
  | _ => none
def dlCatVL (t : DTE) (u : DTL) : DTL := fun s h q => t s h fun d h1 => u s h1 fun ys h2 => match lstOf d h2 with
  | some xs => xs.length + ys.length ≤ sizeLine ∧ q (xs ++ ys) h2
  | none => False
def dlCatLV (t : DTL) (u : DTE) : DTL := fun s h q => t s h fun xs h1 => u s h1 fun d h2 => match lstOf d h2 with
  | some ys => xs.length + ys.length ≤ sizeLine ∧ q (xs ++ ys) h2
  | none => False
def dlCatLL (t u : DTL) : DTL := fun s h q => t s h fun xs h1 => u s h1 fun ys h2 => xs.length + ys.length ≤ sizeLine ∧ q (xs ++ ys) h2
def dlRep (t : DTL) (u : DTE) : DTL := fun s h q => t s h fun xs h1 => u s h1 fun d h2 => match d with
  | .int k => -(2 ^ 63) ≤ k ∧ k < 2 ^ 63 ∧ xs.length * k.toNat ≤ sizeLine ∧ q (List.replicate k.toNat xs).flatten h2
  | _ => False
/-- consumers -/
abbrev DRL := List D → DH → DK → Prop
def dCL (r : DRL) (t : DTL) : DTE := fun s h q => t s h fun ds h1 => r ds h1 q
def RefL (K : PySem.W.Frag) (r : RCV) (r' : DRL) : Prop := ∀ p vs ds H h q Q, H p = some (.lst vs) → Reps K H vs ds → RHp K H h → r' ds h q → LK K H h q Q → r [.ref p] H Q
def eLen : DRL := fun ds h q => q (.int (ds.length : Nat)) h
def eTuple : DRL := fun ds h q => q (.tup ds) h
def eAll : DRL := fun ds h q => ∃ bs : List Bool, ds = bs.map D.bl ∧ q (.bl (bs.all id)) h
def eAny : DRL := fun ds h q => ∃ bs : List Bool, ds = bs.map D.bl ∧ q (.bl (bs.any id)) h
def eSum : DRL := fun ds h q => ∃ ns : List Int, ds = ns.map D.int ∧ q (.int ns.sum) h
def eMax : DRL := fun ds h q => ∃ ns : List Int, ds = ns.map D.int ∧ 0 < ns.length ∧ ∀ m, m ∈ ns → (∀ y, y ∈ ns → y ≤ m) → q (.int m) h
def eMin : DRL := fun ds h q => ∃ ns : List Int, ds = ns.map D.int ∧ 0 < ns.length ∧ ∀ m, m ∈ ns → (∀ y, y ∈ ns → m ≤ y) → q (.int m) h
section
variable {K : PySem.W.Frag}
theorem rlLen : RefL K (rLenU K) eLen := fun p vs ds H h q Q e r rh z l => .inl ⟨_, _, rfl, .inl ⟨vs, SqL.of e, r.length.symm⟩, l _ _ z _ _ (Go.refl rh) (.int _)⟩
theorem rlTuple : RefL K (fun xs H Q => ∃ p ys, xs = [.ref p] ∧ ((SqL K H p ys ∧ ∀ l, H l = none → Q (.ref l) (upd H l (.tup ys))) ∨ (SqT K H p ys ∧ Q (.ref p) H))) eTuple := fun p vs ds H h q Q e r rh z l =>
  ⟨p, vs, rfl, .inl ⟨SqL.of e, fun x hx => l _ _ z _ _ (Go.tmp rh hx) (.tup upd_same (r.mono (tle_new hx)))⟩⟩
theorem rlAll : RefL K (rAll K) eAll := fun p vs ds H h q Q e r rh ⟨bs, e2, z⟩ l => by
  subst e2
  rw [reps_bls_inv r] at e
  exact ⟨p, bs, rfl, SqL.of e, l _ _ z _ _ (Go.refl rh) (.bl _)⟩
theorem rlAny : RefL K (rAny K) eAny := fun p vs ds H h q Q e r rh ⟨bs, e2, z⟩ l => by
  subst e2
  rw [reps_bls_inv r] at e
  exact ⟨p, bs, rfl, SqL.of e, l _ _ z _ _ (Go.refl rh) (.bl _)⟩
theorem rlSum : RefL K (rSum K) eSum := fun p vs ds H h q Q e r rh ⟨bs, e2, z⟩ l => by
  subst e2
  rw [reps_ints_inv r] at e
  exact ⟨p, bs, rfl, SqL.of e, l _ _ z _ _ (Go.refl rh) (.int _)⟩
theorem rlMax : RefL K (rMax K) eMax := fun p vs ds H h q Q e r rh ⟨bs, e2, h0, z⟩ l => by
  subst e2
  rw [reps_ints_inv r] at e
  exact ⟨p, bs, rfl, SqL.of e, h0, fun m a b => l _ _ (z m a b) _ _ (Go.refl rh) (.int _)⟩
theorem rlMin : RefL K (rMin K) eMin := fun p vs ds H h q Q e r rh ⟨bs, e2, h0, z⟩ l => by
  subst e2
  rw [reps_ints_inv r] at e
  exact ⟨p, bs, rfl, SqL.of e, h0, fun m a b => l _ _ (z m a b) _ _ (Go.refl rh) (.int _)⟩
end
/-- [..][i]; x in [..] -/
def dIxL (t : DTL) (u : DTE) : DTE := fun s h q => t s h fun ds h1 => u s h1 fun d h2 => match d with
  | .int k => match atI ds k with
    | some x => q x h2
    | none => False
  | _ => False
def dInL (neg : Bool) (u : DTE) (t : DTL) : DTE := fun s h q => u s h fun x h1 => t s h1 fun ds h2 => flatD x = true ∧ ds.all flatD = true ∧ q (.bl (if neg then !inD x ds else inD x ds)) h2
def dIterL (t : DTL) : DTI := fun s h r => t s h fun ds h1 => r ds (fun _ => True) h1
/-- xs.append(..), xs.extend([..]) as statements stay with the values' rules -/
def dExtL (to : DTE) (t : DTL) : DTE := fun s h q => to s h fun x h1 => t s h1 fun es h2 => match x with
  | .loc a => match h2 a with
    | some (.lst ds) => ds.length + es.length ≤ sizeLine ∧ q .non (updD h2 a (.lst (ds ++ es)))
    | _ => False
  | _ => False
section
variable {X : Cx} {B : Hp} {b : DH} {e a c o i iter tg elt : Expr} {ifs : List Expr} {es : List Expr} {ta tb te : DTE} {tl tm : DTL} {tas : DTA} {tt : DTT} {w : DTI} {g : TG} {g' : DTG} {pos p p2 apos cpos : Pos} {r : RCV} {r' : DRL} {x : Str} {id T : String}
theorem de_new (h : PE X e (lL X.K B b tl)) : PE X e (lE X.K B b (dNew tl)) := pe_weak h fun σ H Q ⟨s, h, q, at_, t, l⟩ => ⟨s, h, _, at_, t, fun ds h1 z p vs H1 n => l _ _ (z p n.hid) _ _ n.show (.loc p)⟩
theorem dl_lst (h : PA X es (lA X.K B b tas)) : PE X (.List es pos) (lL X.K B b (dlLst tas)) := pe_weak (pe_lst h) fun σ H Q ⟨s, h, q, at_, t, l⟩ => ⟨s, h, _, at_, t, fun ds h1 z vs H1 g r =>
  ⟨by rw [r.length]; exact z.1, fun p hp => l _ _ z.2 p vs _ (New.fresh g hp (r.mono (tle_new hp)))⟩⟩
theorem lL_lc {K : PySem.W.Frag} {vs : List Nat} (og : OwnG K vs g g') {σ : L2.St} {H : Hp} {Q : VK} (z : lL K B b (dlLc w g' tt te vs) σ H Q) :
    tLc (lI K B b w) g (lT K B b tt) (lE K B b te) vs σ H Q := by
  obtain ⟨s, h, q, at_, t, l⟩ := z
  refine ⟨s, h, _, at_, t, ?_⟩
  rintro xs G h1 ⟨I, i0, hG, step, fin⟩ J H1 g1 jr
  intro D hD
  have at1 := at_.step g1
  have hd1 : h1 D = none := at1.rep.fresh hD
  have gD : Go K H1 h1 (upd H1 D (.lst [])) h1 := Go.tmp at1.rep hD
  refine ⟨fun i m H2 => m = xs.length - i ∧ i ≤ xs.length ∧ ∃ acc ys h2, Go K H1 h1 H2 h2 ∧ h2 D = none ∧ H2 D = some (.lst ys) ∧ Reps K H2 ys acc ∧ I i acc h2, ⟨xs.length, by simp, Nat.zero_le _, [], [], h1, gD, hd1, upd_same, .nil, i0⟩, ?_⟩
  rintro i m H2 ⟨rfl, hi, acc, ys, h2, g2, hd2, e2, ra, i2⟩
  obtain ⟨hg2, hl2⟩ := hG i acc h2 hi i2
  by_cases hlt : i < xs.length
  · refine .inr ⟨jr.go i H2 h2 g2 hg2 hlt, fun H' => ∃ acc ys h', Go K H1 h1 H' h' ∧ h' D = none ∧ H' D = some (.lst ys) ∧ Reps K H' ys acc ∧ I (i + 1) acc h', fun H' ⟨a1, a2, a3, a4⟩ => ⟨xs.length - (i + 1), by omega, rfl, hlt, a1, a2, a3, a4⟩, fun x H' y => ?_⟩
    obtain ⟨g3, d, hd, rd⟩ := jr.yld i H2 h2 x H' g2 hg2 hlt y
    have atw : At K B b (wipeD s vs) h2 (L2.wipe σ vs) H' := ⟨((at_.st.mono ((g1.trans g2).trans g3).tle).wipe vs), at1.go.trans (g2.trans g3)⟩
    refine og x d (wipeD s vs) (L2.wipe σ vs) H' _ _ rd atw.st (step i d acc h2 hd i2) fun s3 z σ3 r3 ew => ?_
    refine ⟨ew.trans (wipe_wipe σ vs), s3, h2, _, ⟨r3, atw.go⟩, z, fun k h3 z3 H4 g4 => ?_⟩
    have ne : ∀ {o : HO}, some o ≠ (none : Option HO) := fun z => nomatch z
    have gg4 : Go K H2 h2 H4 h3 := g3.trans g4
    cases k with
    | true =>
      rw [if_pos rfl] at z3
      show (if true = true then _ else _)
      rw [if_pos rfl]
      refine ⟨s3, h3, _, ⟨r3.mono g4.tle, atw.go.trans g4⟩, z3, fun y h5 z5 vy H5 g5 r5 => ?_⟩
      have gg : Go K H2 h2 H5 h5 := gg4.trans g5
      have e5 : H5 D = some (.lst ys) := gg.kept D _ hd2 e2
      have hd5 : h5 D = none := gg.hid D hd2 (by rw [e2]; exact ne)
      have g15 := g2.trans gg
      refine ⟨ys, e5, by rw [ra.length]; exact accMax_lt hl2, acc ++ [y], ys ++ [vy], h5, g15.wr hD hd5 e5, hd5, upd_same, ?_, z5⟩
      have t5 : Tle K H5 (upd H5 D (.lst (ys ++ [vy]))) := tle_put e5 chg_lst
      exact ((ra.mono gg.tle).mono t5).append (.cons (r5.mono t5) .nil)
    | false =>
      rw [if_neg Bool.false_ne_true] at z3
      show (if false = true then _ else _)
      rw [if_neg Bool.false_ne_true]
      exact ⟨acc, ys, h3, g2.trans gg4, gg4.hid D hd2 (by rw [e2]; exact ne), gg4.kept D _ hd2 e2, ra.mono gg4.tle, z3⟩
  · have e : i = xs.length := by omega
    subst e
    have n : New K H1 h1 D ys acc H2 h2 := ⟨g2, hD, hd2, e2, ra⟩
    exact .inl ⟨jr.stop H2 h2 g2 hg2, l _ _ (fin acc h2 i2) _ _ H2 (n.back g1)⟩
theorem dl_lc {scope : Scope} {own : List (Str × Nat)} (hc : X.calm = true) (hN : X.N.Nodup) (hi : PI X tg iter (lI X.K B b w)) (ok : BlkOk X.N X.env.scope scope own) (og : OwnG X.K (own.map (·.2)) g g')
    (hg : ∀ (s : Shared) (H : Hp) (C : Addr) (cl : List (Str × Addr)) (fp : List Addr), PG (X.blk s H scope (compEnvC scope cl C X.env) fp) tg g) (ht : ∀ (s : Shared) (H : Hp) (C : Addr) (cl : List (Str × Addr)) (fp : List Addr), PTs (X.blk s H scope (compEnvC scope cl C X.env) fp) ifs (lT X.K B b tt))
    (he : ∀ (s : Shared) (H : Hp) (C : Addr) (cl : List (Str × Addr)) (fp : List Addr), PE (X.blk s H scope (compEnvC scope cl C X.env) fp) elt (lE X.K B b te)) (hs : ∀ x, foldedSetIterable iter X.env x = pure x := by intro _; rfl) :
    PE X (.ListComp elt [⟨tg, iter, ifs, 0⟩] scope pos) (lL X.K B b (dlLc w g' tt te (own.map (·.2)))) :=
  pe_weak (pe_lc hc hN hi ok hg ht he hs) fun σ H Q z => lL_lc og z
theorem ds_setLcL {i : Nat} {y : Str} {py spos : Pos} {scope : Scope} {own : List (Str × Nat)} (hc : X.calm = true) (hN : X.N.Nodup) (hy : X.N[i]? = some y) (hyl : X.env.scope.names.lookup y = some .local)
    (hsw : swapsWith (.ListComp elt [⟨tg, iter, ifs, 0⟩] scope pos) (some (.Name y py)) spos.line X.env = pure true) (hi : PI X tg iter (lI X.K B b w)) (ok : BlkOk X.N X.env.scope scope own) (og : OwnG X.K (own.map (·.2)) g g')
    (hg : ∀ (s : Shared) (H : Hp) (C : Addr) (cl : List (Str × Addr)) (fp : List Addr), PG (X.blk s H scope (compEnvC scope cl C X.env) fp) tg g) (ht : ∀ (s : Shared) (H : Hp) (C : Addr) (cl : List (Str × Addr)) (fp : List Addr), PTs (X.blk s H scope (compEnvC scope cl C X.env) fp) ifs (lT X.K B b tt))
    (he : ∀ (s : Shared) (H : Hp) (C : Addr) (cl : List (Str × Addr)) (fp : List Addr), PE (X.blk s H scope (compEnvC scope cl C X.env) fp) elt (lE X.K B b te)) (hs : ∀ x, foldedSetIterable iter X.env x = pure x := by intro _; rfl) :
    PS X (.Assign [.Name y py] (.ListComp elt [⟨tg, iter, ifs, 0⟩] scope pos) spos) (lS X.K B b (dAsg (dNew (dlLc w g' tt te (own.map (·.2)))) (pName i))) :=
  ps_weak (ps_setLc hc hN hy hyl hsw hi ok hg ht he hs) fun D σ H z => by
    obtain ⟨s, h, e, at_, t, l⟩ := z
    refine lL_lc og ⟨s, h, _, at_, t, fun ds h1 z p vs H1 n => ?_⟩
    exact l.nx _ _ (z p n.hid) _ H1 n.show ((at_.step n.go).st.set (.loc p) i)
theorem dl_rg1 (hc : X.calm = true) (hg : Gl X "list") (hm : X.mg "list" = none) (hg2 : Gl X "range") (hm2 : X.mg "range" = none) (ha : PE X a (lE X.K B b ta)) (na : starEach [a] X.env = (false, eval a X.env) :: starEach [] X.env := by rfl)
    (nb : starEach [.Call (.Name "range" p2) [a] [] apos] X.env = (false, eval (.Call (.Name "range" p2) [a] [] apos) X.env) :: starEach [] X.env := by rfl) :
    PE X (.Call (.Name "list" p) [.Call (.Name "range" p2) [a] [] apos] [] pos) (lL X.K B b (dlRg1 ta)) :=
  pe_weak (pe_listRg hc hg hm (prg_1 hg2 hm2 ha na) nb) fun σ H Q ⟨s, h, q, at_, t, l⟩ => ⟨s, h, _, at_, t, fun d h1 z v H1 g r => by
    cases d with
    | int n =>
      obtain ⟨z1, z2, z3⟩ := (z : n ≤ 16777216 ∧ -(2 ^ 62) ≤ n ∧ q (rgD 0 n) h1)
      exact ⟨n, r.int_inv, ⟨by omega, by omega, by omega, by omega, by omega⟩, fun p hp => l _ _ z3 _ _ _ (New.fresh g hp (reps_rg 0 n))⟩
    | _ => exact (z : False).elim⟩
theorem dl_rg2 (hc : X.calm = true) (hg : Gl X "list") (hm : X.mg "list" = none) (hg2 : Gl X "range") (hm2 : X.mg "range" = none) (ha : PE X a (lE X.K B b ta)) (hb : PE X c (lE X.K B b tb)) (na : starEach [a, c] X.env = (false, eval a X.env) :: starEach [c] X.env := by rfl) (nc : starEach [c] X.env = (false, eval c X.env) :: starEach [] X.env := by rfl) (hp : (backTo apos (starEach [c] X.env)).any (·.1) = false := by rfl)
    (nb : starEach [.Call (.Name "range" p2) [a, c] [] apos] X.env = (false, eval (.Call (.Name "range" p2) [a, c] [] apos) X.env) :: starEach [] X.env := by rfl) :
    PE X (.Call (.Name "list" p) [.Call (.Name "range" p2) [a, c] [] apos] [] pos) (lL X.K B b (dlRg2 ta tb)) :=
  pe_weak (pe_listRg hc hg hm (prg_2 hg2 hm2 ha hb na nc hp) nb) fun σ H Q ⟨s, h, q, at_, t, l⟩ => ⟨s, h, _, at_, t, fun d h1 z v H1 g r => ⟨s, h1, _, at_.step g, z, fun e h2 z2 w H2 g2 r2 => by
    cases d with
    | int m =>
      cases e with
      | int n =>
        obtain ⟨z1, z3⟩ := (z2 : RgOk m n ∧ q (rgD m n) h2)
        exact ⟨m, n, r.int_inv, r2.int_inv, z1, fun p hp => l _ _ z3 _ _ _ (New.fresh (g.trans g2) hp (reps_rg m n))⟩
      | _ => exact (z2 : False).elim
    | _ => exact (z2 : False).elim⟩⟩
theorem lstOf_ok {K : PySem.W.Frag} {H : Hp} {h : DH} {v : V} {d : D} {xs : List D} (r : Rep K H v d) (rh : RHp K H h) (e : lstOf d h = some xs) : ∃ a vs, v = .ref a ∧ H a = some (.lst vs) ∧ Reps K H vs xs := by
  unfold lstOf at e
  split at e
  · split at e
    · rename_i e1
      cases e
      obtain ⟨vs, h1, h2⟩ := rh.lst e1
      exact ⟨_, vs, r.loc_inv, h1, h2⟩
    · cases e
  · cases e
theorem dl_catVL (ha : PE X a (lE X.K B b ta)) (hb : PE X c (lL X.K B b tm)) : PE X (.BinOp a .Add c pos) (lL X.K B b (dlCatVL ta tm)) :=
  pe_weak (pe_op op_cat ha hb) fun σ H Q ⟨s, h, q, at_, t, l⟩ => ⟨s, h, _, at_, t, fun d h1 z v H1 g r => ⟨s, h1, _, at_.step g, z, fun ys h2 z2 p ws H2 n => by
    split at z2
    · rename_i xs hx
      obtain ⟨a, vs, rfl, h3, h4⟩ := lstOf_ok (r.mono n.go.tle) n.go.rep hx
      exact ⟨a, p, vs, ws, rfl, rfl, h3, n.at_, by rw [h4.length, n.rep.length]; exact z2.1, fun p2 hp => l _ _ z2.2 _ _ _ (New.fresh (g.trans n.go) hp ((h4.append n.rep).mono (tle_new hp)))⟩
    · exact z2.elim⟩⟩
theorem dl_catLV (ha : PE X a (lL X.K B b tl)) (hb : PE X c (lE X.K B b tb)) : PE X (.BinOp a .Add c pos) (lL X.K B b (dlCatLV tl tb)) :=
  pe_weak (pe_op op_cat ha hb) fun σ H Q ⟨s, h, q, at_, t, l⟩ => ⟨s, h, _, at_, t, fun xs h1 z p vs H1 n => ⟨s, h1, _, at_.step n.go, z, fun d h2 z2 w H2 g r => by
    have n2 := n.step g
    split at z2
    · rename_i ys hx
      obtain ⟨a, ws, rfl, h3, h4⟩ := lstOf_ok r g.rep hx
      exact ⟨p, a, vs, ws, rfl, rfl, n2.at_, h3, by rw [n2.rep.length, h4.length]; exact z2.1, fun p2 hp => l _ _ z2.2 _ _ _ (New.fresh n2.go hp ((n2.rep.append h4).mono (tle_new hp)))⟩
    · exact z2.elim⟩⟩
theorem dl_catLL (ha : PE X a (lL X.K B b tl)) (hb : PE X c (lL X.K B b tm)) : PE X (.BinOp a .Add c pos) (lL X.K B b (dlCatLL tl tm)) :=
  pe_weak (pe_op op_cat ha hb) fun σ H Q ⟨s, h, q, at_, t, l⟩ => ⟨s, h, _, at_, t, fun xs h1 z p vs H1 n => ⟨s, h1, _, at_.step n.go, z, fun ys h2 z2 p2 ws H2 m => by
    have n2 := n.step m.go
    exact ⟨p, p2, vs, ws, rfl, rfl, n2.at_, m.at_, by rw [n2.rep.length, m.rep.length]; exact z2.1, fun p3 hp => l _ _ z2.2 _ _ _ (New.fresh n2.go hp ((n2.rep.append m.rep).mono (tle_new hp)))⟩⟩⟩
theorem dl_rep (ha : PE X a (lL X.K B b tl)) (hb : PE X c (lE X.K B b tb)) : PE X (.BinOp a .Mult c pos) (lL X.K B b (dlRep tl tb)) :=
  pe_weak (pe_op op_rep ha hb) fun σ H Q ⟨s, h, q, at_, t, l⟩ => ⟨s, h, _, at_, t, fun xs h1 z p vs H1 n => ⟨s, h1, _, at_.step n.go, z, fun d h2 z2 w H2 g r => by
    have n2 := n.step g
    cases d with
    | int k =>
      obtain ⟨z3, z4, z5, z6⟩ := (z2 : -(2 ^ 63) ≤ k ∧ k < 2 ^ 63 ∧ xs.length * k.toNat ≤ sizeLine ∧ q (List.replicate k.toNat xs).flatten h2)
      exact ⟨p, k, vs, rfl, r.int_inv, n2.at_, z3, z4, by rw [n2.rep.length]; exact z5, fun p2 hp => l _ _ z6 _ _ _ (New.fresh n2.go hp (n2.rep.rep.mono (tle_new hp)))⟩
    | _ => exact (z2 : False).elim⟩⟩
theorem lE_cl {K : PySem.W.Frag} {σ : L2.St} {H : Hp} {Q : VK} (rf : RefL K r r') (z : lE K B b (dCL r' tl) σ H Q) : tCB r (tCons (lL K B b tl) tNil) σ H Q := by
  obtain ⟨s, h, q, at_, t, l⟩ := z
  exact ⟨s, h, _, at_, t, fun ds h1 z p vs H1 n => rf p vs ds H1 h1 q Q n.at_ n.rep n.go.rep z (l.go n.go)⟩
theorem de_cl (h : PE X e (tCB r (tCons (lL X.K B b tl) tNil))) (rf : RefL X.K r r') : PE X e (lE X.K B b (dCL r' tl)) := pe_weak h fun _ _ _ z => lE_cl rf z
theorem de_ixL (ha : PE X a (lL X.K B b tl)) (hb : PE X c (lE X.K B b tb)) (hs : PlainIx c) : PE X (.Subscript a c pos) (lE X.K B b (dIxL tl tb)) :=
  pe_weak (pe_ix ix_list ha hb hs) fun σ H Q ⟨s, h, q, at_, t, l⟩ => ⟨s, h, _, at_, t, fun xs h1 z p vs H1 n => ⟨s, h1, _, at_.step n.go, z, fun d h2 z2 w H2 g r => by
    have n2 := n.step g
    cases d with
    | int k =>
      have z2 : (match atI xs k with | some x => q x h2 | none => False) := z2
      split at z2
      · rename_i x hx
        obtain ⟨v, h3, h4⟩ := reps_atI n2.rep hx
        exact ⟨p, vs, k, v, rfl, r.int_inv, SqL.of n2.at_, h3, l _ _ z2 _ _ n2.go h4⟩
      · exact z2.elim
    | _ => exact (z2 : False).elim⟩⟩
theorem lE_inL {K : PySem.W.Frag} {neg : Bool} {σ : L2.St} {H : Hp} {Q : VK} (z : lE K B b (dInL neg ta tl) σ H Q) : tOp (rIn K neg) (lE K B b ta) (lL K B b tl) σ H Q := by
  obtain ⟨s, h, q, at_, t, l⟩ := z
  exact ⟨s, h, _, at_, t, fun x h1 z v H1 g r => ⟨s, h1, _, at_.step g, z, fun ds h2 z2 p vs H2 n => by
    have r2 := r.mono n.go.tle
    refine ⟨p, vs, rfl, .inl (SqL.of n.at_), flatD_ok r2 z2.1, flats_ok n.rep z2.2.1, ?_⟩
    rw [inD_ok r2 z2.1 n.rep z2.2.1]
    exact l _ _ z2.2.2 _ _ (g.trans n.go) (.bl _)⟩⟩
theorem de_inL (ha : PE X a (lE X.K B b ta)) (hb : PE X c (lL X.K B b tl)) (hm : behindInMarks .In c = false) : PE X (.Compare a [.In] [c] pos) (lE X.K B b (dInL false ta tl)) := pe_weak (pe_cmpR op_in_seq ha hb hm) fun _ _ _ z => lE_inL z
theorem de_notInL (ha : PE X a (lE X.K B b ta)) (hb : PE X c (lL X.K B b tl)) (hm : behindInMarks .NotIn c = false) : PE X (.Compare a [.NotIn] [c] pos) (lE X.K B b (dInL true ta tl)) := pe_weak (pe_cmpR op_notIn_seq ha hb hm) fun _ _ _ z => lE_inL z
theorem jr_hid {K : PySem.W.Frag} {H H1 : Hp} {h h1 : DH} {p : Addr} {vs : List V} {ds : List D} (n : New K H h p vs ds H1 h1) : JRep K H1 h1 (Itl K p) ds (fun _ => True) where
  go := fun i H h g e hi => by
    have : i < vs.length := by rw [n.rep.length]; exact hi
    exact ⟨vs, vs[i], SqL.of (g.kept p _ n.hid n.at_), List.getElem?_eq_getElem this⟩
  stop := fun H h g e => ⟨vs, SqL.of (g.kept p _ n.hid n.at_), by rw [n.rep.length]; exact Nat.le_refl _⟩
  yld := fun i H h x H' g e hi y => by
    obtain ⟨rfl, y⟩ := y
    exact ⟨Go.refl g.rep, (n.rep.mono g.tle).get' (y vs (SqL.of (g.kept p _ n.hid n.at_)))⟩
theorem di_l (he : PE X e (lL X.K B b tl)) : PI X tg e (lI X.K B b (dIterL tl)) :=
  pi_weak (pi_list he) fun σ H R ⟨s, h, r, at_, t, l⟩ => ⟨s, h, _, at_, t, fun ds h1 z p vs H1 n => ⟨p, rfl, ⟨vs, SqL.of n.at_⟩, l _ _ _ z _ _ n.go (jr_hid n)⟩⟩
end
/-! ### where the defs stand -/
structure DefAt (K : PySem.W.Frag) (mg : Str → Option Value) (x : Str) (st : Stmt) (ps : List Str) : Prop where
  ex : ∃ f fd, mg x = some (.ref f) ∧ Fun K x x st f fd ∧ Binds K fd ps []
theorem has_of {P : Program} {w : World} {K : PySem.W.Frag} {mg : Str → Option Value} {base : Heap} {x : Str} {st : Stmt} {ps : List Str} {k : Nat} {sp : DSp} (A : DefAt K mg x st ps)
    (h : ∀ f fd, Fun K x x st f fd → FnOk P w K mg base (L2.CX P w) k f fd ps (liftSp K sp)) : Has P w K mg base x k ps sp := by
  obtain ⟨f, fd, h1, F, h2⟩ := A.ex
  exact ⟨f, fd, h1, F.kp, h2, h f fd F⟩
/-! ### short names -/
section
variable {X : Cx} {B : Hp} {b : DH} {a c : Expr} {ta tb : DTE} {pos : Pos}
theorem de_add (ha : PE X a (lE X.K B b ta)) (hb : PE X c (lE X.K B b tb)) : PE X (.BinOp a .Add c pos) (lE X.K B b (dOp dAdd ta tb)) := de_op op_addU refAdd ha hb
theorem de_sub (ha : PE X a (lE X.K B b ta)) (hb : PE X c (lE X.K B b tb)) : PE X (.BinOp a .Sub c pos) (lE X.K B b (dOp dSub ta tb)) := de_op op_sub (refI0 fun _ _ _ _ => .int _) ha hb
theorem de_mul (ha : PE X a (lE X.K B b ta)) (hb : PE X c (lE X.K B b tb)) : PE X (.BinOp a .Mult c pos) (lE X.K B b (dOp dMul ta tb)) := de_op op_mulU refMul ha hb
theorem de_fdiv (ha : PE X a (lE X.K B b ta)) (hb : PE X c (lE X.K B b tb)) : PE X (.BinOp a .FloorDiv c pos) (lE X.K B b (dOp dFdiv ta tb)) := de_op op_fdiv (refII fun _ _ _ _ => .int _) ha hb
theorem de_mod (ha : PE X a (lE X.K B b ta)) (hb : PE X c (lE X.K B b tb)) : PE X (.BinOp a .Mod c pos) (lE X.K B b (dOp dMod ta tb)) := de_op op_mod (refII fun _ _ _ _ => .int _) ha hb
theorem de_pow (ha : PE X a (lE X.K B b ta)) (hb : PE X c (lE X.K B b tb)) : PE X (.BinOp a .Pow c pos) (lE X.K B b (dOp dPow ta tb)) := de_op op_pow (refII fun _ _ _ _ => .int _) ha hb
theorem de_shl (ha : PE X a (lE X.K B b ta)) (hb : PE X c (lE X.K B b tb)) : PE X (.BinOp a .LShift c pos) (lE X.K B b (dOp dShl ta tb)) := de_op op_shl (refII fun _ _ _ _ => .int _) ha hb
theorem de_shr (ha : PE X a (lE X.K B b ta)) (hb : PE X c (lE X.K B b tb)) : PE X (.BinOp a .RShift c pos) (lE X.K B b (dOp dShr ta tb)) := de_op op_shr (refII fun _ _ _ _ => .int _) ha hb
theorem de_band (ha : PE X a (lE X.K B b ta)) (hb : PE X c (lE X.K B b tb)) : PE X (.BinOp a .BitAnd c pos) (lE X.K B b (dOp dBand ta tb)) := de_op op_and (refI0 fun _ _ _ _ => .int _) ha hb
theorem de_bor (ha : PE X a (lE X.K B b ta)) (hb : PE X c (lE X.K B b tb)) : PE X (.BinOp a .BitOr c pos) (lE X.K B b (dOp dBor ta tb)) := de_op op_or (refI0 fun _ _ _ _ => .int _) ha hb
theorem de_bxor (ha : PE X a (lE X.K B b ta)) (hb : PE X c (lE X.K B b tb)) : PE X (.BinOp a .BitXor c pos) (lE X.K B b (dOp dBxor ta tb)) := de_op op_xor (refI0 fun _ _ _ _ => .int _) ha hb
theorem de_neg (ha : PE X a (lE X.K B b ta)) : PE X (.UnaryOp .USub a pos) (lE X.K B b (dUn (dI1 fun i => .int (-i)) ta)) := de_un un_neg (refI1 fun _ _ _ => .int _) ha
theorem de_inv (ha : PE X a (lE X.K B b ta)) : PE X (.UnaryOp .Invert a pos) (lE X.K B b (dUn (dI1 fun i => .int (Builtin.bitNot i)) ta)) := de_un un_inv (refI1 fun _ _ _ => .int _) ha
theorem de_lt (ha : PE X a (lE X.K B b ta)) (hb : PE X c (lE X.K B b tb)) : PE X (.Compare a [.Lt] [c] pos) (lE X.K B b (dOp dLt ta tb)) := de_cmp op_lt (refI0 fun _ _ _ _ => .bl _) ha hb (nomark _)
theorem de_le (ha : PE X a (lE X.K B b ta)) (hb : PE X c (lE X.K B b tb)) : PE X (.Compare a [.LtE] [c] pos) (lE X.K B b (dOp dLe ta tb)) := de_cmp op_le (refI0 fun _ _ _ _ => .bl _) ha hb (nomark _)
theorem de_gt (ha : PE X a (lE X.K B b ta)) (hb : PE X c (lE X.K B b tb)) : PE X (.Compare a [.Gt] [c] pos) (lE X.K B b (dOp dGt ta tb)) := de_cmp op_gt (refI0 fun _ _ _ _ => .bl _) ha hb (nomark _)
theorem de_ge (ha : PE X a (lE X.K B b ta)) (hb : PE X c (lE X.K B b tb)) : PE X (.Compare a [.GtE] [c] pos) (lE X.K B b (dOp dGe ta tb)) := de_cmp op_ge (refI0 fun _ _ _ _ => .bl _) ha hb (nomark _)
theorem de_eq (ha : PE X a (lE X.K B b ta)) (hb : PE X c (lE X.K B b tb)) : PE X (.Compare a [.Eq] [c] pos) (lE X.K B b (dOp dEqS ta tb)) := de_cmp op_eq refEqS ha hb (nomark _)
theorem de_ne (ha : PE X a (lE X.K B b ta)) (hb : PE X c (lE X.K B b tb)) : PE X (.Compare a [.NotEq] [c] pos) (lE X.K B b (dOp dNeS ta tb)) := de_cmp op_ne refNeS ha hb (nomark _)
theorem de_isN (ha : PE X a (lE X.K B b ta)) (hb : PE X c (lE X.K B b tb)) : PE X (.Compare a [.Is] [c] pos) (lE X.K B b (dOp dIsN ta tb)) := de_cmp op_isN refIsN ha hb (nomark _)
theorem de_notN (ha : PE X a (lE X.K B b ta)) (hb : PE X c (lE X.K B b tb)) : PE X (.Compare a [.IsNot] [c] pos) (lE X.K B b (dOp dNotN ta tb)) := de_cmp op_notN refNotN ha hb (nomark _)
theorem de_in (hu : X.A.units + 1 < cLine) (ha : PE X a (lE X.K B b ta)) (hb : PE X c (lE X.K B b tb)) (hm : behindInMarks .In c = false) : PE X (.Compare a [.In] [c] pos) (lE X.K B b (dOp (dIn false) ta tb)) := de_cmp (op_inU hu) refIn ha hb hm
theorem de_notIn (hu : X.A.units + 1 < cLine) (ha : PE X a (lE X.K B b ta)) (hb : PE X c (lE X.K B b tb)) (hm : behindInMarks .NotIn c = false) : PE X (.Compare a [.NotIn] [c] pos) (lE X.K B b (dOp (dIn true) ta tb)) := de_cmp (op_notInU hu) refIn ha hb hm
end
/-- a comparison as a test -/
def dTest (t : DTE) : DTT := fun s h q => t s h fun d h1 => match d with
  | .bl k => q k h1
  | _ => False
section
variable {X : Cx} {B : Hp} {b : DH} {a c : Expr} {ta tb : DTE} {tl : DTL} {pos : Pos}
theorem dt_of {e : Expr} {t : TE} {t' : DTE} (h : PT X e (tTest t)) (w : ∀ σ H Q, lE X.K B b t' σ H Q → t σ H Q) : PT X e (lT X.K B b (dTest t')) := pt_weak h fun σ H Q ⟨s, h, q, at_, t, l⟩ =>
  w σ H _ ⟨s, h, _, at_, t, fun d h1 z v H1 g r => by
    cases d with
    | bl k => exact ⟨k, r.bl_inv, l _ _ z _ g⟩
    | _ => exact (z : False).elim⟩
theorem dt_cmp {op : CmpOp} {r : R2} {r' : DR2} (ho : OpR X (compareOp op) r) (rf : RefOp X.K r r') (ha : PE X a (lE X.K B b ta)) (hb : PE X c (lE X.K B b tb)) (hm : behindInMarks op c = false) : PT X (.Compare a [op] [c] pos) (lT X.K B b (dTest (dOp r' ta tb))) :=
  dt_of (pt_cmpR ho ha hb hm) fun _ _ _ z => lE_op rf z
theorem dt_lt (ha : PE X a (lE X.K B b ta)) (hb : PE X c (lE X.K B b tb)) : PT X (.Compare a [.Lt] [c] pos) (lT X.K B b (dTest (dOp dLt ta tb))) := dt_cmp op_lt (refI0 fun _ _ _ _ => .bl _) ha hb (nomark _)
theorem dt_le (ha : PE X a (lE X.K B b ta)) (hb : PE X c (lE X.K B b tb)) : PT X (.Compare a [.LtE] [c] pos) (lT X.K B b (dTest (dOp dLe ta tb))) := dt_cmp op_le (refI0 fun _ _ _ _ => .bl _) ha hb (nomark _)
theorem dt_gt (ha : PE X a (lE X.K B b ta)) (hb : PE X c (lE X.K B b tb)) : PT X (.Compare a [.Gt] [c] pos) (lT X.K B b (dTest (dOp dGt ta tb))) := dt_cmp op_gt (refI0 fun _ _ _ _ => .bl _) ha hb (nomark _)
theorem dt_ge (ha : PE X a (lE X.K B b ta)) (hb : PE X c (lE X.K B b tb)) : PT X (.Compare a [.GtE] [c] pos) (lT X.K B b (dTest (dOp dGe ta tb))) := dt_cmp op_ge (refI0 fun _ _ _ _ => .bl _) ha hb (nomark _)
theorem dt_eq (ha : PE X a (lE X.K B b ta)) (hb : PE X c (lE X.K B b tb)) : PT X (.Compare a [.Eq] [c] pos) (lT X.K B b (dTest (dOp dEqS ta tb))) := dt_cmp op_eq refEqS ha hb (nomark _)
theorem dt_ne (ha : PE X a (lE X.K B b ta)) (hb : PE X c (lE X.K B b tb)) : PT X (.Compare a [.NotEq] [c] pos) (lT X.K B b (dTest (dOp dNeS ta tb))) := dt_cmp op_ne refNeS ha hb (nomark _)
theorem dt_isN (ha : PE X a (lE X.K B b ta)) (hb : PE X c (lE X.K B b tb)) : PT X (.Compare a [.Is] [c] pos) (lT X.K B b (dTest (dOp dIsN ta tb))) := dt_cmp op_isN refIsN ha hb (nomark _)
theorem dt_notN (ha : PE X a (lE X.K B b ta)) (hb : PE X c (lE X.K B b tb)) : PT X (.Compare a [.IsNot] [c] pos) (lT X.K B b (dTest (dOp dNotN ta tb))) := dt_cmp op_notN refNotN ha hb (nomark _)
theorem dt_in (hu : X.A.units + 1 < cLine) (ha : PE X a (lE X.K B b ta)) (hb : PE X c (lE X.K B b tb)) (hm : behindInMarks .In c = false) : PT X (.Compare a [.In] [c] pos) (lT X.K B b (dTest (dOp (dIn false) ta tb))) := dt_cmp (op_inU hu) refIn ha hb hm
theorem dt_notIn (hu : X.A.units + 1 < cLine) (ha : PE X a (lE X.K B b ta)) (hb : PE X c (lE X.K B b tb)) (hm : behindInMarks .NotIn c = false) : PT X (.Compare a [.NotIn] [c] pos) (lT X.K B b (dTest (dOp (dIn true) ta tb))) := dt_cmp (op_notInU hu) refIn ha hb hm
theorem dt_inL (ha : PE X a (lE X.K B b ta)) (hb : PE X c (lL X.K B b tl)) (hm : behindInMarks .In c = false) : PT X (.Compare a [.In] [c] pos) (lT X.K B b (dTest (dInL false ta tl))) := dt_of (pt_cmpR op_in_seq ha hb hm) fun _ _ _ z => lE_inL z
theorem dt_notInL (ha : PE X a (lE X.K B b ta)) (hb : PE X c (lL X.K B b tl)) (hm : behindInMarks .NotIn c = false) : PT X (.Compare a [.NotIn] [c] pos) (lT X.K B b (dTest (dInL true ta tl))) := dt_of (pt_cmpR op_notIn_seq ha hb hm) fun _ _ _ z => lE_inL z
end
/-! built-ins by name -/
section
variable {X : Cx} {B : Hp} {b : DH} {e : Expr} {es : List Expr} {tas : DTA} {tl : DTL} {pos p : Pos}
theorem bt_len : bootBuiltins "len" = some (.builtin "len") := by decide +kernel
theorem bt_abs : bootBuiltins "abs" = some (.builtin "abs") := by decide +kernel
theorem bt_isinstance : bootBuiltins "isinstance" = some (.builtin "isinstance") := by decide +kernel
theorem bt_all : bootBuiltins "all" = some (.builtin "all") := by decide +kernel
theorem bt_any : bootBuiltins "any" = some (.builtin "any") := by decide +kernel
theorem bt_sum : bootBuiltins "sum" = some (.builtin "sum") := by decide +kernel
theorem bt_max : bootBuiltins "max" = some (.builtin "max") := by decide +kernel
theorem bt_min : bootBuiltins "min" = some (.builtin "min") := by decide +kernel
theorem bt_sorted : bootBuiltins "sorted" = some (.builtin "sorted") := by decide +kernel
theorem bt_int : bootBuiltins "int" = some (.type "int") := by decide +kernel
theorem bt_bool : bootBuiltins "bool" = some (.type "bool") := by decide +kernel
theorem bt_str : bootBuiltins "str" = some (.type "str") := by decide +kernel
theorem bt_list : bootBuiltins "list" = some (.type "list") := by decide +kernel
theorem bt_tuple : bootBuiltins "tuple" = some (.type "tuple") := by decide +kernel
theorem bt_dict : bootBuiltins "dict" = some (.type "dict") := by decide +kernel
theorem bt_set : bootBuiltins "set" = some (.type "set") := by decide +kernel
theorem bt_range : bootBuiltins "range" = some (.type "range") := by decide +kernel
theorem de_ty {x : Str} {n : String} (hg : Gl X x) (hm : X.mg x = none) (hv : bootBuiltins x = some (.type n)) (hn : x ≠ "__name__" := by decide) (hd : (x == ("__debug__" : Str)) = false := by decide) : PE X (.Name x pos) (lE X.K B b (dC (.ty n))) :=
  de_c (pe_bltn (v := .ty n) hg hm hv rfl hn hd) fun _ _ => .ty n
theorem de_cls {x : Str} {C : Addr} (hg : Gl X x) (hm : X.mg x = some (.ref C)) (hd : (x == ("__debug__" : Str)) = false := by decide) : PE X (.Name x pos) (lE X.K B b (dC (.loc C))) :=
  de_c (pe_glob (v := .ref C) hg hm rfl hd) fun _ _ => .loc C
theorem one_l (h : PE X e (lL X.K B b tl)) (he : starEach (e :: []) X.env = (false, eval e X.env) :: starEach [] X.env := by rfl) : PA X [e] (tCons (lL X.K B b tl) tNil) := pa_cons h pa_nil he
end
end DL
set_option Elab.async false
set_option linter.all false
set_option maxRecDepth 100000
set_option maxHeartbeats 4000000
/-! the data layer: promises by the number of arguments, loops and comprehensions in the forms that are used, draws -/
namespace DL
open PySem PySem.Spec PyProof.Rows L2
def sp1 (P : D → DH → DK → DXK → Prop) : DSp := fun ds h q x => match ds with
  | [a] => P a h q x
  | _ => False
def sp2 (P : D → D → DH → DK → DXK → Prop) : DSp := fun ds h q x => match ds with
  | [a, b] => P a b h q x
  | _ => False
def sp3 (P : D → D → D → DH → DK → DXK → Prop) : DSp := fun ds h q x => match ds with
  | [a, b, c] => P a b c h q x
  | _ => False
def sp4 (P : D → D → D → D → DH → DK → DXK → Prop) : DSp := fun ds h q x => match ds with
  | [a, b, c, d] => P a b c d h q x
  | _ => False
def sp5 (P : D → D → D → D → D → DH → DK → DXK → Prop) : DSp := fun ds h q x => match ds with
  | [a, b, c, d, e] => P a b c d e h q x
  | _ => False
def sp6 (P : D → D → D → D → D → D → DH → DK → DXK → Prop) : DSp := fun ds h q x => match ds with
  | [a, b, c, d, e, f] => P a b c d e f h q x
  | _ => False
theorem inv1 {P} {ds : List D} {h : DH} {q : DK} {x : DXK} (z : sp1 P ds h q x) : ∃ a, ds = [a] ∧ P a h q x := by
  unfold sp1 at z; split at z
  · exact ⟨_, rfl, z⟩
  · exact z.elim
theorem inv2 {P} {ds : List D} {h : DH} {q : DK} {x : DXK} (z : sp2 P ds h q x) : ∃ a b, ds = [a, b] ∧ P a b h q x := by
  unfold sp2 at z; split at z
  · exact ⟨_, _, rfl, z⟩
  · exact z.elim
theorem inv3 {P} {ds : List D} {h : DH} {q : DK} {x : DXK} (z : sp3 P ds h q x) : ∃ a b c, ds = [a, b, c] ∧ P a b c h q x := by
  unfold sp3 at z; split at z
  · exact ⟨_, _, _, rfl, z⟩
  · exact z.elim
theorem inv4 {P} {ds : List D} {h : DH} {q : DK} {x : DXK} (z : sp4 P ds h q x) : ∃ a b c d, ds = [a, b, c, d] ∧ P a b c d h q x := by
  unfold sp4 at z; split at z
  · exact ⟨_, _, _, _, rfl, z⟩
  · exact z.elim
theorem inv5 {P} {ds : List D} {h : DH} {q : DK} {x : DXK} (z : sp5 P ds h q x) : ∃ a b c d e, ds = [a, b, c, d, e] ∧ P a b c d e h q x := by
  unfold sp5 at z; split at z
  · exact ⟨_, _, _, _, _, rfl, z⟩
  · exact z.elim
theorem inv6 {P} {ds : List D} {h : DH} {q : DK} {x : DXK} (z : sp6 P ds h q x) : ∃ a b c d e f, ds = [a, b, c, d, e, f] ∧ P a b c d e f h q x := by
  unfold sp6 at z; split at z
  · exact ⟨_, _, _, _, _, _, rfl, z⟩
  · exact z.elim
theorem len1 {P} : ∀ (ds : List D) (h : DH) (q : DK) (x : DXK), sp1 P ds h q x → ds.length = 1 := fun ds h q x z => by obtain ⟨_, rfl, _⟩ := inv1 z; rfl
theorem len2 {P} : ∀ (ds : List D) (h : DH) (q : DK) (x : DXK), sp2 P ds h q x → ds.length = 2 := fun ds h q x z => by obtain ⟨_, _, rfl, _⟩ := inv2 z; rfl
theorem len3 {P} : ∀ (ds : List D) (h : DH) (q : DK) (x : DXK), sp3 P ds h q x → ds.length = 3 := fun ds h q x z => by obtain ⟨_, _, _, rfl, _⟩ := inv3 z; rfl
theorem len4 {P} : ∀ (ds : List D) (h : DH) (q : DK) (x : DXK), sp4 P ds h q x → ds.length = 4 := fun ds h q x z => by obtain ⟨_, _, _, _, rfl, _⟩ := inv4 z; rfl
theorem len5 {P} : ∀ (ds : List D) (h : DH) (q : DK) (x : DXK), sp5 P ds h q x → ds.length = 5 := fun ds h q x z => by obtain ⟨_, _, _, _, _, rfl, _⟩ := inv5 z; rfl
theorem len6 {P} : ∀ (ds : List D) (h : DH) (q : DK) (x : DXK), sp6 P ds h q x → ds.length = 6 := fun ds h q x z => by obtain ⟨_, _, _, _, _, _, rfl, _⟩ := inv6 z; rfl
/-- a promise that says nothing, by no call at all -/
theorem has_none {P : Program} {w : World} {K : PySem.W.Frag} {mg : Str → Option Value} {base : Heap} {x : Str} {st : Stmt} {ps : List Str} (A : DefAt K mg x st ps) : Has P w K mg base x 0 ps (fun _ _ _ _ => False) := by
  obtain ⟨f, fd, h1, F, h2⟩ := A.ex
  exact ⟨f, fd, h1, F.kp, h2, ⟨fun vs H Q E ⟨_, _, _, _, _, _, z, _⟩ => z.elim, fun A outer s H args us vs Q E _ _ _ _ ⟨_, _, _, _, _, _, z, _⟩ => z.elim⟩⟩

/-! ### loops -/
/-- a comprehension whose test and element leave the heap as it is -/
theorem lcI {w : DTI} {xs : List D} {G : DH → Prop} {h h1 : DH} {g : DTG} {tt : DTT} {te : DTE} {vs : List Nat} {s : DSt} {q : DLK} (p : D → Bool) (f : D → D)
    (hw : ∀ r : List D → (DH → Prop) → DH → Prop, r xs G h1 → w s h r) (hG : G h1) (hl : xs.length < accMax)
    (step : ∀ x ∈ xs, ∀ (Y : D → DH → Prop) (Z : DH → Prop), (p x = true → Y (f x) h1) → (p x = false → Z h1) → g x (wipeD s vs) fun s2 => tt s2 h1 fun k h2 => if k = true then te s2 h2 Y else Z h2)
    (fin : q ((xs.filter p).map f) h1) : dlLc w g tt te vs s h q := by
  refine hw _ ⟨fun i acc h' => h' = h1 ∧ acc = ((xs.take i).filter p).map f, ⟨rfl, by simp⟩, ?_, ?_, ?_⟩
  · rintro i acc h' hi ⟨rfl, rfl⟩
    refine ⟨hG, ?_⟩
    rw [List.length_map]
    have h1 := List.length_filter_le p (xs.take i)
    rw [List.length_take] at h1
    omega
  · rintro i x acc h' hx ⟨rfl, rfl⟩
    have hm : x ∈ xs := List.mem_of_getElem? hx
    have ht : xs.take (i + 1) = xs.take i ++ [x] := by rw [List.take_add_one, hx]; rfl
    refine step x hm _ _ (fun hp => ⟨rfl, ?_⟩) (fun hp => ⟨rfl, ?_⟩)
    · rw [ht, List.filter_append, List.map_append]; simp [hp]
    · rw [ht, List.filter_append, List.map_append]; simp [hp]
  · rintro acc h' ⟨rfl, rfl⟩
    rw [List.take_length]
    exact fin
/-- without a test -/
theorem lcM {w : DTI} {xs : List D} {G : DH → Prop} {h h1 : DH} {g : DTG} {te : DTE} {vs : List Nat} {s : DSt} {q : DLK} (f : D → D)
    (hw : ∀ r : List D → (DH → Prop) → DH → Prop, r xs G h1 → w s h r) (hG : G h1) (hl : xs.length < accMax)
    (step : ∀ x ∈ xs, ∀ (Y : D → DH → Prop), Y (f x) h1 → g x (wipeD s vs) fun s2 => te s2 h1 Y)
    (fin : q (xs.map f) h1) : dlLc w g dYes te vs s h q := by
  refine lcI (fun _ => true) f hw hG hl (fun x hx Y Z hY _ => ?_) ?_
  · exact step x hx Y (hY rfl)
  · rw [List.filter_eq_self.mpr fun _ _ => rfl]; exact fin
/-- any comprehension -/
theorem lcG {w : DTI} {xs : List D} {G : DH → Prop} {h h1 : DH} {g : DTG} {tt : DTT} {te : DTE} {vs : List Nat} {s : DSt} {q : DLK} (I : Nat → List D → DH → Prop)
    (hw : ∀ r : List D → (DH → Prop) → DH → Prop, r xs G h1 → w s h r) (i0 : I 0 [] h1) (hG : ∀ i acc h, i ≤ xs.length → I i acc h → G h ∧ acc.length < accMax)
    (step : ∀ i x acc h, xs[i]? = some x → I i acc h → g x (wipeD s vs) fun s2 => tt s2 h fun k h2 => if k = true then te s2 h2 fun y h3 => I (i + 1) (acc ++ [y]) h3 else I (i + 1) acc h2)
    (fin : ∀ acc h, I xs.length acc h → q acc h) : dlLc w g tt te vs s h q := hw _ ⟨I, i0, hG, step, fin⟩
/-- a for -/
theorem forG {w : DTI} {xs : List D} {G : DH → Prop} {h h1 : DH} {g : DTG} {tb : DTS} {e : DEnds} {s : DSt} (I : Nat → DSt → DH → Prop)
    (hw : ∀ r : List D → (DH → Prop) → DH → Prop, r xs G h1 → w s h r) (i0 : I 0 s h1) (hG : ∀ i s h, i ≤ xs.length → I i s h → G h)
    (step : ∀ i x s h, xs[i]? = some x → I i s h → g x s fun s2 => tb { e with nx := I (i + 1), ct := I (i + 1), bk := e.nx } s2 h)
    (fin : ∀ s h, I xs.length s h → e.nx s h) : dFor w g tb e s h := hw _ ⟨I, i0, hG, step, fin⟩
theorem whileG {c : DTT} {tb : DTS} {e : DEnds} {s : DSt} {h : DH} (W : Nat → DSt → DH → Prop) (m0 : Nat) (w0 : W m0 s h)
    (step : ∀ m s h, W m s h → c s h fun k h1 => if k = true then True ∧ tb { e with nx := fun s' h' => ∃ m', m' < m ∧ W m' s' h', ct := fun s' h' => ∃ m', m' < m ∧ W m' s' h', bk := e.nx } s h1 else e.nx s h1)
    (mono : ∀ s h (q q' : Bool → DH → Prop), c s h q → (∀ b h, q b h → q' b h) → c s h q') : dWhile c tb e s h := by
  refine ⟨W, ⟨m0, w0⟩, fun m s h w => mono s h _ _ (step m s h w) fun k h1 z => ?_⟩
  cases k with
  | true => rw [if_pos rfl] at z ⊢; exact ⟨_, fun _ _ z => z, z.2⟩
  | false => rw [if_neg Bool.false_ne_true] at z ⊢; exact z
/-- the loops whose test is a number's or a bool's -/
theorem whileP {c : DTT} {tb : DTS} {e : DEnds} {s : DSt} {h : DH} (W : Nat → DSt → DH → Prop) (m0 : Nat) (w0 : W m0 s h)
    (step : ∀ m s h, W m s h → ∃ k : Bool, (∀ q : Bool → DH → Prop, q k h → c s h q) ∧ (k = true → tb { e with nx := fun s' h' => ∃ m', m' < m ∧ W m' s' h', ct := fun s' h' => ∃ m', m' < m ∧ W m' s' h', bk := e.nx } s h) ∧ (k = false → e.nx s h)) : dWhile c tb e s h := by
  refine ⟨W, ⟨m0, w0⟩, fun m s h w => ?_⟩
  obtain ⟨k, h1, h2, h3⟩ := step m s h w
  refine h1 _ ?_
  cases k with
  | true => rw [if_pos rfl]; exact ⟨_, fun _ _ z => z, h2 rfl⟩
  | false => rw [if_neg Bool.false_ne_true]; exact h3 rfl
/-- over coded items -/
theorem lcE {α : Type} {w : DTI} {G : DH → Prop} {h h1 : DH} {g : DTG} {tt : DTT} {te : DTE} {vs : List Nat} {s : DSt} {q : DLK} (l : List α) (enc : α → D) (p : α → Bool) (f : α → D)
    (hw : ∀ r : List D → (DH → Prop) → DH → Prop, r (l.map enc) G h1 → w s h r) (hG : G h1) (hl : l.length < accMax)
    (step : ∀ x ∈ l, ∀ (Y : D → DH → Prop) (Z : DH → Prop), (p x = true → Y (f x) h1) → (p x = false → Z h1) → g (enc x) (wipeD s vs) fun s2 => tt s2 h1 fun k h2 => if k = true then te s2 h2 Y else Z h2)
    (fin : q ((l.filter p).map f) h1) : dlLc w g tt te vs s h q := by
  refine hw _ ⟨fun i acc h' => h' = h1 ∧ acc = ((l.take i).filter p).map f, ⟨rfl, by simp⟩, ?_, ?_, ?_⟩
  · rintro i acc h' hi ⟨rfl, rfl⟩
    refine ⟨hG, ?_⟩
    rw [List.length_map] at hi ⊢
    have h1 := List.length_filter_le p (l.take i)
    rw [List.length_take] at h1
    omega
  · rintro i x acc h' hx ⟨rfl, rfl⟩
    rw [List.getElem?_map] at hx
    cases hy : l[i]? with
    | none => rw [hy] at hx; cases hx
    | some y =>
      rw [hy] at hx
      obtain rfl : enc y = x := Option.some.inj hx
      have hm : y ∈ l := List.mem_of_getElem? hy
      have ht : l.take (i + 1) = l.take i ++ [y] := by rw [List.take_add_one, hy]; rfl
      refine step y hm _ _ (fun hp => ⟨rfl, ?_⟩) (fun hp => ⟨rfl, ?_⟩)
      · rw [ht, List.filter_append, List.map_append]; simp [hp]
      · rw [ht, List.filter_append, List.map_append]; simp [hp]
  · rintro acc h' ⟨rfl, rfl⟩
    rw [List.length_map, List.take_length]
    exact fin
theorem lcEM {α : Type} {w : DTI} {G : DH → Prop} {h h1 : DH} {g : DTG} {te : DTE} {vs : List Nat} {s : DSt} {q : DLK} (l : List α) (enc : α → D) (f : α → D)
    (hw : ∀ r : List D → (DH → Prop) → DH → Prop, r (l.map enc) G h1 → w s h r) (hG : G h1) (hl : l.length < accMax)
    (step : ∀ x ∈ l, ∀ (Y : D → DH → Prop), Y (f x) h1 → g (enc x) (wipeD s vs) fun s2 => te s2 h1 Y)
    (fin : q (l.map f) h1) : dlLc w g dYes te vs s h q := by
  refine lcE l enc (fun _ => true) f hw hG hl (fun x hx Y Z hY _ => ?_) ?_
  · exact step x hx Y (hY rfl)
  · rw [List.filter_eq_self.mpr fun _ _ => rfl]; exact fin
/-- a for over coded items -/
theorem forE {α : Type} {w : DTI} {G : DH → Prop} {h h1 : DH} {g : DTG} {tb : DTS} {e : DEnds} {s : DSt} (l : List α) (enc : α → D) (I : Nat → DSt → DH → Prop)
    (hw : ∀ r : List D → (DH → Prop) → DH → Prop, r (l.map enc) G h1 → w s h r) (i0 : I 0 s h1) (hG : ∀ i s h, i ≤ l.length → I i s h → G h)
    (step : ∀ i x s h, l[i]? = some x → I i s h → g (enc x) s fun s2 => tb { e with nx := I (i + 1), ct := I (i + 1), bk := e.nx } s2 h)
    (fin : ∀ s h, I l.length s h → e.nx s h) : dFor w g tb e s h := hw _ ⟨I, i0, fun i s h hi z => hG i s h (by rw [List.length_map] at hi; exact hi) z, fun i x s h hx z => by
  rw [List.getElem?_map] at hx
  cases hy : l[i]? with
  | none => rw [hy] at hx; cases hx
  | some y =>
    rw [hy] at hx
    obtain rfl : enc y = x := Option.some.inj hx
    exact step i y s h hy z, fun s h z => fin s h (by rw [List.length_map] at z; exact z)⟩
/-- a natural number -/
def eN (k : Nat) : D := .int (k : Nat)
theorem rg0 {n : Nat} : rgD 0 (n : Nat) = (List.range n).map eN := by
  unfold rgD eN
  have e : (((n : Nat) : Int) - 0).toNat = n := by omega
  rw [e]
  apply List.map_congr_left
  intro i _
  rw [Int.zero_add]
theorem inN (a : Nat) : ∀ hs : List Nat, inD (.int (a : Nat)) (hs.map eN) = decide (a ∈ hs)
  | [] => rfl
  | k :: r => by
    have ih := inN a r
    unfold inD at ih ⊢
    rw [List.map_cons, List.any_cons, ih]
    show (((k : Nat) : Int) == (a : Nat) || decide (a ∈ r)) = decide (a ∈ k :: r)
    by_cases e : a = k
    · subst e; simp
    · have : ¬ ((k : Nat) : Int) = (a : Nat) := by omega
      simp [e, this]
theorem flatN : ∀ hs : List Nat, (hs.map eN).all flatD = true
  | [] => rfl
  | k :: r => by rw [List.map_cons, List.all_cons, flatN r]; rfl
/-- a number or None -/
def eO : Option Int → D
  | none => .non
  | some i => .int i
theorem flatO : ∀ l : List (Option Int), (l.map eO).all flatD = true
  | [] => rfl
  | k :: r => by rw [List.map_cons, List.all_cons, flatO r]; cases k <;> rfl
theorem inO : ∀ l : List (Option Int), inD .non (l.map eO) = decide (none ∈ l)
  | [] => rfl
  | k :: r => by
    have ih := inO r
    unfold inD at ih ⊢
    rw [List.map_cons, List.any_cons, ih]
    cases k <;> simp [eO, eqF]
theorem allO : ∀ {l : List (Option Int)}, none ∉ l → ∃ ns : List Int, l = ns.map some
  | [], _ => ⟨[], rfl⟩
  | none :: r, h => absurd List.mem_cons_self h
  | some k :: r, h => by
    obtain ⟨ns, e⟩ := allO (l := r) fun z => h (List.mem_cons_of_mem _ z)
    exact ⟨k :: ns, by rw [e]; rfl⟩
theorem rgD_some {a b : Int} {i : Nat} {x : D} (e : (rgD a b)[i]? = some x) : i < (b - a).toNat ∧ x = .int (a + (i : Nat)) := by
  have hl := (List.getElem?_eq_some_iff.mp e).1
  rw [rgD_len] at hl
  rw [rgD_get hl] at e
  exact ⟨hl, (Option.some.inj e).symm⟩
theorem mem_rgD {a b : Int} {x : D} (e : x ∈ rgD a b) : ∃ i : Nat, i < (b - a).toNat ∧ x = .int (a + (i : Nat)) := by
  obtain ⟨i, hi⟩ := List.mem_iff_getElem?.mp e
  exact ⟨i, rgD_some hi⟩
theorem enumD_some {ds : List D} {i : Nat} {x : D} (e : (enumD ds)[i]? = some x) : ∃ d, ds[i]? = some d ∧ x = .tup [.int (i : Nat), d] := by
  have hl := (List.getElem?_eq_some_iff.mp e).1
  rw [enumD_len] at hl
  have h1 : ds[i]? = some ds[i] := List.getElem?_eq_getElem hl
  rw [enumD_get h1] at e
  exact ⟨_, h1, (Option.some.inj e).symm⟩
theorem atI_ofNat {α : Type} {xs : List α} {j : Nat} {v : α} (h : xs[j]? = some v) : atI xs (j : Int) = some v := atI_nat h
theorem atI_map {α β : Type} (f : α → β) (xs : List α) (i : Int) : atI (xs.map f) i = (atI xs i).map f := by
  unfold atI
  rw [List.length_map]
  cases ixN xs.length i with
  | none => rfl
  | some j => show (xs.map f)[j]? = (xs[j]?).map f; rw [List.getElem?_map]
theorem accMax_big {n : Nat} (h : n ≤ 100000) : n < accMax := Nat.lt_of_le_of_lt h (by decide)
theorem sz_big {n : Nat} (h : n ≤ 100000) : n ≤ sizeLine := Nat.le_trans h (by decide)
theorem sz_lt' {n : Nat} (h : n < 100000) : n < sizeLine := Nat.lt_of_lt_of_le h (by decide)

/-! ### draws: the list [numbers, place, rest, seed] -/
structure Dr where
  i : Int
  b : Int
  sd : Int
def drL (sl : Addr) (d : Dr) : DO := .lst [.loc sl, .int d.i, .int d.b, .int d.sd]
/-- the draws at a stand over the numbers at sl -/
structure IsDr (h : DH) (a sl : Addr) (ns : List Int) (d : Dr) : Prop where
  at_ : h a = some (drL sl d)
  num : h sl = some (.lst (ns.map D.int))
  ne : sl ≠ a
  i0 : 0 ≤ d.i
  b0 : 0 ≤ d.b
theorem IsDr.next {h : DH} {a sl : Addr} {ns : List Int} {d d' : Dr} (z : IsDr h a sl ns d) (h1 : 0 ≤ d'.i) (h2 : 0 ≤ d'.b) : IsDr (updD h a (drL sl d')) a sl ns d' :=
  ⟨updD_same, by rw [updD_ne z.ne]; exact z.num, z.ne, h1, h2⟩

@[simp] theorem ty_int {i : Int} {h : DH} : tyD (.int i) h = some "int" := rfl
@[simp] theorem ty_bl {i : Bool} {h : DH} : tyD (.bl i) h = some "bool" := rfl
@[simp] theorem ty_str {i : Str} {h : DH} : tyD (.str i) h = some "str" := rfl
@[simp] theorem ty_non {h : DH} : tyD .non h = some "NoneType" := rfl
@[simp] theorem ty_tup {ds : List D} {h : DH} : tyD (.tup ds) h = some "tuple" := rfl
theorem mem_int : "int" ∈ kTys := by decide
theorem mem_bool : "bool" ∈ kTys := by decide
theorem mem_str : "str" ∈ kTys := by decide
theorem mem_tuple : "tuple" ∈ kTys := by decide
theorem mem_list : "list" ∈ kTys := by decide
theorem mem_dict : "dict" ∈ kTys := by decide
theorem isTy_self {t : String} : isTy t t = true := by unfold isTy; rw [if_pos rfl]
theorem isTy_bool_int : isTy "bool" "int" = true := by decide
theorem isTy_int_bool : isTy "int" "bool" = false := by decide
theorem isTy_int_tuple : isTy "int" "tuple" = false := by decide
theorem isTy_int_list : isTy "int" "list" = false := by decide
theorem isTy_int_str : isTy "int" "str" = false := by decide
theorem isTy_bool_tuple : isTy "bool" "tuple" = false := by decide
theorem isTy_bool_list : isTy "bool" "list" = false := by decide
theorem isTy_bool_str : isTy "bool" "str" = false := by decide
theorem isTy_str_bool : isTy "str" "bool" = false := by decide
theorem isTy_str_int : isTy "str" "int" = false := by decide
theorem isTy_str_tuple : isTy "str" "tuple" = false := by decide
theorem isTy_str_list : isTy "str" "list" = false := by decide
theorem isTy_non_tuple : isTy "NoneType" "tuple" = false := by decide
theorem isTy_non_list : isTy "NoneType" "list" = false := by decide
theorem isTy_non_str : isTy "NoneType" "str" = false := by decide
theorem isTy_non_int : isTy "NoneType" "int" = false := by decide
theorem isTy_non_bool : isTy "NoneType" "bool" = false := by decide
theorem isTy_tup_list : isTy "tuple" "list" = false := by decide
theorem isTy_tup_int : isTy "tuple" "int" = false := by decide
theorem isTy_tup_str : isTy "tuple" "str" = false := by decide
theorem isTy_tup_bool : isTy "tuple" "bool" = false := by decide
theorem isTy_list_tup : isTy "list" "tuple" = false := by decide
theorem isTy_list_int : isTy "list" "int" = false := by decide
theorem isTy_list_bool : isTy "list" "bool" = false := by decide
theorem isTy_list_str : isTy "list" "str" = false := by decide
theorem isTy_whole {t : String} (h : t ∈ kTys) : (isTy t "int" = true → (!isTy t "bool") = decide (t = "int")) ∧ (¬ isTy t "int" = true → false = decide (t = "int")) := by
  have z : kTys.all (fun t => (!isTy t "int" || ((!isTy t "bool") == decide (t = "int"))) && (isTy t "int" || (false == decide (t = "int")))) = true := by decide +kernel
  rw [List.all_eq_true] at z
  have z := z t h
  simp only [Bool.and_eq_true, Bool.or_eq_true, Bool.not_eq_true', beq_iff_eq] at z
  refine ⟨fun a => ?_, fun a => ?_⟩
  · rcases z.1 with y | y
    · rw [y] at a; cases a
    · exact y
  · rcases z.2 with y | y
    · exact absurd y a
    · exact y
theorem at_0 {x0 : D} {r : List D} : atI (x0 :: r) 0 = some x0 := atI_nat (j := 0) rfl
theorem at_1 {x0 x1 : D} {r : List D} : atI (x0 :: x1 :: r) 1 = some x1 := atI_nat (j := 1) rfl
theorem at_2 {x0 x1 x2 : D} {r : List D} : atI (x0 :: x1 :: x2 :: r) 2 = some x2 := atI_nat (j := 2) rfl
theorem at_3 {x0 x1 x2 x3 : D} {r : List D} : atI (x0 :: x1 :: x2 :: x3 :: r) 3 = some x3 := atI_nat (j := 3) rfl
theorem at_4 {x0 x1 x2 x3 x4 : D} {r : List D} : atI (x0 :: x1 :: x2 :: x3 :: x4 :: r) 4 = some x4 := atI_nat (j := 4) rfl
theorem at_5 {x0 x1 x2 x3 x4 x5 : D} {r : List D} : atI (x0 :: x1 :: x2 :: x3 :: x4 :: x5 :: r) 5 = some x5 := atI_nat (j := 5) rfl
theorem at_6 {x0 x1 x2 x3 x4 x5 x6 : D} {r : List D} : atI (x0 :: x1 :: x2 :: x3 :: x4 :: x5 :: x6 :: r) 6 = some x6 := atI_nat (j := 6) rfl
theorem at_7 {x0 x1 x2 x3 x4 x5 x6 x7 : D} {r : List D} : atI (x0 :: x1 :: x2 :: x3 :: x4 :: x5 :: x6 :: x7 :: r) 7 = some x7 := atI_nat (j := 7) rfl
theorem at_m1_1 {x0 : D} : atI [x0] (-1) = some x0 := rfl
theorem at_m1_2 {x0 x1 : D} : atI [x0, x1] (-1) = some x1 := rfl
theorem at_m1_3 {x0 x1 x2 : D} : atI [x0, x1, x2] (-1) = some x2 := rfl
theorem at_m1_4 {x0 x1 x2 x3 : D} : atI [x0, x1, x2, x3] (-1) = some x3 := rfl
theorem at_m1_5 {x0 x1 x2 x3 x4 : D} : atI [x0, x1, x2, x3, x4] (-1) = some x4 := rfl
theorem at_m1_6 {x0 x1 x2 x3 x4 x5 : D} : atI [x0, x1, x2, x3, x4, x5] (-1) = some x5 := rfl
theorem nc_0 : ((0 : Nat) : Int) = 0 := rfl
theorem nc_1 : ((1 : Nat) : Int) = 1 := rfl
theorem nc_2 : ((2 : Nat) : Int) = 2 := rfl
theorem nc_3 : ((3 : Nat) : Int) = 3 := rfl
theorem nc_4 : ((4 : Nat) : Int) = 4 := rfl
theorem nc_5 : ((5 : Nat) : Int) = 5 := rfl
theorem nc_6 : ((6 : Nat) : Int) = 6 := rfl
theorem nc_7 : ((7 : Nat) : Int) = 7 := rfl
theorem nc_8 : ((8 : Nat) : Int) = 8 := rfl
theorem nc_9 : ((9 : Nat) : Int) = 9 := rfl
theorem nc_10 : ((10 : Nat) : Int) = 10 := rfl
theorem nc_11 : ((11 : Nat) : Int) = 11 := rfl
theorem nc_12 : ((12 : Nat) : Int) = 12 := rfl
theorem len_map {α : Type} {f : α → D} {l : List α} : (l.map f).length = l.length := List.length_map _
theorem ixN_nat {n j : Nat} (hj : j < n) : ixN n (j : Int) = some j := by
  unfold ixN
  rw [if_pos (by omega), if_pos (by omega)]
  simp
theorem dIn_N {h : DH} {a : Addr} {hs : List Nat} {k : Nat} {neg : Bool} {q : DK} (e : h a = some (.lst (hs.map eN))) : dIn neg (.int (k : Nat)) (.loc a) h q = q (.bl (if neg then !decide (k ∈ hs) else decide (k ∈ hs))) h := by
  unfold dIn
  simp only [e, flatN, inN]
  simp [flatD]
theorem dIn_O {h : DH} {a : Addr} {l : List (Option Int)} {neg : Bool} {q : DK} (e : h a = some (.lst (l.map eO))) : dIn neg .non (.loc a) h q = q (.bl (if neg then !decide (none ∈ l) else decide (none ∈ l))) h := by
  unfold dIn
  simp only [e, flatO, inO]
  simp [flatD]
theorem Sub.mut {h h1 : DH} {p : Addr} {u : DO} (s : DL.Sub h h1) (e : h p = Option.none) : DL.Sub h (updD h1 p u) := fun a w q => by
  rw [updD_ne (show a ≠ p from fun z => by subst z; rw [e] at q; cases q)]
  exact s a w q
theorem Sub.put {h h1 : DH} {p : Addr} {o u : DO} (s : DL.Sub (updD h p o) h1) : DL.Sub (updD h p u) (updD h1 p u) := by
  have := Sub.upd (p := p) (u := u) s
  rw [updD_updD] at this
  exact this
theorem nat_inj {a b : Nat} : ((a : Int) = (b : Int)) = (a = b) := propext ⟨fun h => by omega, fun h => by omega⟩
theorem nat_zero {a : Nat} : ((a : Int) = 0) = (a = 0) := propext ⟨fun h => by omega, fun h => by omega⟩
theorem lstOf_upd {h : DH} {p : Addr} {ds : List D} : lstOf (.loc p) (updD h p (.lst ds)) = some ds := by unfold lstOf; simp only [updD_same]

/-! ### dicts as functions -/
theorem valD_put {κ : Type} [DecidableEq κ] (kvs : List (κ × D)) (k k' : κ) (v : D) : valD (putD kvs k v) k' = if k' = k then some v else valD kvs k' := by
  unfold putD
  by_cases ha : (kvs.any fun kv => decide (kv.1 = k)) = true
  · rw [if_pos ha]
    induction kvs with
    | nil => simp at ha
    | cons p r ih =>
      obtain ⟨k1, v1⟩ := p
      unfold valD at ih ⊢
      rw [List.map_cons, List.find?_cons, List.find?_cons]
      by_cases e1 : k1 = k
      · subst e1
        simp only [if_true]
        by_cases e2 : k1 = k'
        · subst e2; simp
        · have e3 : ¬ k' = k1 := fun z => e2 z.symm
          simp only [decide_eq_false e2, if_neg e3]
          by_cases hb : (r.any fun kv => decide (kv.1 = k1)) = true
          · have := ih hb
            rw [if_neg e3] at this
            exact this
          · congr 1
            have : r.map (fun kv => if kv.1 = k1 then (kv.1, v) else kv) = r := by
              conv => rhs; rw [← List.map_id r]
              apply List.map_congr_left
              intro kv hkv
              rw [if_neg (fun z => hb (List.any_eq_true.mpr ⟨kv, hkv, decide_eq_true z⟩))]
              rfl
            rw [this]
      · have hb : (r.any fun kv => decide (kv.1 = k)) = true := by
          rw [List.any_cons, decide_eq_false e1, Bool.false_or] at ha; exact ha
        simp only [if_neg e1]
        by_cases e2 : k1 = k'
        · subst e2
          simp [e1]
        · simp only [decide_eq_false e2]
          exact ih hb
  · rw [if_neg ha]
    unfold valD
    rw [List.find?_append]
    have hn : ∀ kv ∈ kvs, ¬ kv.1 = k := fun kv hkv z => ha (List.any_eq_true.mpr ⟨kv, hkv, decide_eq_true z⟩)
    by_cases e : k' = k
    · subst e
      have : kvs.find? (fun kv => decide (kv.1 = k')) = none := List.find?_eq_none.mpr fun kv hkv => by simpa using hn kv hkv
      rw [this]; simp
    · rw [if_neg e]
      have e2 : ¬ k = k' := fun z => e z.symm
      cases kvs.find? (fun kv => decide (kv.1 = k')) <;> simp [e2]
theorem putD_len {κ : Type} [DecidableEq κ] (kvs : List (κ × D)) (k : κ) (v : D) : (putD kvs k v).length ≤ kvs.length + 1 := by
  unfold putD
  split
  · rw [List.length_map]; omega
  · rw [List.length_append]; exact Nat.le_refl _
theorem valD_nil {κ : Type} [DecidableEq κ] (k : κ) : valD ([] : List (κ × D)) k = none := rfl
/-- node by node its place -/
def seenOf (ns : List Nat) : List (Key × D) := ns.zipIdx.map fun p => (Sum.inl ((p.1 : Nat) : Int), eN p.2)
theorem seen_len (ns : List Nat) : (seenOf ns).length = ns.length := by unfold seenOf; simp
theorem seen_snoc (ns : List Nat) (v : Nat) : seenOf (ns ++ [v]) = seenOf ns ++ [(Sum.inl (v : Int), eN ns.length)] := by
  unfold seenOf
  rw [List.zipIdx_append, List.map_append]
  simp
theorem seen_none {ns : List Nat} {v : Nat} (h : v ∉ ns) : valD (seenOf ns) (Sum.inl (v : Int)) = none := by
  unfold valD
  have : (seenOf ns).find? (fun kv => decide (kv.1 = Sum.inl (v : Int))) = none := List.find?_eq_none.mpr fun kv hkv => by
    obtain ⟨p, hp, rfl⟩ := List.mem_map.mp hkv
    have h1 : p.1 ∈ ns := by
      have := List.mem_zipIdx hp
      rw [this.2.2]
      exact List.getElem_mem _
    simp only [decide_eq_true_eq]
    intro z
    have := Sum.inl.inj z
    have : p.1 = v := by omega
    exact h (this ▸ h1)
  rw [this]; rfl
theorem seen_from : ∀ (ns : List Nat) (k i v : Nat), ns.Nodup → ns[i]? = some v → valD ((ns.zipIdx k).map fun p => ((Sum.inl ((p.1 : Nat) : Int) : Key), eN p.2)) (Sum.inl (v : Int)) = some (eN (k + i))
  | [], _, _, _, _, h => by simp at h
  | x :: r, k, i, v, nd, h => by
    rw [List.zipIdx_cons, List.map_cons]
    unfold valD
    rw [List.find?_cons]
    rw [List.nodup_cons] at nd
    cases i with
    | zero =>
      simp at h
      subst h
      simp
    | succ i =>
      have h : r[i]? = some v := by simpa using h
      have hne : ¬ x = v := fun z => nd.1 (z ▸ List.mem_of_getElem? h)
      have hne2 : ¬ ((Sum.inl ((x : Nat) : Int) : Key) = Sum.inl (v : Int)) := fun z => hne (by have := Sum.inl.inj z; omega)
      have ih := seen_from r (k + 1) i v nd.2 h
      unfold valD at ih
      simp only [decide_eq_false hne2]
      rw [ih]
      congr 2
      omega
theorem seen_some {ns : List Nat} (nd : ns.Nodup) {v i : Nat} (h : ns[i]? = some v) : valD (seenOf ns) (Sum.inl (v : Int)) = some (eN i) := by
  have := seen_from ns 0 i v nd h
  rw [Nat.zero_add] at this
  exact this
theorem seen_put {ns : List Nat} {v : Nat} (h : v ∉ ns) : putD (seenOf ns) (Sum.inl (v : Int)) (eN ns.length) = seenOf (ns ++ [v]) := by
  unfold putD
  have : ((seenOf ns).any fun kv => decide (kv.1 = Sum.inl (v : Int))) = false := by
    rw [Bool.eq_false_iff]
    intro z
    obtain ⟨kv, hkv, e⟩ := List.any_eq_true.mp z
    have := seen_none h
    unfold valD at this
    rw [Option.map_eq_none_iff, List.find?_eq_none] at this
    exact this kv hkv e
  rw [this, if_neg Bool.false_ne_true, seen_snoc]
theorem filter_lt {α : Type} {p q : α → Bool} {l : List α} (h : ∀ x, q x = true → p x = true) {x : α} (hx : x ∈ l) (h1 : p x = true) (h2 : q x = false) : (l.filter q).length < (l.filter p).length := by
  induction l with
  | nil => cases hx
  | cons y r ih =>
    have le : (r.filter q).length ≤ (r.filter p).length := by
      clear ih hx
      induction r with
      | nil => exact Nat.le_refl _
      | cons z r ih =>
        rw [List.filter_cons, List.filter_cons]
        by_cases hz : q z = true
        · rw [if_pos hz, if_pos (h z hz)]; exact Nat.succ_le_succ ih
        · rw [if_neg hz]
          split
          · exact Nat.le_succ_of_le ih
          · exact ih
    rw [List.filter_cons, List.filter_cons]
    rcases List.mem_cons.mp hx with e | hx
    · subst e
      rw [h1, h2]; simp; omega
    · have := ih hx
      by_cases hz : q y = true
      · rw [if_pos hz, if_pos (h y hz)]; exact Nat.succ_lt_succ this
      · rw [if_neg hz]
        split
        · exact Nat.lt_succ_of_lt this
        · exact this

theorem nodup_le : ∀ {n : Nat} {ns : List Nat}, ns.Nodup → (∀ v ∈ ns, v < n) → ns.length ≤ n := by
  intro n
  induction n with
  | zero =>
    intro ns nd h
    cases ns with
    | nil => exact Nat.le_refl _
    | cons v r => exact absurd (h v List.mem_cons_self) (Nat.not_lt_zero _)
  | succ n ih =>
    intro ns nd h
    have h1 : (ns.erase n).length ≤ n := ih (nd.erase n) fun v hv => by
      have h2 := (List.Nodup.mem_erase_iff nd).mp hv
      have h3 := h v h2.2
      have := h2.1
      omega
    rw [List.length_erase] at h1
    split at h1
    · omega
    · omega

theorem cut_from (xs : List D) (j : Nat) : DL.cutD xs (some (j : Int)) none = xs.drop j := by
  have h1 : HT.sIx xs.length 0 (some (j : Int)) = min j xs.length := by
    show (if (j : Int) < 0 then ((j : Int) + xs.length).toNat else min (j : Int).toNat xs.length) = _
    rw [if_neg (by omega)]
    simp
  have h2 : HT.sIx xs.length xs.length none = xs.length := rfl
  unfold DL.cutD
  rw [h1, h2]
  by_cases h : j ≤ xs.length
  · rw [Nat.min_eq_left h]
    exact List.take_of_length_le (by rw [List.length_drop]; exact Nat.le_refl _)
  · rw [Nat.min_eq_right (by omega), List.drop_length, List.drop_eq_nil_of_le (by omega)]
    simp
theorem cut_to (xs : List D) (j : Nat) : DL.cutD xs none (some (j : Int)) = xs.take j := by
  have h1 : HT.sIx xs.length xs.length (some (j : Int)) = min j xs.length := by
    show (if (j : Int) < 0 then ((j : Int) + xs.length).toNat else min (j : Int).toNat xs.length) = _
    rw [if_neg (by omega)]
    simp
  have h2 : HT.sIx xs.length 0 none = 0 := rfl
  unfold DL.cutD
  rw [h1, h2, List.drop_zero, Nat.sub_zero]
  by_cases h : j ≤ xs.length
  · rw [Nat.min_eq_left h]
  · rw [Nat.min_eq_right (by omega), List.take_length, List.take_of_length_le (by omega)]
theorem cut_all (xs : List D) : DL.cutD xs none none = xs := by
  unfold DL.cutD
  have h1 : HT.sIx xs.length xs.length none = xs.length := rfl
  have h2 : HT.sIx xs.length 0 none = 0 := rfl
  rw [h1, h2, List.drop_zero, Nat.sub_zero, List.take_length]
theorem sz_0 : (0 ≤ sizeLine) = True := eq_true (sz_big (by decide))
theorem sz_1 : (1 ≤ sizeLine) = True := eq_true (sz_big (by decide))
theorem sz_2 : (2 ≤ sizeLine) = True := eq_true (sz_big (by decide))
theorem sz_3 : (3 ≤ sizeLine) = True := eq_true (sz_big (by decide))
theorem sz_4 : (4 ≤ sizeLine) = True := eq_true (sz_big (by decide))
theorem sz_5 : (5 ≤ sizeLine) = True := eq_true (sz_big (by decide))
theorem sz_6 : (6 ≤ sizeLine) = True := eq_true (sz_big (by decide))
theorem sz_7 : (7 ≤ sizeLine) = True := eq_true (sz_big (by decide))
theorem sz_8 : (8 ≤ sizeLine) = True := eq_true (sz_big (by decide))
theorem sz_9 : (9 ≤ sizeLine) = True := eq_true (sz_big (by decide))
theorem sz_10 : (10 ≤ sizeLine) = True := eq_true (sz_big (by decide))
theorem sz_11 : (11 ≤ sizeLine) = True := eq_true (sz_big (by decide))
theorem sz_12 : (12 ≤ sizeLine) = True := eq_true (sz_big (by decide))
theorem sz_13 : (13 ≤ sizeLine) = True := eq_true (sz_big (by decide))
theorem sz_14 : (14 ≤ sizeLine) = True := eq_true (sz_big (by decide))
theorem sz_15 : (15 ≤ sizeLine) = True := eq_true (sz_big (by decide))
theorem sz_16 : (16 ≤ sizeLine) = True := eq_true (sz_big (by decide))
theorem sz_17 : (17 ≤ sizeLine) = True := eq_true (sz_big (by decide))
theorem sz_18 : (18 ≤ sizeLine) = True := eq_true (sz_big (by decide))
theorem sz_19 : (19 ≤ sizeLine) = True := eq_true (sz_big (by decide))
theorem sz_20 : (20 ≤ sizeLine) = True := eq_true (sz_big (by decide))
end DL
set_option Elab.async false
set_option linter.all false
set_option maxRecDepth 100000
set_option maxHeartbeats 4000000
/-! the data layer: set(list of ints), sorted(set) -/
namespace DL
open PySem PySem.Spec PyProof.Rows L2
/-- an empty set as it is made -/
abbrev mt (w : World) : Obj := { cls := .type "set", dict := none, data := .set #[] 0 (.fresh 0 0 (!w.params.followText "set-order")) }
section
variable {P : Program} {w : World} {A : Around} {E : Value → Shared → Prop} {s : Shared}
set_option maxHeartbeats 3200000 in
/-- set(xs): a fresh set of the ints of a list; all else is kept -/
theorem set_of_list {l : Addr} {its : Array Value} (ks : List Int) {Q : Value → Shared → Prop} (noh : A.handled = none) (isl : s.heap.IsList l its) (iar : IntsAre its.toList ks) (few : ks.length + 1 < scanBound)
    (go : ∀ (g : Heap) (t n : Nat), SetR w g s.heap.objs.size (fun j => decide (j ∈ ks)) n → n ≤ ks.length → (∀ b o, s.heap.get? b = some o → g.get? b = some o) → Q (.ref s.heap.objs.size) { s with heap := g, toks := t }) :
    wpAny (model P w) A (call (.type "set") [.ref l]) Q E s := by
  have len : its.size = ks.length := by rw [← Array.length_toList]; exact IntsAre.length iar
  obtain ⟨c0, t0, m0⟩ := F.called_set.mro
  have m1 := F.called_set.made; have m2 := F.called_set.sub
  refine wpAny_call (codeAny_of_tree ?_)
  show wpAny _ _ (callAny (.type "set") _) _ _ _
  refine wpAny_pure ⟨(Code.quiet_builtin _ (by decide +kernel)), codeAny_builtin F.entry_type_call ?_⟩
  rw [Around.under_plain (weight_type_call_type "set" [Value.ref l] []) rfl]
  have m3 := F.called_set.notType; have m4 := F.called_set.canCreate; have m5 := F.typeCall_set_1 (Value.ref l)
  repeat (any_goals (first | assumption | wp_step))
  refine codeAny_mono (code_set_led1 (Value.ref l) (E := E) (Q₁ := fun v u => v = .ref s.heap.objs.size ∧ u = { s with heap := s.heap.push (mt w) }) ⟨rfl, rfl⟩) fun r u hu => ?_
  cases r with
  | error e => exact hu
  | ok fl =>
    cases fl with
    | ret v =>
      obtain ⟨rfl, rfl⟩ := hu
      have at0 : (s.heap.push (mt w)).get? s.heap.objs.size = some (mt w) := Heap.get?_push_size _ rfl
      have ty0 : Shared.TypeIs { s with heap := s.heap.push (mt w) } (.ref s.heap.objs.size) "set" := ⟨_, at0, rfl⟩
      have i1 := F.called_set.init.lookup; have i2 := F.called_set.init.bind (.ref s.heap.objs.size)
      repeat (any_goals (first | assumption | wp_step))
      refine codeAny_mono (codeAny_call_builtin (R := wants (fun r u => r = .none ∧ ∃ g t n, u = { s with heap := g, toks := t } ∧ SetR w g s.heap.objs.size (fun j => decide (j ∈ ks)) n ∧ n ≤ ks.length ∧
          ∀ b o, s.heap.get? b = some o → g.get? b = some o) E) F.called_set.init.plain F.entry_set_init (check_set_init_1 ty0 ?_)) fun r2 u2 hu2 => ?_
      · obtain ⟨⟨oc, od, oa, os⟩, ho, hc, n0, hd⟩ := isl
        simp only at hc hd
        subst hc; subst hd
        have ho' : (s.heap.push (mt w)).get? l = some { cls := .type "list", dict := od, data := .seq its n0, slots := os } := Heap.get?_push_of_some _ ho
        have q1 := F.sub_list_set; have q2 := F.sub_list_frozenset
        have q3 : (Value.type "list" == Value.type "dict") = false := by decide
        have isl' : (s.heap.push (mt w)).IsList l its := ⟨_, ho', rfl, n0, rfl⟩
        unfold Builtin.«set.__init__»
        unfold noKeywords Builtin.Frozenset.updateFrom
        generalize hit : pyIter = it
        wp_walk
        subst hit
        refine wpAny_pyIter_list isl' (wpAny_bind (wpAny_runValue ?_))
        have lt0 : l < s.heap.objs.size := Heap.lt_size ho
        have sz : (s.heap.push (mt w)).objs.size = s.heap.objs.size + 1 := Heap.size_push ..
        have ne1 : l ≠ (s.heap.push (mt w)).objs.size := by rw [sz]; exact Nat.ne_of_lt (Nat.lt_succ_of_lt lt0)
        have nin : s.heap.objs.size ∉ [(s.heap.push (mt w)).objs.size, l] := by
          rw [sz]; simp only [List.mem_cons, List.not_mem_nil, or_false]
          rintro (h | h)
          · exact absurd h (Nat.ne_of_lt (Nat.lt_succ_self _))
          · exact absurd h (Nat.ne_of_gt lt0)
        have val : ∀ (i : Nat) (v : Value), its[i]? = some v → ∃ k t, ks[i]? = some k ∧ v = .int k t := fun i v hv => by
          have hi : i < ks.length := by rw [← len]; exact (Array.getElem?_eq_some_iff.mp hv).1
          obtain ⟨t, e⟩ := IntsAre.int_at iar i v (by rw [Array.getElem?_toList]; exact hv)
          exact ⟨ks[i], t, List.getElem?_eq_getElem hi, by rw [e, List.getD_eq_getElem?_getD, List.getElem?_eq_getElem hi] <;> rfl⟩
        refine set_update_ints ((Walks.list (by simp [noh]) _ l ne1 its).toS) s.heap.objs.size nin ks len few val (its.size - 0) 0 _ (by omega) (Nat.zero_le _) ⟨⟨_, Heap.get?_push_size _ rfl, rfl, rfl⟩, (isl'.push _)⟩ ?st ?en
        case st => exact ⟨0, Nat.le_refl 0, setR_new_at (Heap.get?_push_of_some _ at0)⟩
        case en =>
          intro u n hm hn hS
          obtain ⟨g, gg, dd, tt, oo⟩ := u
          obtain rfl : gg = s.gens := hm.gens
          obtain rfl : dd = s.drawn := hm.drawn
          obtain rfl : oo = s.os := hm.os
          show wpAny _ _ _ _ _ _
          refine wpAny_pure ?_
          show wpAny _ _ (ret Value.none) _ _ _
          rw [len] at hn
          refine wpAny_pure ⟨rfl, g, tt, n, rfl, hS, hn, fun b o e => ?_⟩
          have b0 : b < s.heap.objs.size := Heap.lt_size e
          refine hm.heap b o ?_ (Heap.get?_push_of_some _ (Heap.get?_push_of_some _ e))
          simp only [List.mem_cons, List.not_mem_nil, or_false]
          rw [sz]
          rintro (h | h)
          · exact absurd h (Nat.ne_of_lt b0)
          · exact absurd h (Nat.ne_of_lt (Nat.lt_succ_of_lt b0))
      · cases r2 with
        | error e => exact hu2
        | ok fl2 =>
          cases fl2 with
          | ret v =>
            obtain ⟨rfl, g, t, n, rfl, hS, hn, hk⟩ := hu2
            repeat (any_goals (first | assumption | wp_step))
            exact go _ _ _ hS hn hk
          | _ => exact hu2.elim
    | _ => exact hu.elim
end
def rSetL (K : PySem.W.Frag) (w : World) : List V → Hp → VK → Prop := fun xs H Q => ∃ (l : Addr) (ks : List Int), xs = [V.ref l] ∧ SqL K H l (ks.map V.int) ∧ ks.length ≤ 1000 ∧ ∀ p n, H p = none → n ≤ ks.length → Q (.ref p) (upd H p (SetO w p (fun j => decide (j ∈ ks)) n))
section
variable {X : Cx}
theorem cr_setL (hc : X.calm = true) : CallR X (.type "set") (rSetL X.K X.w) := by
  intro pins s σ H xs us Q I r h
  obtain ⟨l, ks, rfl, hl, hf, q⟩ := h
  rw [Vals.ref1 r]
  obtain ⟨its, rv, pl, _⟩ := I.list hl
  have free : H s.heap.objs.size = none := I.hok.fresh (Nat.le_refl _)
  refine set_of_list (P := X.prog) (w := X.w) ks (I.ok.hd hc) pl.isList (by simpa using ints_of_vals rv) (by unfold scanBound; omega) fun g t n R hn k => ?_
  exact ⟨.ref s.heap.objs.size, upd H s.heap.objs.size (SetO X.w s.heap.objs.size (fun j => decide (j ∈ ks)) n), I.laid (t' := t) k (Nat.le_refl _) (setO_new R), rfl, q _ n free hn⟩
/-- sorted(set(xs)), fewer than 64 ints -/
def dSortSet (t : DTA) : DTE := fun s h q => t s h fun ds h1 => match ds with
  | [.loc a] => ∃ ks : List Int, h1 a = some (.lst (ks.map D.int)) ∧ ks.length < 64 ∧ ∀ (ns : List Int) (p : Addr), ns.Pairwise (· < ·) → (∀ k : Int, k ∈ ns ↔ k ∈ ks) → h1 p = none → q (.loc p) (updD h1 p (.lst (ns.map D.int)))
  | _ => False
theorem de_sortset {B : Hp} {b : DH} {e : Expr} {t : DTA} {p1 p2 pos1 pos2 : Pos} (hc : X.calm = true) (g1 : Gl X "sorted") (m1 : X.mg "sorted" = none) (g2 : Gl X "set") (m2 : X.mg "set" = none) (ha : PA X [e] (lA X.K B b t))
    (he1 : starEach [.Call (.Name "set" p2) [e] [] pos2] X.env = (false, eval (.Call (.Name "set" p2) [e] [] pos2) X.env) :: starEach [] X.env := by rfl) (he2 : starEach (e :: []) X.env = (false, eval e X.env) :: starEach [] X.env := by rfl) :
    PE X (.Call (.Name "sorted" p1) [.Call (.Name "set" p2) [e] [] pos2] [] pos1) (lE X.K B b (dSortSet t)) := by
  refine pe_weak (pe_callB (cr_sortedSet hc) g1 m1 bt_sorted (pa_cons (pe_callTy (cr_setL hc) g2 m2 bt_set ha (by decide) (by decide) he2 (by rfl)) pa_nil he1) (by decide) (by decide) he1 (by rfl)) fun σ H Q ⟨s, h, q, at_, z, l⟩ => ?_
  refine ⟨s, h, _, at_, z, fun ds h1 z1 vs H1 g r => ?_⟩
  split at z1
  · rename_i a
    obtain ⟨ks, e1, few, z1⟩ := z1
    obtain ⟨v, rfl, rv⟩ := reps_one r
    rw [rv.loc_inv]
    obtain ⟨ws, h2, h3⟩ := g.rep.lst e1
    have e2 := reps_ints_inv h3
    subst e2
    refine ⟨a, ks, rfl, SqL.of h2, by omega, fun p n hp hn => ?_⟩
    show tNil σ _ _
    refine ⟨p, _, n, rfl, upd_same, by omega, fun ns p2 pw mem hl hp2 => ?_⟩
    have g2 := Go.tmp (o := SetO X.w p (fun j => decide (j ∈ ks)) n) g.rep hp
    have hp1 : h1 p2 = none := g2.rep.fresh hp2
    have mem2 : ∀ k : Int, k ∈ ns ↔ k ∈ ks := fun k => by rw [mem k]; simp
    exact l _ _ (z1 ns p2 pw mem2 hp1) _ _ (g.trans (g2.trans (Go.new g2.rep hp2 (reps_ints ns)))) (.loc p2)
  · exact z1.elim
end
/-- tuple(range(n)) -/
def dTupR1 (t : DTE) : DTE := fun s h q => t s h fun d h1 => match d with
  | .int n => n ≤ 16777216 ∧ -(2 ^ 62) ≤ n ∧ q (.tup (rgD 0 n)) h1
  | _ => False
theorem de_tuprg1 {X : Cx} {B : Hp} {b : DH} {a : Expr} {ta : DTE} {p p2 apos pos : Pos} (hc : X.calm = true) (hg : Gl X "tuple") (hm : X.mg "tuple" = none) (hg2 : Gl X "range") (hm2 : X.mg "range" = none) (ha : PE X a (lE X.K B b ta))
    (n1 : starEach [a] X.env = (false, eval a X.env) :: starEach [] X.env := by rfl)
    (n2 : starEach [.Call (.Name "range" p2) [a] [] apos] X.env = (false, eval (.Call (.Name "range" p2) [a] [] apos) X.env) :: starEach [] X.env := by rfl) :
    PE X (.Call (.Name "tuple" p) [.Call (.Name "range" p2) [a] [] apos] [] pos) (lE X.K B b (dTupR1 ta)) :=
  pe_weak (pe_tupRg hc hg hm (prg_1 hg2 hm2 ha n1) n2) fun σ H Q ⟨s, h, q, at_, t, l⟩ => ⟨s, h, _, at_, t, fun d h1 z v H1 g r => by
    cases d with
    | int n =>
      obtain ⟨z1, z2, z3⟩ := (z : n ≤ 16777216 ∧ -(2 ^ 62) ≤ n ∧ q (.tup (rgD 0 n)) h1)
      exact ⟨n, r.int_inv, ⟨by omega, by omega, by omega, by omega, by omega⟩, fun x hx => l _ _ z3 _ _ (g.trans (Go.tmp g.rep hx)) (.tup upd_same ((reps_rg 0 n).mono (tle_new hx)))⟩
    | _ => exact (z : False).elim⟩
end DL
set_option Elab.async false
set_option linter.all false
set_option maxRecDepth 100000
set_option maxHeartbeats 4000000
/-! the data layer: dict displays, sorted, zip -/
namespace DL
open PySem PySem.Spec PyProof.Rows L2
section
variable {K : PySem.W.Frag} {H H1 H2 : Hp} {h h1 h2 : DH} {p : Addr} {o o0 : HO} {u : DO}
/-- an object that was not there and is not shown is written, and shown -/
theorem Go.out (g : Go K H h H1 h1) (e : H p = none) (e1 : h1 p = none) (z : H1 p = some o0) (c : Chg o0) (r : RepO K (upd H1 p o) o u) : Go K H h (upd H1 p o) (updD h1 p u) := by
  have t : Tle K H1 (upd H1 p o) := tle_put z c
  refine ⟨g.tle.trans t, fun a q => dom_upd a (g.dom a q), fun a q y => ?_, fun a o q y => ?_, fun a w q => ?_⟩
  · rw [updD_ne (show a ≠ p from fun x => by subst x; exact y e)]; exact g.hid a q y
  · rw [upd_ne (ne_of_none y e)]; exact g.kept a o q y
  · by_cases x : a = p
    · subst x; rw [updD_same] at q; cases q; exact ⟨o, upd_same, r⟩
    · rw [updD_ne x] at q
      obtain ⟨o', y, r⟩ := g.rep a w q
      exact ⟨o', by rw [upd_ne x]; exact y, r.mono t⟩
end
/-- {k: v} -/
def dDisp1 (tk tv : DTE) : DTE := fun s h q => tk s h fun y h1 => tv s h1 fun v h2 => match keyD y with
  | some k => ∀ p, h2 p = none → q (.loc p) (updD h2 p (.dK [(k, v)]))
  | none => False
def dSortD : DRC := fun xs h q => match xs with
  | [.loc a] => match h a with
    | some (.dK kds) => ∃ ks : List Int, kds.map (·.1) = ks.map Sum.inl ∧ ks.length < 64 ∧ ∀ (ys : List Int) (p : Addr), ys.Perm ks → ys.Pairwise (· ≤ ·) → h p = none → q (.loc p) (updD h p (.lst (ys.map D.int)))
    | some (.lst ds) => ∃ ks : List Int, ds = ks.map D.int ∧ ∀ (ys : List Int) (p : Addr), ys.Perm ks → ys.Pairwise (· ≤ ·) → h p = none → q (.loc p) (updD h p (.lst (ys.map D.int)))
    | _ => False
  | _ => False
def rSortDU (K : PySem.W.Frag) : RCV := fun xs H Q => (∃ (a : Addr) (kvs : List (Key × V)) (ks : List Int), xs = [.ref a] ∧ Rd H a (.dK kvs) ∧ kvs.map (·.1) = ks.map Sum.inl ∧ ks.length < 64 ∧
    ∀ (ys : List Int) (p : Addr), ys.Perm ks → ys.Pairwise (· ≤ ·) → H p = none → Q (.ref p) (upd H p (.lst (ys.map V.int)))) ∨ rSortedI K xs H Q
theorem call_sortDU {X : Cx} (hc : X.calm = true) : CallR X (.builtin "sorted") (rSortDU X.K) := (call_sortedDI hc).or cr_sortedI
theorem repKV_keys {κ : Type} {K : PySem.W.Frag} {H : Hp} : ∀ {kvs : List (κ × V)} {kds : List (κ × D)}, RepKV K H kvs kds → kvs.map (·.1) = kds.map (·.1)
  | _, _, .nil => rfl
  | _, _, .cons q t => by rw [List.map_cons, List.map_cons, q.1, repKV_keys t]
theorem refSortD {K : PySem.W.Frag} : RefCB K (rSortDU K) dSortD := fun xs ds H h q Q r rh z l => by
  unfold dSortD at z
  split at z
  · obtain ⟨v, rfl, rv⟩ := reps_one r
    rw [rv.loc_inv]
    split at z
    · rename_i kds e
      obtain ⟨ks, e1, few, z⟩ := z
      obtain ⟨kvs, h1, h2⟩ := rh.dK e
      exact .inl ⟨_, kvs, ks, rfl, .of h1, (repKV_keys h2).trans e1, few, fun ys p pm pw hp => l _ _ (z ys p pm pw (rh.fresh hp)) _ _ (Go.new rh hp (reps_ints ys)) (.loc p)⟩
    · rename_i ds e
      obtain ⟨ks, rfl, z⟩ := z
      obtain ⟨vs, h1, h2⟩ := rh.lst e
      obtain rfl := reps_ints_inv h2
      exact .inr ⟨_, ks, rfl, SqL.of h1, fun ys p pm pw hp => l _ _ (z ys p pm pw (rh.fresh hp)) _ _ (Go.new rh hp (reps_ints ys)) (.loc p)⟩
    · exact z.elim
  · exact z.elim
def zipD (xs ys : List D) : List D := (xs.zip ys).map fun p => D.tup [p.1, p.2]
def dZip (t : DTA) : DTI := fun s h r => t s h fun ds h1 => match ds with
  | [.tup xs, .tup ys] => r (zipD xs ys) (fun _ => True) h1
  | [.loc a, .loc c] => match h1 a, h1 c with
    | some (.lst xs), some (.lst ys) => r (zipD xs ys) (fun h => h a = some (.lst xs) ∧ h c = some (.lst ys)) h1
    | _, _ => False
  | _ => False
theorem zipD_len (xs ys : List D) : (zipD xs ys).length = min xs.length ys.length := by unfold zipD; rw [List.length_map, List.length_zip]
theorem zipD_get {xs ys : List D} {i : Nat} {x y : D} (h : xs[i]? = some x) (h' : ys[i]? = some y) : (zipD xs ys)[i]? = some (.tup [x, y]) := by
  unfold zipD
  rw [List.getElem?_map, List.getElem?_zip_eq_some (z := (x, y)) |>.mpr ⟨h, h'⟩]; rfl
theorem zipD_some {xs ys : List D} {i : Nat} {z : D} (h : (zipD xs ys)[i]? = some z) : ∃ x y, xs[i]? = some x ∧ ys[i]? = some y ∧ z = .tup [x, y] := by
  unfold zipD at h
  rw [List.getElem?_map] at h
  cases e : (xs.zip ys)[i]? with
  | none => rw [e] at h; cases h
  | some p =>
    rw [e] at h
    obtain ⟨h1, h2⟩ := List.getElem?_zip_eq_some.mp (show (xs.zip ys)[i]? = some (p.1, p.2) from e)
    exact ⟨p.1, p.2, h1, h2, (Option.some.inj h).symm⟩
theorem jr_zipT {K : PySem.W.Frag} {H0 : Hp} {h0 : DH} {a c : Addr} {vs ws : List V} {ds es : List D} (h1 : H0 a = some (.tup vs)) (h2 : Reps K H0 vs ds) (h3 : H0 c = some (.tup ws)) (h4 : Reps K H0 ws es) :
    JRep K H0 h0 (RZ.ItzT K a c) (zipD ds es) (fun _ => True) where
  go := fun i H h g e hi => by
    rw [zipD_len, ← h2.length, ← h4.length] at hi
    have i1 : i < vs.length := by omega
    have i2 : i < ws.length := by omega
    exact ⟨vs, ws, vs[i], ws[i], SqT.of (g.tle.tup _ _ h1), SqT.of (g.tle.tup _ _ h3), List.getElem?_eq_getElem i1, List.getElem?_eq_getElem i2⟩
  stop := fun H h g e => ⟨vs, ws, SqT.of (g.tle.tup _ _ h1), SqT.of (g.tle.tup _ _ h3), by rw [h2.length, h4.length, zipD_len]; omega⟩
  yld := fun i H h x H' g e hi y => by
    obtain ⟨T, x, z, rfl, hT, rfl, y1, y2⟩ := y
    obtain ⟨d1, hd1, rd1⟩ := (h2.mono g.tle).get' (y1 vs (SqT.of (g.tle.tup _ _ h1)))
    obtain ⟨d2, hd2, rd2⟩ := (h4.mono g.tle).get' (y2 ws (SqT.of (g.tle.tup _ _ h3)))
    exact ⟨Go.tmp g.rep hT, _, zipD_get hd1 hd2, .tup upd_same (.cons (rd1.mono (tle_new hT)) (.cons (rd2.mono (tle_new hT)) .nil))⟩
theorem jr_zipL {K : PySem.W.Frag} {H0 : Hp} {h0 : DH} {a c : Addr} {ds es : List D} :
    JRep K H0 h0 (Itz K a c) (zipD ds es) (fun h => h a = some (.lst ds) ∧ h c = some (.lst es)) where
  go := fun i H h g e hi => by
    obtain ⟨vs, h1, h2⟩ := g.rep.lst e.1
    obtain ⟨ws, h3, h4⟩ := g.rep.lst e.2
    rw [zipD_len, ← h2.length, ← h4.length] at hi
    have i1 : i < vs.length := by omega
    have i2 : i < ws.length := by omega
    exact ⟨vs, ws, vs[i], ws[i], SqL.of h1, SqL.of h3, List.getElem?_eq_getElem i1, List.getElem?_eq_getElem i2⟩
  stop := fun H h g e => by
    obtain ⟨vs, h1, h2⟩ := g.rep.lst e.1
    obtain ⟨ws, h3, h4⟩ := g.rep.lst e.2
    exact ⟨vs, ws, SqL.of h1, SqL.of h3, by rw [h2.length, h4.length, zipD_len]; omega⟩
  yld := fun i H h x H' g e hi y => by
    obtain ⟨T, x, z, rfl, hT, rfl, y1, y2⟩ := y
    obtain ⟨vs, h1, h2⟩ := g.rep.lst e.1
    obtain ⟨ws, h3, h4⟩ := g.rep.lst e.2
    obtain ⟨d1, hd1, rd1⟩ := h2.get' (y1 vs (SqL.of h1))
    obtain ⟨d2, hd2, rd2⟩ := h4.get' (y2 ws (SqL.of h3))
    exact ⟨Go.tmp g.rep hT, _, zipD_get hd1 hd2, .tup upd_same (.cons (rd1.mono (tle_new hT)) (.cons (rd2.mono (tle_new hT)) .nil))⟩
section
variable {X : Cx} {B : Hp} {b : DH} {e e2 a c : Expr} {tk tv : DTE} {tas : DTA} {pos p : Pos}
theorem de_disp1 (hk : PE X a (lE X.K B b tk)) (hv : PE X c (lE X.K B b tv)) : PE X (.Dict [some a] [c] pos) (lE X.K B b (dDisp1 tk tv)) :=
  pe_weak (pe_disp (pps_cons hk hv pps_nil) rfl rfl (by simp) (by simp)) fun σ H Q ⟨s, h, q, at_, t, l⟩ p hp => by
    have at1 := at_.step (Go.tmp (o := .dK []) at_.rep hp)
    have hp0 := at_.rep.fresh hp
    refine ⟨s, h, _, at1, t, fun y h1 z1 v1 H1 g1 r1 => ⟨s, h1, _, at1.step g1, z1, fun v h2 z2 w H2 g2 r2 => ?_⟩⟩
    have k : H2 p = some (.dK []) := (g1.trans g2).kept p _ hp0 upd_same
    have hp2 : h2 p = none := (g1.trans g2).hid p hp0 (by rw [upd_same]; exact fun z => nomatch z)
    split at z2
    · rename_i k' ek
      obtain rfl := keyD_ok r1 ek
      refine ⟨k, [(k', w)], rfl, by simp, ?_⟩
      have gg := ((Go.tmp (o := .dK []) at_.rep hp).trans (g1.trans g2))
      refine l _ _ (z2 p hp2) _ _ (gg.out hp hp2 k chg_dK (o := .dK [(k', w)]) (u := .dK [(k', v)]) ?_) (.loc p)
      have t2 : Tle X.K H2 (upd H2 p (.dK [(k', w)])) := tle_put k chg_dK
      exact .cons ⟨rfl, r2.mono t2⟩ .nil
    · exact z2.elim
theorem di_zip {elts : List Expr} {kk : Nat} {tpos : Pos} (hg : Gl X "zip") (hm : X.mg "zip" = none) (ha : PA X [e, e2] (lA X.K B b tas))
    (hs : starEach [e, e2] X.env = (false, eval e X.env) :: starEach [e2] X.env := by rfl) (hpl : (backTo pos (starEach [e2] X.env)).any (·.1) = false := by rfl) :
    PI X (.Tuple elts kk tpos) (.Call (.Name "zip" p) [e, e2] [] pos) (lI X.K B b (dZip tas)) :=
  pi_weak (RZ.pi_zipA hg hm ha hs hpl) fun σ H R ⟨s1, h, r, at_, t, l⟩ => ⟨s1, h, _, at_, t, fun ds h1 z vs H1 g rv => by
    unfold dZip at t
    split at z
    · obtain ⟨v, w, rfl, r1, r2⟩ := reps_two rv
      obtain ⟨pa, vs, rfl, a1, a2⟩ := r1.tup_inv
      obtain ⟨pc, ws, rfl, c1, c2⟩ := r2.tup_inv
      exact ⟨pa, pc, vs, ws, rfl, .inr ⟨SqT.of a1, SqT.of c1, l _ _ _ z _ _ g (jr_zipT a1 a2 c1 c2)⟩⟩
    · obtain ⟨v, w, rfl, r1, r2⟩ := reps_two rv
      split at z
      · rename_i xs ys e1 e2
        obtain ⟨vs, a1, a2⟩ := g.rep.lst e1
        obtain ⟨ws, c1, c2⟩ := g.rep.lst e2
        exact ⟨_, _, vs, ws, by rw [r1.loc_inv, r2.loc_inv], .inl ⟨SqL.of a1, SqL.of c1, l _ _ _ z _ _ g jr_zipL⟩⟩
      · exact z.elim
    · exact z.elim⟩
end
end DL
set_option Elab.async false
set_option linter.all false
set_option maxRecDepth 100000
set_option maxHeartbeats 4000000
/-! the data layer: dicts by nodes, sorted lists of nodes -/
namespace DL
open PySem PySem.Spec PyProof.Rows L2
def dictN (ns : List Nat) (f : Nat → D) : List (Key × D) := ns.map fun v => (Sum.inl ((v : Nat) : Int), f v)
def updF {α : Type} (f : Nat → α) (v : Nat) (d : α) : Nat → α := fun u => if u = v then d else f u
theorem updF_same {α : Type} {f : Nat → α} {v : Nat} {d : α} : updF f v d v = d := by unfold updF; rw [if_pos rfl]
theorem updF_ne {α : Type} {f : Nat → α} {v u : Nat} {d : α} (h : u ≠ v) : updF f v d u = f u := by unfold updF; rw [if_neg h]
def addN (ns : List Nat) (v : Nat) : List Nat := if v ∈ ns then ns else ns ++ [v]
theorem mem_addN {ns : List Nat} {v u : Nat} : u ∈ addN ns v ↔ u ∈ ns ∨ u = v := by
  unfold addN
  split
  · rename_i h
    exact ⟨.inl, fun z => z.elim id fun e => e ▸ h⟩
  · simp
theorem nodup_addN {ns : List Nat} {v : Nat} (nd : ns.Nodup) : (addN ns v).Nodup := by
  unfold addN
  split
  · exact nd
  · rename_i h
    exact List.nodup_append.mpr ⟨nd, by simp, fun a ha c hc => by
      have : c = v := by simpa using hc
      subst this
      exact fun z => h (z ▸ ha)⟩
theorem key_inj {u v : Nat} : ((Sum.inl ((u : Nat) : Int) : Key) = Sum.inl ((v : Nat) : Int)) ↔ u = v := by
  constructor
  · intro h
    have := Sum.inl.inj h
    omega
  · intro h; rw [h]
theorem dict_val (f : Nat → D) (v : Nat) : ∀ ns : List Nat, valD (dictN ns f) (Sum.inl (v : Int)) = if v ∈ ns then some (f v) else none
  | [] => by simp [dictN, valD]
  | u :: r => by
    have ih := dict_val f v r
    unfold dictN valD at ih ⊢
    rw [List.map_cons, List.find?_cons]
    by_cases h : u = v
    · subst h; simp
    · have h1 : ¬ ((Sum.inl ((u : Nat) : Int) : Key) = Sum.inl ((v : Nat) : Int)) := fun z => h (key_inj.mp z)
      have h2 : ¬ v = u := fun z => h z.symm
      simp only [h1, decide_false, List.mem_cons, h2, false_or]
      exact ih
theorem dict_any (f : Nat → D) (v : Nat) (ns : List Nat) : ((dictN ns f).any fun kv => decide (kv.1 = Sum.inl ((v : Nat) : Int))) = decide (v ∈ ns) := by
  unfold dictN
  rw [List.any_map, Bool.eq_iff_iff, List.any_eq_true, decide_eq_true_eq]
  constructor
  · rintro ⟨u, hu, h⟩
    simp only [Function.comp_apply, decide_eq_true_eq] at h
    rw [← key_inj.mp h]; exact hu
  · exact fun h => ⟨v, h, by simp⟩
theorem dict_put (f : Nat → D) (v : Nat) (d : D) (ns : List Nat) : putD (dictN ns f) (Sum.inl (v : Int)) d = dictN (addN ns v) (updF f v d) := by
  unfold putD addN
  rw [dict_any]
  by_cases h : v ∈ ns
  · simp only [h, decide_true, if_true]
    unfold dictN
    rw [List.map_map]
    apply List.map_congr_left
    intro u _
    simp only [Function.comp_apply, key_inj, updF]
    split
    · rfl
    · rfl
  · simp only [h, decide_false, Bool.false_eq_true, if_false]
    unfold dictN
    rw [List.map_append]
    congr 1
    · apply List.map_congr_left
      intro u hu
      rw [updF_ne (fun z : u = v => h (by rw [← z]; exact hu))]
    · simp [updF]
theorem dict_len {ns : List Nat} {f : Nat → D} : (dictN ns f).length = ns.length := List.length_map _
theorem dict_keys {ns : List Nat} {f : Nat → D} : (dictN ns f).map (·.1) = (ns.map fun (v : Nat) => (v : Int)).map Sum.inl := by
  unfold dictN
  rw [List.map_map, List.map_map]; rfl
theorem dict_one {v : Nat} {d : D} : [((Sum.inl ((v : Nat) : Int) : Key), d)] = dictN [v] fun _ => d := rfl
theorem dict_nil {f : Nat → D} : ([] : List (Key × D)) = dictN [] f := rfl
theorem dIn_dict {h : DH} {a : Addr} {ns : List Nat} {f : Nat → D} {v : Nat} {neg : Bool} {q : DK} (e : h a = some (.dK (dictN ns f))) :
    dIn neg (.int (v : Nat)) (.loc a) h q = q (.bl (if neg then !decide (v ∈ ns) else decide (v ∈ ns))) h := by
  unfold dIn
  simp only [e, getD, keyD, dict_val]
  by_cases c : v ∈ ns <;> simp [c]
theorem dIx_dict {h : DH} {a : Addr} {ns : List Nat} {f : Nat → D} {v : Nat} {q : DK} (e : h a = some (.dK (dictN ns f))) (hv : v ∈ ns) :
    dIx (.loc a) (.int (v : Nat)) h q = q (f v) h := by
  unfold dIx
  simp only [e, getD, keyD, dict_val, hv, if_true]
theorem dPut_dict {h : DH} {a : Addr} {ns : List Nat} {f : Nat → D} {v : Nat} {d : D} {q : DH → Prop} (e : h a = some (.dK (dictN ns f))) :
    dPut (.loc a) (.int (v : Nat)) d h q = (ns.length < sizeLine ∧ q (updD h a (.dK (dictN (addN ns v) (updF f v d))))) := by
  unfold dPut
  simp only [e, keyD, dict_put, dict_len]
theorem nats_of : ∀ {ns : List Int}, (∀ k ∈ ns, ∃ n : Nat, k = (n : Int)) → ∃ W : List Nat, ns = W.map fun (n : Nat) => (n : Int)
  | [], _ => ⟨[], rfl⟩
  | k :: r, h => by
    obtain ⟨n, rfl⟩ := h k List.mem_cons_self
    obtain ⟨W, rfl⟩ := nats_of fun k hk => h k (List.mem_cons_of_mem _ hk)
    exact ⟨n :: W, rfl⟩
theorem memI {W : List Nat} {v : Nat} : ((v : Nat) : Int) ∈ (W.map fun (n : Nat) => (n : Int)) ↔ v ∈ W := by
  rw [List.mem_map]
  constructor
  · rintro ⟨u, hu, h⟩
    have : u = v := by omega
    rw [← this]; exact hu
  · exact fun h => ⟨v, h, rfl⟩
theorem pwI {W : List Nat} : (W.map fun (n : Nat) => (n : Int)).Pairwise (· < ·) ↔ W.Pairwise (· < ·) := by
  rw [List.pairwise_map]
  constructor
  · exact fun h => h.imp fun z => by omega
  · exact fun h => h.imp fun z => by omega
theorem lt_of_le_nodup : ∀ {l : List Int}, l.Pairwise (· ≤ ·) → l.Nodup → l.Pairwise (· < ·)
  | [], _, _ => .nil
  | a :: r, h1, h2 => by
    rw [List.pairwise_cons] at h1 ⊢
    rw [List.nodup_cons] at h2
    refine ⟨fun x hx => ?_, lt_of_le_nodup h1.2 h2.2⟩
    have := h1.1 x hx
    have ne : a ≠ x := fun z => h2.1 (z ▸ hx)
    omega
theorem nodup_mapI {W : List Nat} (nd : W.Nodup) : (W.map fun (n : Nat) => (n : Int)).Nodup := by
  unfold List.Nodup at nd ⊢
  rw [List.pairwise_map]
  exact nd.imp fun z => by omega
theorem sorted_one : ∀ {l l' : List Nat}, l.Pairwise (· < ·) → l'.Pairwise (· < ·) → (∀ k, k ∈ l ↔ k ∈ l') → l = l'
  | [], [], _, _, _ => rfl
  | [], b :: _, _, _, h => nomatch (h b).mpr List.mem_cons_self
  | a :: _, [], _, _, h => nomatch (h a).mp List.mem_cons_self
  | a :: r, b :: s, h1, h2, h => by
    rw [List.pairwise_cons] at h1 h2
    have e : a = b := by
      rcases List.mem_cons.mp ((h a).mp List.mem_cons_self) with e | m1
      · exact e
      · rcases List.mem_cons.mp ((h b).mpr List.mem_cons_self) with e | m2
        · exact e.symm
        · have := h1.1 _ m2
          have := h2.1 _ m1
          omega
    subst e
    congr 1
    refine sorted_one h1.2 h2.2 fun k => ?_
    constructor
    · intro hk
      rcases List.mem_cons.mp ((h k).mp (List.mem_cons_of_mem _ hk)) with e | m
      · have := h1.1 _ hk; omega
      · exact m
    · intro hk
      rcases List.mem_cons.mp ((h k).mpr (List.mem_cons_of_mem _ hk)) with e | m
      · have := h2.1 _ hk; omega
      · exact m
theorem pw_nodup {l : List Nat} (h : l.Pairwise (· < ·)) : l.Nodup := h.imp fun z => by omega
/-- sorted of a dict's nodes -/
theorem sortD_dict {h : DH} {a : Addr} {ns : List Nat} {f : Nat → D} {q : DK} (e : h a = some (.dK (dictN ns f))) (nd : ns.Nodup) (few : ns.length < 64)
    (k : ∀ (ms : List Nat) (p : Addr), ms.Pairwise (· < ·) → (∀ v, v ∈ ms ↔ v ∈ ns) → h p = none → q (.loc p) (updD h p (.lst (ms.map eN)))) : dSortD [.loc a] h q := by
  unfold dSortD
  simp only [e]
  refine ⟨ns.map fun (v : Nat) => (v : Int), dict_keys, by rw [List.length_map]; exact few, fun ys p pm pw hp => ?_⟩
  obtain ⟨W, rfl⟩ := nats_of (ns := ys) fun k hk => by
    obtain ⟨v, _, e⟩ := List.mem_map.mp ((pm.mem_iff).mp hk)
    exact ⟨v, e.symm⟩
  have nd2 := pm.nodup_iff.mpr (nodup_mapI nd)
  rw [List.map_map]
  exact k W p (pwI.mp (lt_of_le_nodup pw nd2)) (fun v => by rw [← memI, pm.mem_iff, memI]) hp
/-- sorted of a list of nodes -/
theorem sortD_list {h : DH} {a : Addr} {ns : List Nat} {q : DK} (e : h a = some (.lst (ns.map eN)))
    (k : ∀ (ms : List Nat) (p : Addr), ms.Pairwise (· ≤ ·) → ms.Perm ns → h p = none → q (.loc p) (updD h p (.lst (ms.map eN)))) : dSortD [.loc a] h q := by
  unfold dSortD
  simp only [e]
  refine ⟨ns.map fun (v : Nat) => (v : Int), by rw [List.map_map]; rfl, fun ys p pm pw hp => ?_⟩
  obtain ⟨W, rfl⟩ := nats_of (ns := ys) fun k hk => by
    obtain ⟨v, _, e⟩ := List.mem_map.mp ((pm.mem_iff).mp hk)
    exact ⟨v, e.symm⟩
  rw [List.map_map]
  refine k W p ?_ ?_ hp
  · rw [List.pairwise_map] at pw
    exact pw.imp fun z => by omega
  · have := pm.map Int.toNat
    rw [List.map_map, List.map_map] at this
    have e1 : ∀ L : List Nat, L.map (Int.toNat ∘ fun (n : Nat) => (n : Int)) = L := fun L => by
      conv => rhs; rw [← List.map_id L]
      apply List.map_congr_left
      intro n _; simp
    rw [e1, e1] at this
    exact this
/-- sorted(set(..)) of a list of nodes -/
theorem sortset_N {h : DH} {a : Addr} {ns : List Nat} {q : DK} (e : h a = some (.lst (ns.map eN))) (few : ns.length < 64)
    (k : ∀ (ms : List Nat) (p : Addr), ms.Pairwise (· < ·) → (∀ v, v ∈ ms ↔ v ∈ ns) → h p = none → q (.loc p) (updD h p (.lst (ms.map eN)))) :
    ∃ ks : List Int, h a = some (.lst (ks.map D.int)) ∧ ks.length < 64 ∧ ∀ (ns : List Int) (p : Addr), ns.Pairwise (· < ·) → (∀ k : Int, k ∈ ns ↔ k ∈ ks) → h p = none → q (.loc p) (updD h p (.lst (ns.map D.int))) := by
  refine ⟨ns.map fun (v : Nat) => (v : Int), by rw [List.map_map]; exact e, by rw [List.length_map]; exact few, fun ys p pw mem hp => ?_⟩
  obtain ⟨W, rfl⟩ := nats_of (ns := ys) fun k hk => by
    obtain ⟨v, _, e⟩ := List.mem_map.mp ((mem k).mp hk)
    exact ⟨v, e.symm⟩
  rw [List.map_map]
  exact k W p (pwI.mp pw) (fun v => by rw [← memI, mem, memI]) hp
theorem mapII (ms : List Nat) : (ms.map fun (n : Nat) => (n : Int)).map D.int = ms.map eN := by rw [List.map_map]; rfl
theorem sortset_N' {h : DH} {ns : List Nat} {Q : List Int → Addr → Prop} (few : ns.length < 64)
    (k : ∀ (ms : List Nat) (p : Addr), ms.Pairwise (· < ·) → (∀ v, v ∈ ms ↔ v ∈ ns) → h p = none → Q (ms.map fun (n : Nat) => (n : Int)) p) :
    ∃ ks : List Int, DO.lst (ns.map eN) = DO.lst (ks.map D.int) ∧ ks.length < 64 ∧ ∀ (ns : List Int) (p : Addr), ns.Pairwise (· < ·) → (∀ k : Int, k ∈ ns ↔ k ∈ ks) → h p = none → Q ns p := by
  refine ⟨ns.map fun (v : Nat) => (v : Int), by rw [List.map_map]; rfl, by rw [List.length_map]; exact few, fun ys p pw mem hp => ?_⟩
  obtain ⟨W, rfl⟩ := nats_of (ns := ys) fun k hk => by
    obtain ⟨v, _, e⟩ := List.mem_map.mp ((mem k).mp hk)
    exact ⟨v, e.symm⟩
  exact k W p (pwI.mp pw) (fun v => by rw [← memI, mem, memI]) hp
/-- what comes after is hidden -/
theorem cut {t : DTS} {e : DEnds} {s : DSt} {h : DH} (M : DSt → DH → Prop) (h1 : ∀ n : DSt → DH → Prop, (∀ s h, M s h → n s h) → t { e with nx := n } s h) (h2 : ∀ s h, M s h → e.nx s h) : t e s h := h1 e.nx h2
theorem sum_N (f : Nat → Nat) : ∀ l : List Nat, (l.map fun k => ((f k : Nat) : Int)).sum = ((l.map f).sum : Nat)
  | [] => rfl
  | k :: r => by rw [List.map_cons, List.sum_cons, sum_N f r, List.map_cons, List.sum_cons]; omega
theorem eN_inj : ∀ {l l' : List Nat}, l.map eN = l'.map eN → l = l'
  | [], [], _ => rfl
  | [], _ :: _, h => nomatch h
  | _ :: _, [], h => nomatch h
  | x :: a, y :: b, h => by
    rw [List.map_cons, List.map_cons] at h
    injection h with h1 h2
    unfold eN at h1
    injection h1 with h1
    rw [eN_inj h2, show x = y by omega]
theorem eO_inj : ∀ {l l' : List (Option Int)}, l.map eO = l'.map eO → l = l'
  | [], [], _ => rfl
  | [], _ :: _, h => nomatch h
  | _ :: _, [], h => nomatch h
  | x :: a, y :: b, h => by
    rw [List.map_cons, List.map_cons] at h
    injection h with h1 h2
    have : x = y := by
      cases x <;> cases y
      · rfl
      · cases h1
      · cases h1
      · unfold eO at h1; injection h1 with h1; rw [h1]
    rw [eO_inj h2, this]
end DL
set_option Elab.async false
set_option linter.all false
set_option maxRecDepth 100000
set_option maxHeartbeats 4000000
/-! the data layer: the walk by heads (written by mkw.py): what comes after is kept closed until it is asked -/
namespace DL
open PySem PySem.Spec PyProof.Rows L2
def eSeq (u : DTS) (e : DEnds) : DEnds := { e with nx := u e }
theorem eSeq_nx {u : DTS} {e : DEnds} : (eSeq u e).nx = u e := Classical.byContradiction fun z => z rfl
theorem eSeq_rt {u : DTS} {e : DEnds} : (eSeq u e).rt = e.rt := Classical.byContradiction fun z => z rfl
theorem eSeq_bk {u : DTS} {e : DEnds} : (eSeq u e).bk = e.bk := Classical.byContradiction fun z => z rfl
theorem eSeq_ct {u : DTS} {e : DEnds} : (eSeq u e).ct = e.ct := Classical.byContradiction fun z => z rfl
theorem wz_seq {t u : DTS} {e : DEnds} {s : DSt} {h : DH} : dSeq t u e s h = t (eSeq u e) s h := Classical.byContradiction fun z => z rfl
theorem wz_next {e : DEnds} {s : DSt} {h : DH} : dNext e s h = e.nx s h := Classical.byContradiction fun z => z rfl
theorem wz_break {e : DEnds} {s : DSt} {h : DH} : dBreak e s h = e.bk s h := Classical.byContradiction fun z => z rfl
theorem wz_cont {e : DEnds} {s : DSt} {h : DH} : dCont e s h = e.ct s h := Classical.byContradiction fun z => z rfl
def kDrop (e : DEnds) (s : DSt) : DK := fun _ h1 => e.nx s h1
theorem wz_drop {t : DTE} {e : DEnds} {s : DSt} {h : DH} : dDrop t e s h = t s h (kDrop e s) := Classical.byContradiction fun z => z rfl
theorem wz_kDrop {e : DEnds} {s : DSt} {d : D} {h : DH} : kDrop e s d h = e.nx s h := Classical.byContradiction fun z => z rfl
theorem wz_ret {t : DTE} {e : DEnds} {s : DSt} {h : DH} : dRet t e s h = t s h e.rt := Classical.byContradiction fun z => z rfl
theorem wz_retN {e : DEnds} {s : DSt} {h : DH} : dRetN e s h = e.rt .non h := Classical.byContradiction fun z => z rfl
def kIfS (t u : DTS) (e : DEnds) (s : DSt) : Bool → DH → Prop := fun k h1 => if k = true then t e s h1 else u e s h1
theorem wz_ifS {c : DTT} {t u : DTS} {e : DEnds} {s : DSt} {h : DH} : dIfS c t u e s h = c s h (kIfS t u e s) := Classical.byContradiction fun z => z rfl
theorem wz_kIfT {t u : DTS} {e : DEnds} {s : DSt} {h : DH} : kIfS t u e s true h = t e s h := Classical.byContradiction fun z => z rfl
theorem wz_kIfF {t u : DTS} {e : DEnds} {s : DSt} {h : DH} : kIfS t u e s false h = u e s h := (if_neg Bool.false_ne_true)
theorem kIfS_dec {t u : DTS} {e : DEnds} {s : DSt} {h : DH} {P : Prop} [Decidable P] : kIfS t u e s (decide P) h = if P then t e s h else u e s h := by unfold kIfS; by_cases c : P <;> simp [c]
def kAsg (g : DTG) (e : DEnds) (s : DSt) : DK := fun d h1 => g d s fun s1 => e.nx s1 h1
def kAsg2 (e : DEnds) (h : DH) : DSt → Prop := fun s1 => e.nx s1 h
theorem wz_asg {t : DTE} {g : DTG} {e : DEnds} {s : DSt} {h : DH} : dAsg t g e s h = t s h (kAsg g e s) := Classical.byContradiction fun z => z rfl
theorem wz_kAsg {g : DTG} {e : DEnds} {s : DSt} {d : D} {h : DH} : kAsg g e s d h = g d s (kAsg2 e h) := Classical.byContradiction fun z => z rfl
theorem wz_kAsg2 {e : DEnds} {s : DSt} {h : DH} : kAsg2 e h s = e.nx s h := Classical.byContradiction fun z => z rfl
theorem wz_pName {i : Nat} {d : D} {s : DSt} {q : DSt → Prop} : pName i d s q = q (s.set i (some d)) := Classical.byContradiction fun z => z rfl
theorem wz_pTup {is : List Nat} {ds : List D} {s : DSt} {q : DSt → Prop} : pTup is (.tup ds) s q = (ds.length = is.length ∧ q (setAll s is ds)) := Classical.byContradiction fun z => z rfl
def kPar (i j : Nat) (e : DEnds) (s : DSt) : List D → DH → Prop := fun ds h1 => match ds with
  | [d, u] => e.nx ((s.set i (some d)).set j (some u)) h1
  | _ => False
theorem wz_par {i j : Nat} {ta : DTA} {e : DEnds} {s : DSt} {h : DH} : dPar i j ta e s h = ta s h (kPar i j e s) := Classical.byContradiction fun z => z rfl
theorem wz_kPar {i j : Nat} {e : DEnds} {s : DSt} {d u : D} {h : DH} : kPar i j e s [d, u] h = e.nx ((s.set i (some d)).set j (some u)) h := Classical.byContradiction fun z => z rfl
def kAug3 (i : Nat) (e : DEnds) (s : DSt) : DK := fun z h2 => e.nx (s.set i (some z)) h2
def kAug2 (i : Nat) (r : DR2) (e : DEnds) (s : DSt) (x : D) : DK := fun y h1 => r x y h1 (kAug3 i e s)
def kAug (i : Nat) (t : DTE) (r : DR2) (e : DEnds) (s : DSt) (h : DH) : Option (Option D) → Prop
  | some (some x) => t s h (kAug2 i r e s x)
  | _ => False
theorem wz_aug {i : Nat} {t : DTE} {r : DR2} {e : DEnds} {s : DSt} {h : DH} : dAug i t r e s h = kAug i t r e s h s[i]? := by unfold dAug kAug; cases s[i]? with | none => rfl | some o => cases o <;> rfl
theorem wz_kAug {i : Nat} {t : DTE} {r : DR2} {e : DEnds} {s : DSt} {h : DH} {x : D} : kAug i t r e s h (some (some x)) = t s h (kAug2 i r e s x) := Classical.byContradiction fun z => z rfl
theorem wz_kAug2 {i : Nat} {r : DR2} {e : DEnds} {s : DSt} {h : DH} {x y : D} : kAug2 i r e s x y h = r x y h (kAug3 i e s) := Classical.byContradiction fun z => z rfl
theorem wz_kAug3 {i : Nat} {e : DEnds} {s : DSt} {h : DH} {z : D} : kAug3 i e s z h = e.nx (s.set i (some z)) h := Classical.byContradiction fun z => z rfl
def kSet4 (e : DEnds) (s : DSt) : DH → Prop := fun h => e.nx s h
def kSet3 (r : DR3) (e : DEnds) (s : DSt) (v o : D) : DK := fun i h => r o i v h (kSet4 e s)
def kSet2 (ti : DTE) (r : DR3) (e : DEnds) (s : DSt) (v : D) : DK := fun o h => ti s h (kSet3 r e s v o)
def kSet1 (to ti : DTE) (r : DR3) (e : DEnds) (s : DSt) : DK := fun v h => to s h (kSet2 ti r e s v)
theorem wz_set {to ti tv : DTE} {r : DR3} {e : DEnds} {s : DSt} {h : DH} : dSet to ti tv r e s h = tv s h (kSet1 to ti r e s) := Classical.byContradiction fun z => z rfl
theorem wz_kSet1 {to ti : DTE} {r : DR3} {e : DEnds} {s : DSt} {v : D} {h : DH} : kSet1 to ti r e s v h = to s h (kSet2 ti r e s v) := Classical.byContradiction fun z => z rfl
theorem wz_kSet2 {ti : DTE} {r : DR3} {e : DEnds} {s : DSt} {v o : D} {h : DH} : kSet2 ti r e s v o h = ti s h (kSet3 r e s v o) := Classical.byContradiction fun z => z rfl
theorem wz_kSet3 {r : DR3} {e : DEnds} {s : DSt} {v o i : D} {h : DH} : kSet3 r e s v o i h = r o i v h (kSet4 e s) := Classical.byContradiction fun z => z rfl
theorem wz_kSet4 {e : DEnds} {s : DSt} {h : DH} : kSet4 e s h = e.nx s h := Classical.byContradiction fun z => z rfl
theorem wz_raise {c : Value} {w : DWX} {e : DEnds} {s : DSt} {h : DH} : dRaise c w e s h = w c none s h := Classical.byContradiction fun z => z rfl
def kTry (K : PySem.W.Frag) (c : Value) (ts : DTS) (wout : DWX) (e : DEnds) : DWX := fun cls d s1 h1 => ∃ k, PySem.W.exmOne K cls c = some k ∧ (k = true → ts e s1 h1) ∧ (k = false → wout cls d s1 h1)
theorem wz_try {tb : DWX → DTS} {K : PySem.W.Frag} {c : Value} {ts : DTS} {wout : DWX} {e : DEnds} {s : DSt} {h : DH} : dTry tb K c ts wout e s h = tb (kTry K c ts wout e) e s h := Classical.byContradiction fun z => z rfl
def eOut (i : Nat) (e : DEnds) : DEnds := { nx := fun s2 h2 => e.nx (s2.set i none) h2, rt := e.rt, bk := fun s2 h2 => e.bk (s2.set i none) h2, ct := fun s2 h2 => e.ct (s2.set i none) h2 }
theorem eOut_nx {i : Nat} {e : DEnds} {s : DSt} {h : DH} : (eOut i e).nx s h = e.nx (s.set i none) h := Classical.byContradiction fun z => z rfl
theorem eOut_rt {i : Nat} {e : DEnds} : (eOut i e).rt = e.rt := Classical.byContradiction fun z => z rfl
def kTryAs (i : Nat) (K : PySem.W.Frag) (c : Value) (ts : Value → Option Addr → Addr → DTS) (wout : DWX) (e : DEnds) : DWX := fun cls d s1 h1 => ∃ k, PySem.W.exmOne K cls c = some k ∧ (k = true → ∀ a, h1 a = none → ts cls d a (eOut i e) (s1.set i (some (.loc a))) h1) ∧ (k = false → wout cls d s1 h1)
theorem wz_tryAs {i : Nat} {tb : DWX → DTS} {K : PySem.W.Frag} {c : Value} {ts : Value → Option Addr → Addr → DTS} {wout : DWX} {e : DEnds} {s : DSt} {h : DH} : dTryAs i tb K c ts wout e s h = tb (kTryAs i K c ts wout e) e s h := Classical.byContradiction fun z => z rfl
def kVar : Option (Option D) → DH → DK → Prop
  | some (some d), h, q => q d h
  | _, _, _ => False
theorem wz_var {i : Nat} {s : DSt} {h : DH} {q : DK} : dVar i s h q = kVar s[i]? h q := by unfold dVar kVar; cases s[i]? with | none => rfl | some o => cases o <;> rfl
theorem wz_kVar {d : D} {h : DH} {q : DK} : kVar (some (some d)) h q = q d h := Classical.byContradiction fun z => z rfl
theorem wz_c {d : D} {s : DSt} {h : DH} {q : DK} : dC d s h q = q d h := Classical.byContradiction fun z => z rfl
def kOp2 (r : DR2) (x : D) (q : DK) : DK := fun y h => r x y h q
def kOp1 (r : DR2) (tb : DTE) (s : DSt) (q : DK) : DK := fun x h => tb s h (kOp2 r x q)
theorem wz_op {r : DR2} {ta tb : DTE} {s : DSt} {h : DH} {q : DK} : dOp r ta tb s h q = ta s h (kOp1 r tb s q) := Classical.byContradiction fun z => z rfl
theorem wz_kOp1 {r : DR2} {tb : DTE} {s : DSt} {x : D} {h : DH} {q : DK} : kOp1 r tb s q x h = tb s h (kOp2 r x q) := Classical.byContradiction fun z => z rfl
theorem wz_kOp2 {r : DR2} {x y : D} {h : DH} {q : DK} : kOp2 r x q y h = r x y h q := Classical.byContradiction fun z => z rfl
def kUn (r : DR1) (q : DK) : DK := fun x h => r x h q
theorem wz_un {r : DR1} {ta : DTE} {s : DSt} {h : DH} {q : DK} : dUn r ta s h q = ta s h (kUn r q) := Classical.byContradiction fun z => z rfl
theorem wz_kUn {r : DR1} {x : D} {h : DH} {q : DK} : kUn r q x h = r x h q := Classical.byContradiction fun z => z rfl
def kCons2 (x : D) (q : List D → DH → Prop) : List D → DH → Prop := fun xs h => q (x :: xs) h
def kCons1 (tr : DTA) (s : DSt) (q : List D → DH → Prop) : DK := fun x h => tr s h (kCons2 x q)
theorem wz_nil {s : DSt} {h : DH} {q : List D → DH → Prop} : dNil s h q = q [] h := Classical.byContradiction fun z => z rfl
theorem wz_cons {ta : DTE} {tr : DTA} {s : DSt} {h : DH} {q : List D → DH → Prop} : dCons ta tr s h q = ta s h (kCons1 tr s q) := Classical.byContradiction fun z => z rfl
theorem wz_kCons1 {tr : DTA} {s : DSt} {x : D} {h : DH} {q : List D → DH → Prop} : kCons1 tr s q x h = tr s h (kCons2 x q) := Classical.byContradiction fun z => z rfl
theorem wz_kCons2 {x : D} {xs : List D} {h : DH} {q : List D → DH → Prop} : kCons2 x q xs h = q (x :: xs) h := Classical.byContradiction fun z => z rfl
def kCB (r : DRC) (q : DK) : List D → DH → Prop := fun xs h => r xs h q
theorem wz_cb {r : DRC} {ta : DTA} {s : DSt} {h : DH} {q : DK} : dCB r ta s h q = ta s h (kCB r q) := Classical.byContradiction fun z => z rfl
theorem wz_kCB {r : DRC} {xs : List D} {h : DH} {q : DK} : kCB r q xs h = r xs h q := Classical.byContradiction fun z => z rfl
def kW (w : DWX) (s : DSt) : DXK := fun cls d h => w cls d s h
def kCall (sp : DSp) (w : DWX) (s : DSt) (q : DK) : List D → DH → Prop := fun ds h => sp ds h q (kW w s)
theorem wz_call {sp : DSp} {w : DWX} {ta : DTA} {s : DSt} {h : DH} {q : DK} : dCall sp w ta s h q = ta s h (kCall sp w s q) := Classical.byContradiction fun z => z rfl
theorem wz_kCall {sp : DSp} {w : DWX} {s : DSt} {ds : List D} {h : DH} {q : DK} : kCall sp w s q ds h = sp ds h q (kW w s) := Classical.byContradiction fun z => z rfl
theorem wz_kW {w : DWX} {s : DSt} {c : Value} {d : Option Addr} {h : DH} : kW w s c d h = w c d s h := Classical.byContradiction fun z => z rfl
def kTru (q : Bool → DH → Prop) : DK := fun d h => truD d h q
theorem wz_tru {t : DTE} {s : DSt} {h : DH} {q : Bool → DH → Prop} : dTru t s h q = t s h (kTru q) := Classical.byContradiction fun z => z rfl
def zTruO : Option DO → DH → (Bool → DH → Prop) → Prop
  | some (.lst xs), h, q => q (!xs.isEmpty) h
  | some (.dK kvs), h, q => q (!kvs.isEmpty) h
  | _, _, _ => False
theorem wz_kTruNon  {h : DH} {q : Bool → DH → Prop} : kTru q .non h = (q false h) := Classical.byContradiction fun z => z rfl
theorem wz_kTruBl {k : Bool} {h : DH} {q : Bool → DH → Prop} : kTru q (.bl k) h = (q k h) := Classical.byContradiction fun z => z rfl
theorem wz_kTruInt {i : Int} {h : DH} {q : Bool → DH → Prop} : kTru q (.int i) h = (q (i != 0) h) := Classical.byContradiction fun z => z rfl
theorem wz_kTruTup {xs : List D} {h : DH} {q : Bool → DH → Prop} : kTru q (.tup xs) h = (q (!xs.isEmpty) h) := Classical.byContradiction fun z => z rfl
theorem wz_kTruL {a : Addr} {h : DH} {q : Bool → DH → Prop} : kTru q (.loc a) h = zTruO (h a) h q := by unfold kTru truD; dsimp only; all_goals cases h a with | none => rfl | some o => cases o <;> rfl
theorem wz_truL {xs : List D} {h : DH} {q : Bool → DH → Prop} : zTruO (some (.lst xs)) h q = q (!xs.isEmpty) h := Classical.byContradiction fun z => z rfl
theorem wz_truK {xs : List (Key × D)} {h : DH} {q : Bool → DH → Prop} : zTruO (some (.dK xs)) h q = q (!xs.isEmpty) h := Classical.byContradiction fun z => z rfl
def kAnd (u : DTT) (s : DSt) (q : Bool → DH → Prop) : Bool → DH → Prop := fun c h => if c = true then u s h q else q false h
theorem wz_and {t u : DTT} {s : DSt} {h : DH} {q : Bool → DH → Prop} : dAnd t u s h q = t s h (kAnd u s q) := Classical.byContradiction fun z => z rfl
theorem wz_kAndT {u : DTT} {s : DSt} {h : DH} {q : Bool → DH → Prop} : kAnd u s q true h = u s h q := Classical.byContradiction fun z => z rfl
theorem wz_kAndF {u : DTT} {s : DSt} {h : DH} {q : Bool → DH → Prop} : kAnd u s q false h = q false h := (if_neg Bool.false_ne_true)
def kOr (u : DTT) (s : DSt) (q : Bool → DH → Prop) : Bool → DH → Prop := fun c h => if c = true then q true h else u s h q
theorem wz_or {t u : DTT} {s : DSt} {h : DH} {q : Bool → DH → Prop} : dOr t u s h q = t s h (kOr u s q) := Classical.byContradiction fun z => z rfl
theorem wz_kOrT {u : DTT} {s : DSt} {h : DH} {q : Bool → DH → Prop} : kOr u s q true h = q true h := Classical.byContradiction fun z => z rfl
theorem wz_kOrF {u : DTT} {s : DSt} {h : DH} {q : Bool → DH → Prop} : kOr u s q false h = u s h q := (if_neg Bool.false_ne_true)
def kNot (q : Bool → DH → Prop) : Bool → DH → Prop := fun c h => q (!c) h
theorem wz_not {t : DTT} {s : DSt} {h : DH} {q : Bool → DH → Prop} : dNot t s h q = t s h (kNot q) := Classical.byContradiction fun z => z rfl
theorem wz_kNot {c : Bool} {h : DH} {q : Bool → DH → Prop} : kNot q c h = q (!c) h := Classical.byContradiction fun z => z rfl
def kIf (ta tb : DTE) (s : DSt) (q : DK) : Bool → DH → Prop := fun c h => if c = true then ta s h q else tb s h q
theorem wz_if {t : DTT} {ta tb : DTE} {s : DSt} {h : DH} {q : DK} : dIf t ta tb s h q = t s h (kIf ta tb s q) := Classical.byContradiction fun z => z rfl
theorem wz_kIfVT {ta tb : DTE} {s : DSt} {h : DH} {q : DK} : kIf ta tb s q true h = ta s h q := Classical.byContradiction fun z => z rfl
theorem wz_kIfVF {ta tb : DTE} {s : DSt} {h : DH} {q : DK} : kIf ta tb s q false h = tb s h q := (if_neg Bool.false_ne_true)
def kAndV (tb : DTE) (s : DSt) (q : DK) : DK := fun x h => match x with
  | .bl c => if c = true then tb s h q else q (.bl false) h
  | _ => False
theorem wz_andV {ta tb : DTE} {s : DSt} {h : DH} {q : DK} : dAndV ta tb s h q = ta s h (kAndV tb s q) := Classical.byContradiction fun z => z rfl
theorem wz_kAndVT {tb : DTE} {s : DSt} {h : DH} {q : DK} : kAndV tb s q (.bl true) h = tb s h q := Classical.byContradiction fun z => z rfl
theorem wz_kAndVF {tb : DTE} {s : DSt} {h : DH} {q : DK} : kAndV tb s q (.bl false) h = q (.bl false) h := Classical.byContradiction fun z => z rfl
def kOrV (tb : DTE) (s : DSt) (q : DK) : DK := fun x h => match x with
  | .bl c => if c = true then q (.bl true) h else tb s h q
  | _ => False
theorem wz_orV {ta tb : DTE} {s : DSt} {h : DH} {q : DK} : dOrV ta tb s h q = ta s h (kOrV tb s q) := Classical.byContradiction fun z => z rfl
theorem wz_kOrVT {tb : DTE} {s : DSt} {h : DH} {q : DK} : kOrV tb s q (.bl true) h = q (.bl true) h := Classical.byContradiction fun z => z rfl
theorem wz_kOrVF {tb : DTE} {s : DSt} {h : DH} {q : DK} : kOrV tb s q (.bl false) h = tb s h q := Classical.byContradiction fun z => z rfl
def kNotV (q : DK) : DK := fun x h => match x with
  | .bl c => q (.bl (!c)) h
  | _ => False
theorem wz_notV {ta : DTE} {s : DSt} {h : DH} {q : DK} : dNotV ta s h q = ta s h (kNotV q) := Classical.byContradiction fun z => z rfl
theorem wz_kNotV {c : Bool} {h : DH} {q : DK} : kNotV q (.bl c) h = q (.bl (!c)) h := Classical.byContradiction fun z => z rfl
def kTest (q : Bool → DH → Prop) : DK := fun x h => match x with
  | .bl k => q k h
  | _ => False
theorem wz_test {t : DTE} {s : DSt} {h : DH} {q : Bool → DH → Prop} : dTest t s h q = t s h (kTest q) := Classical.byContradiction fun z => z rfl
theorem wz_kTest {k : Bool} {h : DH} {q : Bool → DH → Prop} : kTest q (.bl k) h = q k h := Classical.byContradiction fun z => z rfl
theorem wz_yes {s : DSt} {h : DH} {q : Bool → DH → Prop} : dYes s h q = q true h := Classical.byContradiction fun z => z rfl
theorem wz_II {C : Int → Int → Prop} {g : Int → Int → D} {i j : Int} {h : DH} {q : DK} : dII C g (.int i) (.int j) h q = (C i j ∧ q (g i j) h) := Classical.byContradiction fun z => z rfl
theorem wz_I0 {g : Int → Int → D} {i j : Int} {h : DH} {q : DK} : dI0 g (.int i) (.int j) h q = q (g i j) h := Classical.byContradiction fun z => z rfl
theorem wz_I1 {g : Int → D} {i : Int} {h : DH} {q : DK} : dI1 g (.int i) h q = q (g i) h := Classical.byContradiction fun z => z rfl
def zAddO : Option DO → Option DO → DH → DK → Prop
  | some (.lst xs), some (.lst ys), h, q => xs.length + ys.length ≤ sizeLine ∧ ∀ p, h p = none → q (.loc p) (updD h p (.lst (xs ++ ys)))
  | _, _, _, _ => False
theorem wz_addI {i j : Int} {h : DH} {q : DK} : dAdd (.int i) (.int j) h q = q (.int (i + j)) h := Classical.byContradiction fun z => z rfl
theorem wz_addS {i j : Str} {h : DH} {q : DK} : dAdd (.str i) (.str j) h q = (i.length + j.length ≤ sizeLine ∧ q (.str (i ++ j)) h) := Classical.byContradiction fun z => z rfl
theorem wz_addT {i j : List D} {h : DH} {q : DK} : dAdd (.tup i) (.tup j) h q = (i.length + j.length ≤ sizeLine ∧ q (.tup (i ++ j)) h) := Classical.byContradiction fun z => z rfl
theorem wz_addL {i j : Addr} {h : DH} {q : DK} : dAdd (.loc i) (.loc j) h q = zAddO (h i) (h j) h q := by unfold dAdd zAddO; dsimp only; split <;> simp_all
def zMulO : Option DO → Int → DH → DK → Prop
  | some (.lst xs), k, h, q => -(2 ^ 63) ≤ k ∧ k < 2 ^ 63 ∧ xs.length * k.toNat ≤ sizeLine ∧ ∀ p, h p = none → q (.loc p) (updD h p (.lst (List.replicate k.toNat xs).flatten))
  | _, _, _, _ => False
theorem wz_mulI {i j : Int} {h : DH} {q : DK} : dMul (.int i) (.int j) h q = (CMul i j ∧ q (.int (i * j)) h) := Classical.byContradiction fun z => z rfl
theorem wz_mulL {i : Addr} {j : Int} {h : DH} {q : DK} : dMul (.loc i) (.int j) h q = zMulO (h i) j h q := by unfold dMul zMulO; dsimp only; split <;> simp_all
def kEq : Option Bool → DH → DK → Prop
  | some k, h, q => q (.bl k) h
  | none, _, _ => False
def kNe : Option Bool → DH → DK → Prop
  | some k, h, q => q (.bl (!k)) h
  | none, _, _ => False
theorem wz_eqS {x y : D} {h : DH} {q : DK} : dEqS x y h q = kEq (eqS x y) h q := by unfold dEqS kEq; cases eqS x y <;> rfl
theorem wz_neS {x y : D} {h : DH} {q : DK} : dNeS x y h q = kNe (eqS x y) h q := by unfold dNeS kNe; cases eqS x y <;> rfl
theorem wz_kEq {k : Bool} {h : DH} {q : DK} : kEq (some k) h q = q (.bl k) h := Classical.byContradiction fun z => z rfl
theorem wz_kNe {k : Bool} {h : DH} {q : DK} : kNe (some k) h q = q (.bl (!k)) h := Classical.byContradiction fun z => z rfl
theorem wz_eq_ii {i j : Int} : eqS (.int i) (.int j) = some (decide (i = j)) := Classical.byContradiction fun z => z rfl
theorem wz_eq_ss {i j : Str} : eqS (.str i) (.str j) = some (decide (i = j)) := Classical.byContradiction fun z => z rfl
theorem wz_eq_bb {i j : Bool} : eqS (.bl i) (.bl j) = some (decide (i = j)) := Classical.byContradiction fun z => z rfl
theorem wz_eq_nn  : eqS (.non) (.non) = some true := Classical.byContradiction fun z => z rfl
theorem wz_eq_ni {i : Int} : eqS (.non) (.int i) = some false := Classical.byContradiction fun z => z rfl
theorem wz_eq_in {i : Int} : eqS (.int i) (.non) = some false := Classical.byContradiction fun z => z rfl
theorem wz_eq_nb {i : Bool} : eqS (.non) (.bl i) = some false := Classical.byContradiction fun z => z rfl
theorem wz_eq_bn {i : Bool} : eqS (.bl i) (.non) = some false := Classical.byContradiction fun z => z rfl
theorem wz_eq_ns {i : Str} : eqS (.non) (.str i) = some false := Classical.byContradiction fun z => z rfl
theorem wz_eq_sn {i : Str} : eqS (.str i) (.non) = some false := Classical.byContradiction fun z => z rfl
theorem wz_eq_is {i : Int} {j : Str} : eqS (.int i) (.str j) = some false := Classical.byContradiction fun z => z rfl
theorem wz_eq_si {i : Str} {j : Int} : eqS (.str i) (.int j) = some false := Classical.byContradiction fun z => z rfl
theorem wz_eq_bs {i : Bool} {j : Str} : eqS (.bl i) (.str j) = some false := Classical.byContradiction fun z => z rfl
theorem wz_eq_sb {i : Str} {j : Bool} : eqS (.str i) (.bl j) = some false := Classical.byContradiction fun z => z rfl
theorem wz_isN {x : D} {h : DH} {q : DK} : dIsN x .non h q = kEq (nonD x) h q := by unfold dIsN kEq; cases nonD x <;> rfl
theorem wz_notN {x : D} {h : DH} {q : DK} : dNotN x .non h q = kNe (nonD x) h q := by unfold dNotN kNe; cases nonD x <;> rfl
theorem wz_non_n  : nonD (.non) = some true := Classical.byContradiction fun z => z rfl
theorem wz_non_b {i : Bool} : nonD (.bl i) = some false := Classical.byContradiction fun z => z rfl
theorem wz_non_i {i : Int} : nonD (.int i) = some false := Classical.byContradiction fun z => z rfl
theorem wz_non_s {i : Str} : nonD (.str i) = some false := Classical.byContradiction fun z => z rfl
theorem wz_non_t {i : List D} : nonD (.tup i) = some false := Classical.byContradiction fun z => z rfl
theorem wz_non_l {i : Addr} : nonD (.loc i) = some false := Classical.byContradiction fun z => z rfl
def kAt {α : Type} : Option α → (α → Prop) → Prop
  | some x, q => q x
  | none, _ => False
def kAtD : Option D → DH → DK → Prop
  | some x, h, q => q x h
  | none, _, _ => False
theorem wz_kAtD {x : D} {h : DH} {q : DK} : kAtD (some x) h q = q x h := Classical.byContradiction fun z => z rfl
def kKeyK : Option Key → List (Key × D) → DH → DK → Prop
  | some k, kds, h, q => kAtD (valD kds k) h q
  | none, _, _, _ => False
def kKeyT : Option (List Key) → List (List Key × D) → DH → DK → Prop
  | some k, kds, h, q => kAtD (valD kds k) h q
  | none, _, _, _ => False
def zIxO : Option DO → D → DH → DK → Prop
  | some (.lst ds), .int k, h, q => kAtD (atI ds k) h q
  | some (.dK kds), i, h, q => kKeyK (keyD i) kds h q
  | some (.dT kds), .tup ys, h, q => kKeyT (keysD ys) kds h q
  | _, _, _, _ => False
theorem wz_ixT {ds : List D} {k : Int} {h : DH} {q : DK} : dIx (.tup ds) (.int k) h q = kAtD (atI ds k) h q := by unfold dIx kAtD; dsimp only; all_goals cases atI ds k <;> rfl
theorem wz_ixL {a : Addr} {i : D} {h : DH} {q : DK} : dIx (.loc a) i h q = zIxO (h a) i h q := by
  unfold dIx
  dsimp only
  cases e : h a with
  | none => dsimp only; unfold getD zIxO; rw [e]
  | some o =>
    cases o with
    | lst ds =>
      cases i <;> first | rfl | (unfold zIxO kAtD; dsimp only; all_goals cases atI ds _ <;> rfl)
    | dK kds =>
      dsimp only
      unfold getD zIxO kKeyK
      rw [e]
      dsimp only
      cases keyD i with
      | none => rfl
      | some k => dsimp only; unfold kAtD; cases valD kds k <;> rfl
    | dT kds =>
      dsimp only
      unfold getD
      rw [e]
      cases i <;> first | rfl | (unfold zIxO kKeyT; dsimp only; all_goals cases keysD _ with | none => rfl | some k => dsimp only; unfold kAtD; cases valD kds k <;> rfl)
    | set S n => dsimp only; unfold getD zIxO; rw [e]
    | ins C dx fs => dsimp only; unfold getD zIxO; rw [e]
def zPutAt (a : Addr) (ds : List D) (v : D) (h : DH) (q : DH → Prop) : Option Nat → Prop
  | some j => q (updD h a (.lst (ds.set j v)))
  | none => False
def zPutK (a : Addr) (kds : List (Key × D)) (v : D) (h : DH) (q : DH → Prop) : Option Key → Prop
  | some k => kds.length < sizeLine ∧ q (updD h a (.dK (putD kds k v)))
  | none => False
def zPutT (a : Addr) (kds : List (List Key × D)) (v : D) (h : DH) (q : DH → Prop) : Option (List Key) → Prop
  | some k => kds.length < sizeLine ∧ q (updD h a (.dT (putD kds k v)))
  | none => False
def zPutO : Option DO → Addr → D → D → DH → (DH → Prop) → Prop
  | some (.lst ds), a, .int k, v, h, q => zPutAt a ds v h q (ixN ds.length k)
  | some (.dK kds), a, i, v, h, q => zPutK a kds v h q (keyD i)
  | some (.dT kds), a, .tup ys, v, h, q => zPutT a kds v h q (keysD ys)
  | _, _, _, _, _, _ => False
theorem wz_put {a : Addr} {i v : D} {h : DH} {q : DH → Prop} : dPut (.loc a) i v h q = zPutO (h a) a i v h q := by
  unfold dPut
  dsimp only
  cases e : h a with
  | none => rfl
  | some o =>
    cases o with
    | lst ds =>
      cases i <;> first | rfl | (unfold zPutO zPutAt; dsimp only; all_goals cases ixN ds.length _ <;> rfl)
    | dK kds =>
      unfold zPutO zPutK
      dsimp only
      all_goals cases keyD i <;> rfl
    | dT kds =>
      cases i <;> first | rfl | (unfold zPutO zPutT; dsimp only; all_goals cases keysD _ <;> rfl)
    | set S n => rfl
    | ins C dx fs => rfl
theorem wz_noPart {s : DSt} {h : DH} {q : Option Int → DH → Prop} : dNoPart s h q = q none h := Classical.byContradiction fun z => z rfl
def kPart (q : Option Int → DH → Prop) : DK := fun d h => match d with
  | .int i => q (some i) h
  | _ => False
theorem wz_part {t : DTE} {s : DSt} {h : DH} {q : Option Int → DH → Prop} : dPart t s h q = t s h (kPart q) := Classical.byContradiction fun z => z rfl
theorem wz_kPart {i : Int} {h : DH} {q : Option Int → DH → Prop} : kPart q (.int i) h = q (some i) h := Classical.byContradiction fun z => z rfl
def kSl3 (x : D) (lo : Option Int) (q : DK) : Option Int → DH → Prop := fun hi h => dCut x lo hi h q
def kSl2 (x : D) (th : DTO) (s : DSt) (q : DK) : Option Int → DH → Prop := fun lo h => th s h (kSl3 x lo q)
def kSl1 (tl th : DTO) (s : DSt) (q : DK) : DK := fun x h => tl s h (kSl2 x th s q)
theorem wz_sl {t : DTE} {tl th : DTO} {s : DSt} {h : DH} {q : DK} : dSl t tl th s h q = t s h (kSl1 tl th s q) := Classical.byContradiction fun z => z rfl
theorem wz_kSl1 {tl th : DTO} {s : DSt} {x : D} {h : DH} {q : DK} : kSl1 tl th s q x h = tl s h (kSl2 x th s q) := Classical.byContradiction fun z => z rfl
theorem wz_kSl2 {th : DTO} {s : DSt} {x : D} {lo : Option Int} {h : DH} {q : DK} : kSl2 x th s q lo h = th s h (kSl3 x lo q) := Classical.byContradiction fun z => z rfl
theorem wz_kSl3 {x : D} {lo hi : Option Int} {h : DH} {q : DK} : kSl3 x lo q hi h = dCut x lo hi h q := Classical.byContradiction fun z => z rfl
def zCutO : Option DO → Option Int → Option Int → DH → DK → Prop
  | some (.lst ds), lo, hi, h, q => ∀ p, h p = none → q (.loc p) (updD h p (.lst (cutD ds lo hi)))
  | _, _, _, _, _ => False
theorem wz_cutT {ds : List D} {lo hi : Option Int} {h : DH} {q : DK} : dCut (.tup ds) lo hi h q = q (.tup (cutD ds lo hi)) h := Classical.byContradiction fun z => z rfl
theorem wz_cutS {z : Str} {lo hi : Option Int} {h : DH} {q : DK} : dCut (.str z) lo hi h q = (z.length ≤ sizeLine ∧ q (.str (cutS z lo hi)) h) := Classical.byContradiction fun z => z rfl
theorem wz_cutL {a : Addr} {lo hi : Option Int} {h : DH} {q : DK} : dCut (.loc a) lo hi h q = zCutO (h a) lo hi h q := by unfold dCut zCutO; dsimp only; all_goals cases h a with | none => rfl | some o => cases o <;> rfl
def zRevO : Option DO → DH → DK → Prop
  | some (.lst ds), h, q => ∀ p, h p = none → q (.loc p) (updD h p (.lst ds.reverse))
  | _, _, _ => False
def kRev (q : DK) : DK := fun x h1 => match x with
  | .loc a => match h1 a with
    | some (.lst ds) => ∀ p, h1 p = none → q (.loc p) (updD h1 p (.lst ds.reverse))
    | _ => False
  | _ => False
theorem wz_rev {t : DTE} {s : DSt} {h : DH} {q : DK} : dRev t s h q = t s h (kRev q) := Classical.byContradiction fun z => z rfl
theorem wz_kRev {a : Addr} {h : DH} {q : DK} : kRev q (.loc a) h = zRevO (h a) h q := by unfold kRev zRevO; dsimp only; all_goals cases h a with | none => rfl | some o => cases o <;> rfl
def kTup (q : DK) : List D → DH → Prop := fun xs h => xs.length ≤ sizeLine ∧ q (.tup xs) h
theorem wz_tup {t : DTA} {s : DSt} {h : DH} {q : DK} : dTup t s h q = t s h (kTup q) := Classical.byContradiction fun z => z rfl
theorem wz_kTup {xs : List D} {h : DH} {q : DK} : kTup q xs h = (xs.length ≤ sizeLine ∧ q (.tup xs) h) := Classical.byContradiction fun z => z rfl
theorem wz_newK {s : DSt} {h : DH} {q : DK} : dNewK s h q = ∀ p, h p = none → q (.loc p) (updD h p (.dK [])) := Classical.byContradiction fun z => z rfl
theorem wz_newT {s : DSt} {h : DH} {q : DK} : dNewT s h q = ∀ p, h p = none → q (.loc p) (updD h p (.dT [])) := Classical.byContradiction fun z => z rfl
def zLenO : Option DO → Option Nat
  | some (.lst ds) => some ds.length
  | some (.dK kds) => some kds.length
  | _ => none
def kLen : Option Nat → DH → DK → Prop
  | some n, h, q => q (.int (n : Nat)) h
  | none, _, _ => False
theorem wz_len {d : D} {h : DH} {q : DK} : dLen [d] h q = kLen (lenD d h) h q := by unfold dLen kLen; dsimp only; all_goals cases lenD d h <;> rfl
theorem wz_kLen {n : Nat} {h : DH} {q : DK} : kLen (some n) h q = q (.int (n : Nat)) h := Classical.byContradiction fun z => z rfl
theorem wz_lenT {ds : List D} {h : DH} : lenD (.tup ds) h = some ds.length := Classical.byContradiction fun z => z rfl
theorem wz_lenL {a : Addr} {h : DH} : lenD (.loc a) h = zLenO (h a) := by unfold lenD zLenO; dsimp only; all_goals cases h a with | none => rfl | some o => cases o <;> rfl
theorem wz_abs {i : Int} {h : DH} {q : DK} : dAbs [.int i] h q = q (.int (i.natAbs : Nat)) h := Classical.byContradiction fun z => z rfl
theorem wz_intI {i : Int} {h : DH} {q : DK} : dInt [.int i] h q = q (.int i) h := Classical.byContradiction fun z => z rfl
theorem wz_intB {k : Bool} {h : DH} {q : DK} : dInt [.bl k] h q = q (.int (if k then 1 else 0)) h := Classical.byContradiction fun z => z rfl
def zTyO : Option DO → Option String
  | some (.lst _) => some "list"
  | some (.dK _) => some "dict"
  | some (.dT _) => some "dict"
  | some (.set _ _) => some "set"
  | _ => none
theorem wz_ty_n  {h : DH} : tyD (.non) h = some "NoneType" := Classical.byContradiction fun z => z rfl
theorem wz_ty_b {i : Bool} {h : DH} : tyD (.bl i) h = some "bool" := Classical.byContradiction fun z => z rfl
theorem wz_ty_i {i : Int} {h : DH} : tyD (.int i) h = some "int" := Classical.byContradiction fun z => z rfl
theorem wz_ty_s {i : Str} {h : DH} : tyD (.str i) h = some "str" := Classical.byContradiction fun z => z rfl
theorem wz_ty_t {i : List D} {h : DH} : tyD (.tup i) h = some "tuple" := Classical.byContradiction fun z => z rfl
theorem wz_ty_l {a : Addr} {h : DH} : tyD (.loc a) h = zTyO (h a) := by unfold tyD zTyO; dsimp only; all_goals cases h a with | none => rfl | some o => cases o <;> rfl
def kIsi (T : String) (h : DH) (q : DK) : Option String → Prop
  | some t => T ∈ kTys ∧ q (.bl (isTy t T)) h
  | none => False
theorem wz_isi {d : D} {T : String} {h : DH} {q : DK} : dIsi [d, .ty T] h q = kIsi T h q (tyD d h) := by unfold dIsi kIsi; dsimp only; all_goals cases tyD d h <;> rfl
theorem wz_kIsi {T t : String} {h : DH} {q : DK} : kIsi T h q (some t) = (T ∈ kTys ∧ q (.bl (isTy t T)) h) := Classical.byContradiction fun z => z rfl
def zListO : Option DO → DH → DK → Prop
  | some (.lst ds), h, q => ∀ p, h p = none → q (.loc p) (updD h p (.lst ds))
  | some (.dK kds), h, q => ∀ p, h p = none → q (.loc p) (updD h p (.lst (kds.map fun kv => kD kv.1)))
  | _, _, _ => False
theorem wz_listT {ds : List D} {h : DH} {q : DK} : dList [.tup ds] h q = ∀ p, h p = none → q (.loc p) (updD h p (.lst ds)) := Classical.byContradiction fun z => z rfl
theorem wz_listV {ds : List D} {h : DH} {q : DK} : dList [.lsv ds] h q = ∀ p, h p = none → q (.loc p) (updD h p (.lst ds)) := Classical.byContradiction fun z => z rfl
theorem wz_listL {a : Addr} {h : DH} {q : DK} : dList [.loc a] h q = zListO (h a) h q := by unfold dList zListO; dsimp only; all_goals cases h a with | none => rfl | some o => cases o <;> rfl
def zTupO : Option DO → DH → DK → Prop
  | some (.lst ds), h, q => q (.tup ds) h
  | _, _, _ => False
theorem wz_tupT {ds : List D} {h : DH} {q : DK} : dTuple [.tup ds] h q = q (.tup ds) h := Classical.byContradiction fun z => z rfl
theorem wz_tupL {a : Addr} {h : DH} {q : DK} : dTuple [.loc a] h q = zTupO (h a) h q := by unfold dTuple zTupO; dsimp only; all_goals cases h a with | none => rfl | some o => cases o <;> rfl
theorem wz_all {a : Addr} {h : DH} {q : DK} : dAll [.loc a] h q = ∃ bs : List Bool, h a = some (.lst (bs.map D.bl)) ∧ q (.bl (bs.all id)) h := Classical.byContradiction fun z => z rfl
theorem wz_any {a : Addr} {h : DH} {q : DK} : dAny [.loc a] h q = ∃ bs : List Bool, h a = some (.lst (bs.map D.bl)) ∧ q (.bl (bs.any id)) h := Classical.byContradiction fun z => z rfl
theorem wz_sum {a : Addr} {h : DH} {q : DK} : dSum [.loc a] h q = ∃ ns : List Int, h a = some (.lst (ns.map D.int)) ∧ q (.int ns.sum) h := Classical.byContradiction fun z => z rfl
theorem wz_maxL {a : Addr} {h : DH} {q : DK} : dMax [.loc a] h q = ∃ ns : List Int, h a = some (.lst (ns.map D.int)) ∧ 0 < ns.length ∧ ∀ m, m ∈ ns → (∀ y, y ∈ ns → y ≤ m) → q (.int m) h := Classical.byContradiction fun z => z rfl
theorem wz_minL {a : Addr} {h : DH} {q : DK} : dMin [.loc a] h q = ∃ ns : List Int, h a = some (.lst (ns.map D.int)) ∧ 0 < ns.length ∧ ∀ m, m ∈ ns → (∀ y, y ∈ ns → m ≤ y) → q (.int m) h := Classical.byContradiction fun z => z rfl
theorem wz_maxI {i j : Int} {h : DH} {q : DK} : dMax [.int i, .int j] h q = q (.int (if j > i then j else i)) h := Classical.byContradiction fun z => z rfl
theorem wz_minI {i j : Int} {h : DH} {q : DK} : dMin [.int i, .int j] h q = q (.int (if j < i then j else i)) h := Classical.byContradiction fun z => z rfl
def zTyMO (T : String) : Option DO → Prop
  | some (.lst _) => T = "list"
  | some (.dK _) => T = "dict"
  | some (.dT _) => T = "dict"
  | some (.set _ _) => T = "set"
  | _ => False
theorem wz_tyM {T : String} {a : Addr} {h : DH} : tyM T (.loc a) h = zTyMO T (h a) := by unfold tyM zTyMO; dsimp only; all_goals cases h a with | none => rfl | some o => cases o <;> rfl
theorem wz_tyMS {T : String} {z : Str} {h : DH} : tyM T (.str z) h = (T = "str") := Classical.byContradiction fun z => z rfl
def kMt2 (r : DRM) (x : D) (q : DK) : List D → DH → Prop := fun xs h => r x xs h q
def kMt (T : String) (r : DRM) (ta : DTA) (s : DSt) (q : DK) : DK := fun x h => tyM T x h ∧ ta s h (kMt2 r x q)
def kMt0 (T : String) (r : DRM) (q : DK) : DK := fun x h => tyM T x h ∧ r x [] h q
theorem wz_mt {T : String} {r : DRM} {to : DTE} {ta : DTA} {s : DSt} {h : DH} {q : DK} : dMt T r to ta s h q = to s h (kMt T r ta s q) := Classical.byContradiction fun z => z rfl
theorem wz_mt0 {T : String} {r : DRM} {to : DTE} {s : DSt} {h : DH} {q : DK} : dMt0 T r to s h q = to s h (kMt0 T r q) := Classical.byContradiction fun z => z rfl
theorem wz_kMt {T : String} {r : DRM} {ta : DTA} {s : DSt} {x : D} {h : DH} {q : DK} : kMt T r ta s q x h = (tyM T x h ∧ ta s h (kMt2 r x q)) := Classical.byContradiction fun z => z rfl
theorem wz_kMt0 {T : String} {r : DRM} {x : D} {h : DH} {q : DK} : kMt0 T r q x h = (tyM T x h ∧ r x [] h q) := Classical.byContradiction fun z => z rfl
theorem wz_kMt2 {r : DRM} {x : D} {xs : List D} {h : DH} {q : DK} : kMt2 r x q xs h = r x xs h q := Classical.byContradiction fun z => z rfl
def zAppO : Option DO → Addr → D → DH → DK → Prop
  | some (.lst ds), a, y, h, q => ds.length < sizeLine ∧ q .non (updD h a (.lst (ds ++ [y])))
  | _, _, _, _, _ => False
theorem wz_app {a : Addr} {y : D} {h : DH} {q : DK} : dAppend (.loc a) [y] h q = zAppO (h a) a y h q := by unfold dAppend zAppO; dsimp only; all_goals cases h a with | none => rfl | some o => cases o <;> rfl
def zExtO : Option DO → Option DO → Addr → DH → DK → Prop
  | some (.lst ds), some (.lst es), a, h, q => ds.length + es.length ≤ sizeLine ∧ q .non (updD h a (.lst (ds ++ es)))
  | _, _, _, _, _ => False
theorem wz_ext {a c : Addr} {h : DH} {q : DK} : dExtend (.loc a) [.loc c] h q = zExtO (h a) (h c) a h q := by unfold dExtend zExtO; dsimp only; split <;> simp_all
def kPop (a : Addr) (ds : List D) (h : DH) (q : DK) : Option D → Prop
  | some d => q d (updD h a (.lst ds.dropLast))
  | none => False
def zPopO : Option DO → Addr → DH → DK → Prop
  | some (.lst ds), a, h, q => kPop a ds h q ds[ds.length - 1]?
  | _, _, _, _ => False
theorem wz_pop {a : Addr} {h : DH} {q : DK} : dPop (.loc a) [] h q = zPopO (h a) a h q := by
  unfold dPop zPopO kPop
  dsimp only
  all_goals cases h a with
  | none => rfl
  | some o => cases o <;> rfl
def zSeqO (a : Addr) (r : List D → (DH → Prop) → DH → Prop) (h : DH) : Option DO → Prop
  | some (.lst ds) => r ds (fun h => h a = some (.lst ds)) h
  | _ => False
def kSeqI (r : List D → (DH → Prop) → DH → Prop) : DK := fun d h => match d with
  | .tup ds => r ds (fun _ => True) h
  | .loc a => zSeqO a r h (h a)
  | _ => False
theorem wz_seqI {t : DTE} {s : DSt} {h : DH} {r : List D → (DH → Prop) → DH → Prop} : dSeqI t s h r = t s h (kSeqI r) := by unfold dSeqI kSeqI zSeqO; rfl
theorem wz_kSeqT {ds : List D} {h : DH} {r : List D → (DH → Prop) → DH → Prop} : kSeqI r (.tup ds) h = r ds (fun _ => True) h := Classical.byContradiction fun z => z rfl
theorem wz_kSeqL {a : Addr} {h : DH} {r : List D → (DH → Prop) → DH → Prop} : kSeqI r (.loc a) h = zSeqO a r h (h a) := Classical.byContradiction fun z => z rfl
theorem wz_seqO {a : Addr} {ds : List D} {h : DH} {r : List D → (DH → Prop) → DH → Prop} : zSeqO a r h (some (.lst ds)) = r ds (fun h => h a = some (.lst ds)) h := Classical.byContradiction fun z => z rfl
def kRng1 (r : List D → (DH → Prop) → DH → Prop) : List D → DH → Prop := fun ds h => match ds with
  | [.int n] => -(2 ^ 62) ≤ n ∧ n < 2 ^ 62 ∧ r (rgD 0 n) (fun _ => True) h
  | _ => False
theorem wz_rng1 {t : DTA} {s : DSt} {h : DH} {r : List D → (DH → Prop) → DH → Prop} : dRng1 t s h r = t s h (kRng1 r) := Classical.byContradiction fun z => z rfl
theorem wz_kRng1 {n : Int} {h : DH} {r : List D → (DH → Prop) → DH → Prop} : kRng1 r [.int n] h = (-(2 ^ 62) ≤ n ∧ n < 2 ^ 62 ∧ r (rgD 0 n) (fun _ => True) h) := Classical.byContradiction fun z => z rfl
def kRng2 (r : List D → (DH → Prop) → DH → Prop) : List D → DH → Prop := fun ds h => match ds with
  | [.int m, .int n] => (-(2 ^ 62) ≤ m ∧ m < 2 ^ 62 ∧ -(2 ^ 62) ≤ n ∧ n < 2 ^ 62) ∧ r (rgD m n) (fun _ => True) h
  | _ => False
theorem wz_rng2 {t : DTA} {s : DSt} {h : DH} {r : List D → (DH → Prop) → DH → Prop} : dRng2 t s h r = t s h (kRng2 r) := Classical.byContradiction fun z => z rfl
theorem wz_kRng2 {m n : Int} {h : DH} {r : List D → (DH → Prop) → DH → Prop} : kRng2 r [.int m, .int n] h = ((-(2 ^ 62) ≤ m ∧ m < 2 ^ 62 ∧ -(2 ^ 62) ≤ n ∧ n < 2 ^ 62) ∧ r (rgD m n) (fun _ => True) h) := Classical.byContradiction fun z => z rfl
def zEnumO (a : Addr) (r : List D → (DH → Prop) → DH → Prop) (h : DH) : Option DO → Prop
  | some (.lst ds) => r (enumD ds) (fun h => h a = some (.lst ds)) h
  | _ => False
def kEnum (r : List D → (DH → Prop) → DH → Prop) : List D → DH → Prop := fun ds h => match ds with
  | [.tup ds] => r (enumD ds) (fun _ => True) h
  | [.loc a] => zEnumO a r h (h a)
  | _ => False
theorem wz_enum {t : DTA} {s : DSt} {h : DH} {r : List D → (DH → Prop) → DH → Prop} : dEnum t s h r = t s h (kEnum r) := by unfold dEnum kEnum zEnumO; rfl
theorem wz_kEnumT {ds : List D} {h : DH} {r : List D → (DH → Prop) → DH → Prop} : kEnum r [.tup ds] h = r (enumD ds) (fun _ => True) h := Classical.byContradiction fun z => z rfl
theorem wz_kEnumL {a : Addr} {h : DH} {r : List D → (DH → Prop) → DH → Prop} : kEnum r [.loc a] h = zEnumO a r h (h a) := Classical.byContradiction fun z => z rfl
theorem wz_enumO {a : Addr} {ds : List D} {h : DH} {r : List D → (DH → Prop) → DH → Prop} : zEnumO a r h (some (.lst ds)) = r (enumD ds) (fun h => h a = some (.lst ds)) h := Classical.byContradiction fun z => z rfl
def kIterL (r : List D → (DH → Prop) → DH → Prop) : List D → DH → Prop := fun ds h => r ds (fun _ => True) h
theorem wz_iterL {t : DTL} {s : DSt} {h : DH} {r : List D → (DH → Prop) → DH → Prop} : dIterL t s h r = t s h (kIterL r) := Classical.byContradiction fun z => z rfl
theorem wz_kIterL {ds : List D} {h : DH} {r : List D → (DH → Prop) → DH → Prop} : kIterL r ds h = r ds (fun _ => True) h := Classical.byContradiction fun z => z rfl
def kZip (r : List D → (DH → Prop) → DH → Prop) : List D → DH → Prop := fun ds h1 => match ds with
  | [.tup xs, .tup ys] => r (zipD xs ys) (fun _ => True) h1
  | [.loc a, .loc c] => match h1 a, h1 c with
    | some (.lst xs), some (.lst ys) => r (zipD xs ys) (fun h => h a = some (.lst xs) ∧ h c = some (.lst ys)) h1
    | _, _ => False
  | _ => False
theorem wz_zip {t : DTA} {s : DSt} {h : DH} {r : List D → (DH → Prop) → DH → Prop} : dZip t s h r = t s h (kZip r) := Classical.byContradiction fun z => z rfl
theorem wz_kZip {xs ys : List D} {h : DH} {r : List D → (DH → Prop) → DH → Prop} : kZip r [.tup xs, .tup ys] h = r (zipD xs ys) (fun _ => True) h := Classical.byContradiction fun z => z rfl
def kNew (q : DK) : List D → DH → Prop := fun ds h => ∀ p, h p = none → q (.loc p) (updD h p (.lst ds))
theorem wz_new {t : DTL} {s : DSt} {h : DH} {q : DK} : dNew t s h q = t s h (kNew q) := Classical.byContradiction fun z => z rfl
theorem wz_kNew {ds : List D} {h : DH} {q : DK} : kNew q ds h = ∀ p, h p = none → q (.loc p) (updD h p (.lst ds)) := Classical.byContradiction fun z => z rfl
def kLst (q : DLK) : List D → DH → Prop := fun xs h => xs.length ≤ sizeLine ∧ q xs h
theorem wz_lst {t : DTA} {s : DSt} {h : DH} {q : DLK} : dlLst t s h q = t s h (kLst q) := Classical.byContradiction fun z => z rfl
theorem wz_kLst {xs : List D} {h : DH} {q : DLK} : kLst q xs h = (xs.length ≤ sizeLine ∧ q xs h) := Classical.byContradiction fun z => z rfl
def kLRg1 (q : DLK) : DK := fun d h => match d with
  | .int n => n ≤ 16777216 ∧ -(2 ^ 62) ≤ n ∧ q (rgD 0 n) h
  | _ => False
theorem wz_lrg1 {t : DTE} {s : DSt} {h : DH} {q : DLK} : dlRg1 t s h q = t s h (kLRg1 q) := Classical.byContradiction fun z => z rfl
theorem wz_kLRg1 {n : Int} {h : DH} {q : DLK} : kLRg1 q (.int n) h = (n ≤ 16777216 ∧ -(2 ^ 62) ≤ n ∧ q (rgD 0 n) h) := Classical.byContradiction fun z => z rfl
def kTupR1 (q : DK) : DK := fun d h => match d with
  | .int n => n ≤ 16777216 ∧ -(2 ^ 62) ≤ n ∧ q (.tup (rgD 0 n)) h
  | _ => False
theorem wz_tupR1 {t : DTE} {s : DSt} {h : DH} {q : DK} : dTupR1 t s h q = t s h (kTupR1 q) := Classical.byContradiction fun z => z rfl
theorem wz_kTupR1 {n : Int} {h : DH} {q : DK} : kTupR1 q (.int n) h = (n ≤ 16777216 ∧ -(2 ^ 62) ≤ n ∧ q (.tup (rgD 0 n)) h) := Classical.byContradiction fun z => z rfl
def zCatO (ys : List D) (h : DH) (q : DLK) : Option (List D) → Prop
  | some xs => xs.length + ys.length ≤ sizeLine ∧ q (xs ++ ys) h
  | none => False
def zCatO2 (xs : List D) (h : DH) (q : DLK) : Option (List D) → Prop
  | some ys => xs.length + ys.length ≤ sizeLine ∧ q (xs ++ ys) h
  | none => False
def kCatVL2 (d : D) (q : DLK) : DLK := fun ys h => zCatO ys h q (lstOf d h)
def kCatVL (u : DTL) (s : DSt) (q : DLK) : DK := fun d h => u s h (kCatVL2 d q)
theorem wz_catVL {t : DTE} {u : DTL} {s : DSt} {h : DH} {q : DLK} : dlCatVL t u s h q = t s h (kCatVL u s q) := by unfold dlCatVL kCatVL kCatVL2 zCatO; rfl
theorem wz_kCatVL {u : DTL} {s : DSt} {d : D} {h : DH} {q : DLK} : kCatVL u s q d h = u s h (kCatVL2 d q) := Classical.byContradiction fun z => z rfl
theorem wz_kCatVL2 {d : D} {ys : List D} {h : DH} {q : DLK} : kCatVL2 d q ys h = zCatO ys h q (lstOf d h) := Classical.byContradiction fun z => z rfl
def kCatLV2 (xs : List D) (q : DLK) : DK := fun d h => zCatO2 xs h q (lstOf d h)
def kCatLV (u : DTE) (s : DSt) (q : DLK) : DLK := fun xs h => u s h (kCatLV2 xs q)
theorem wz_catLV {t : DTL} {u : DTE} {s : DSt} {h : DH} {q : DLK} : dlCatLV t u s h q = t s h (kCatLV u s q) := by unfold dlCatLV kCatLV kCatLV2 zCatO2; rfl
theorem wz_kCatLV {u : DTE} {s : DSt} {xs : List D} {h : DH} {q : DLK} : kCatLV u s q xs h = u s h (kCatLV2 xs q) := Classical.byContradiction fun z => z rfl
theorem wz_kCatLV2 {xs : List D} {d : D} {h : DH} {q : DLK} : kCatLV2 xs q d h = zCatO2 xs h q (lstOf d h) := Classical.byContradiction fun z => z rfl
def kCatLL2 (xs : List D) (q : DLK) : DLK := fun ys h => xs.length + ys.length ≤ sizeLine ∧ q (xs ++ ys) h
def kCatLL (u : DTL) (s : DSt) (q : DLK) : DLK := fun xs h => u s h (kCatLL2 xs q)
theorem wz_catLL {t u : DTL} {s : DSt} {h : DH} {q : DLK} : dlCatLL t u s h q = t s h (kCatLL u s q) := Classical.byContradiction fun z => z rfl
theorem wz_kCatLL {u : DTL} {s : DSt} {xs : List D} {h : DH} {q : DLK} : kCatLL u s q xs h = u s h (kCatLL2 xs q) := Classical.byContradiction fun z => z rfl
theorem wz_kCatLL2 {xs ys : List D} {h : DH} {q : DLK} : kCatLL2 xs q ys h = (xs.length + ys.length ≤ sizeLine ∧ q (xs ++ ys) h) := Classical.byContradiction fun z => z rfl
def zLstO : Option DO → Option (List D)
  | some (.lst ds) => some ds
  | _ => none
theorem wz_lstOf {a : Addr} {h : DH} : lstOf (.loc a) h = zLstO (h a) := by unfold lstOf zLstO; dsimp only; all_goals cases h a with | none => rfl | some o => cases o <;> rfl
def kRep2 (xs : List D) (q : DLK) : DK := fun d h => match d with
  | .int k => -(2 ^ 63) ≤ k ∧ k < 2 ^ 63 ∧ xs.length * k.toNat ≤ sizeLine ∧ q (List.replicate k.toNat xs).flatten h
  | _ => False
def kRep (u : DTE) (s : DSt) (q : DLK) : DLK := fun xs h => u s h (kRep2 xs q)
theorem wz_rep {t : DTL} {u : DTE} {s : DSt} {h : DH} {q : DLK} : dlRep t u s h q = t s h (kRep u s q) := Classical.byContradiction fun z => z rfl
theorem wz_kRep {u : DTE} {s : DSt} {xs : List D} {h : DH} {q : DLK} : kRep u s q xs h = u s h (kRep2 xs q) := Classical.byContradiction fun z => z rfl
theorem wz_kRep2 {xs : List D} {k : Int} {h : DH} {q : DLK} : kRep2 xs q (.int k) h = (-(2 ^ 63) ≤ k ∧ k < 2 ^ 63 ∧ xs.length * k.toNat ≤ sizeLine ∧ q (List.replicate k.toNat xs).flatten h) := Classical.byContradiction fun z => z rfl
def kCL (r : DRL) (q : DK) : List D → DH → Prop := fun ds h => r ds h q
theorem wz_cl {r : DRL} {t : DTL} {s : DSt} {h : DH} {q : DK} : dCL r t s h q = t s h (kCL r q) := Classical.byContradiction fun z => z rfl
theorem wz_kCL {r : DRL} {ds : List D} {h : DH} {q : DK} : kCL r q ds h = r ds h q := Classical.byContradiction fun z => z rfl
theorem wz_eLen {ds : List D} {h : DH} {q : DK} : eLen ds h q = q (.int (ds.length : Nat)) h := Classical.byContradiction fun z => z rfl
theorem wz_eTuple {ds : List D} {h : DH} {q : DK} : eTuple ds h q = q (.tup ds) h := Classical.byContradiction fun z => z rfl
theorem wz_eAll {ds : List D} {h : DH} {q : DK} : eAll ds h q = ∃ bs : List Bool, ds = bs.map D.bl ∧ q (.bl (bs.all id)) h := Classical.byContradiction fun z => z rfl
theorem wz_eAny {ds : List D} {h : DH} {q : DK} : eAny ds h q = ∃ bs : List Bool, ds = bs.map D.bl ∧ q (.bl (bs.any id)) h := Classical.byContradiction fun z => z rfl
theorem wz_eSum {ds : List D} {h : DH} {q : DK} : eSum ds h q = ∃ ns : List Int, ds = ns.map D.int ∧ q (.int ns.sum) h := Classical.byContradiction fun z => z rfl
theorem wz_eMax {ds : List D} {h : DH} {q : DK} : eMax ds h q = ∃ ns : List Int, ds = ns.map D.int ∧ 0 < ns.length ∧ ∀ m, m ∈ ns → (∀ y, y ∈ ns → y ≤ m) → q (.int m) h := Classical.byContradiction fun z => z rfl
theorem wz_eMin {ds : List D} {h : DH} {q : DK} : eMin ds h q = ∃ ns : List Int, ds = ns.map D.int ∧ 0 < ns.length ∧ ∀ m, m ∈ ns → (∀ y, y ∈ ns → m ≤ y) → q (.int m) h := Classical.byContradiction fun z => z rfl
def kIxL2 (ds : List D) (q : DK) : DK := fun d h2 => match d with
  | .int k => match atI ds k with
    | some x => q x h2
    | none => False
  | _ => False
def kIxL (u : DTE) (s : DSt) (q : DK) : DLK := fun ds h => u s h (kIxL2 ds q)
theorem wz_ixNew {t : DTL} {u : DTE} {s : DSt} {h : DH} {q : DK} : dIxL t u s h q = t s h (kIxL u s q) := Classical.byContradiction fun z => z rfl
theorem wz_kIxL {u : DTE} {s : DSt} {ds : List D} {h : DH} {q : DK} : kIxL u s q ds h = u s h (kIxL2 ds q) := Classical.byContradiction fun z => z rfl
theorem wz_kIxL2 {ds : List D} {k : Int} {h : DH} {q : DK} : kIxL2 ds q (.int k) h = kAtD (atI ds k) h q := by unfold kIxL2 kAtD; dsimp only; all_goals cases atI ds k <;> rfl
def kDisp2 (y : D) (q : DK) : DK := fun v h => match keyD y with
  | some k => ∀ p, h p = none → q (.loc p) (updD h p (.dK [(k, v)]))
  | none => False
def kDisp1 (tv : DTE) (s : DSt) (q : DK) : DK := fun y h => tv s h (kDisp2 y q)
theorem wz_disp1 {tk tv : DTE} {s : DSt} {h : DH} {q : DK} : dDisp1 tk tv s h q = tk s h (kDisp1 tv s q) := Classical.byContradiction fun z => z rfl
theorem wz_kDisp1 {tv : DTE} {s : DSt} {y : D} {h : DH} {q : DK} : kDisp1 tv s q y h = tv s h (kDisp2 y q) := Classical.byContradiction fun z => z rfl
theorem wz_kDisp2 {i : Int} {v : D} {h : DH} {q : DK} : kDisp2 (.int i) q v h = ∀ p, h p = none → q (.loc p) (updD h p (.dK [(Sum.inl i, v)])) := Classical.byContradiction fun z => z rfl
def cSortSet : DRC := fun ds h1 q => match ds with
  | [.loc a] => ∃ ks : List Int, h1 a = some (.lst (ks.map D.int)) ∧ ks.length < 64 ∧ ∀ (ns : List Int) (p : Addr), ns.Pairwise (· < ·) → (∀ k : Int, k ∈ ns ↔ k ∈ ks) → h1 p = none → q (.loc p) (updD h1 p (.lst (ns.map D.int)))
  | _ => False
theorem wz_sortSet {t : DTA} {s : DSt} {h : DH} {q : DK} : dSortSet t s h q = t s h (kCB cSortSet q) := Classical.byContradiction fun z => z rfl
theorem nat_lt {a b : Nat} : ((a : Int) < (b : Int)) = (a < b) := propext ⟨fun h => by omega, fun h => by omega⟩
theorem nat_le {a b : Nat} : ((a : Int) ≤ (b : Int)) = (a ≤ b) := propext ⟨fun h => by omega, fun h => by omega⟩
theorem nat_neg {a : Nat} : ((a : Int) < 0) = False := propext ⟨fun h => by omega, fun h => h.elim⟩
theorem nat_pos {a : Nat} : ((0 : Int) < (a : Int)) = (0 < a) := propext ⟨fun h => by omega, fun h => by omega⟩
end DL
set_option Elab.async false
set_option linter.all false
set_option maxRecDepth 100000
set_option maxHeartbeats 4000000
namespace K
open PySem PySem.Spec PyProof.Rows L2 DL
def top (i : Nat) : Stmt := PySem.Challenge.pw_unhurried_k77_whole_bounds_of_edges.main.body.getD i (.Pass ⟨0, 0, 0, 0⟩)
abbrev st_common : Stmt := top 4
abbrev st_is_ratio : Stmt := top 5
abbrev st_is_integer : Stmt := top 6
abbrev st_look_at_graph : Stmt := top 8
abbrev st_is_edge : Stmt := top 9
abbrev st_empty_ring : Stmt := top 10
abbrev st_ranks_of : Stmt := top 11
abbrev st_is_way : Stmt := top 12
abbrev st_is_ring : Stmt := top 13
abbrev st_bound : Stmt := top 15
abbrev st_proves_bound : Stmt := top 16
abbrev st__law_draws : Stmt := top 18
abbrev st__law_draw : Stmt := top 19
abbrev st__law_same : Stmt := top 20
abbrev st__law_gcd : Stmt := top 21
abbrev st__law_ratio : Stmt := top 22
abbrev st__law_graph : Stmt := top 23
abbrev st__law_stuck : Stmt := top 24
abbrev st__law_is_whole : Stmt := top 25
abbrev st__law_is_way : Stmt := top 26
abbrev st__law_is_ring : Stmt := top 27
abbrev st__law_tokens : Stmt := top 28
abbrev st__law_fed : Stmt := top 29
abbrev st__law_fired : Stmt := top 30
abbrev st__law_first : Stmt := top 31
abbrev st__law_strolled : Stmt := top 32
abbrev st__law_live_graph : Stmt := top 33
abbrev st__law_led : Stmt := top 34
abbrev st__law_reached : Stmt := top 35
abbrev st__law_shown : Stmt := top 36
abbrev st__law_bent : Stmt := top 37
abbrev st__law_refused : Stmt := top 38
abbrev st_law : Stmt := top 39
structure Txt (K : PySem.W.Frag) (mg : Str → Option Value) (C_DelayError C_BadNet : Addr) : Prop where
  m_abs : mg "abs" = none
  m_all : mg "all" = none
  m_bool : mg "bool" = none
  m_enumerate : mg "enumerate" = none
  m_int : mg "int" = none
  m_isinstance : mg "isinstance" = none
  m_len : mg "len" = none
  m_list : mg "list" = none
  m_max : mg "max" = none
  m_range : mg "range" = none
  m_set : mg "set" = none
  m_sorted : mg "sorted" = none
  m_str : mg "str" = none
  m_sum : mg "sum" = none
  m_tuple : mg "tuple" = none
  a_common : DefAt K mg "common" st_common ["a", "b"]
  a_is_ratio : DefAt K mg "is_ratio" st_is_ratio ["value"]
  a_is_integer : DefAt K mg "is_integer" st_is_integer ["value"]
  a_look_at_graph : DefAt K mg "look_at_graph" st_look_at_graph ["graph"]
  a_is_edge : DefAt K mg "is_edge" st_is_edge ["edge", "nodes"]
  a_empty_ring : DefAt K mg "empty_ring" st_empty_ring ["graph", "held"]
  a_ranks_of : DefAt K mg "ranks_of" st_ranks_of ["graph", "held"]
  a_is_way : DefAt K mg "is_way" st_is_way ["graph", "way"]
  a_is_ring : DefAt K mg "is_ring" st_is_ring ["graph", "ring"]
  a_bound : DefAt K mg "bound" st_bound ["graph", "e"]
  a_proves_bound : DefAt K mg "proves_bound" st_proves_bound ["graph", "e", "count", "ring", "distances"]
  a__law_draws : DefAt K mg "_law_draws" st__law_draws ["script"]
  a__law_draw : DefAt K mg "_law_draw" st__law_draw ["draws", "limit"]
  a__law_same : DefAt K mg "_law_same" st__law_same ["actual", "expected"]
  a__law_gcd : DefAt K mg "_law_gcd" st__law_gcd ["a", "b"]
  a__law_ratio : DefAt K mg "_law_ratio" st__law_ratio ["n", "d"]
  a__law_graph : DefAt K mg "_law_graph" st__law_graph ["draws", "most"]
  a__law_stuck : DefAt K mg "_law_stuck" st__law_stuck ["graph"]
  a__law_is_whole : DefAt K mg "_law_is_whole" st__law_is_whole ["value"]
  a__law_is_way : DefAt K mg "_law_is_way" st__law_is_way ["graph", "way"]
  a__law_is_ring : DefAt K mg "_law_is_ring" st__law_is_ring ["graph", "ring"]
  a__law_tokens : DefAt K mg "_law_tokens" st__law_tokens ["graph", "ring"]
  a__law_fed : DefAt K mg "_law_fed" st__law_fed ["graph", "marking", "v"]
  a__law_fired : DefAt K mg "_law_fired" st__law_fired ["graph", "marking", "v"]
  a__law_first : DefAt K mg "_law_first" st__law_first ["graph"]
  a__law_strolled : DefAt K mg "_law_strolled" st__law_strolled ["draws", "graph", "many"]
  a__law_live_graph : DefAt K mg "_law_live_graph" st__law_live_graph ["draws", "most"]
  a__law_led : DefAt K mg "_law_led" st__law_led ["graph", "start"]
  a__law_reached : DefAt K mg "_law_reached" st__law_reached ["graph", "counts"]
  a__law_shown : DefAt K mg "_law_shown" st__law_shown ["graph", "e", "count", "ring", "distances"]
  a__law_bent : DefAt K mg "_law_bent" st__law_bent ["draws", "paper", "edges"]
  a__law_refused : DefAt K mg "_law_refused" st__law_refused ["graph", "e"]
  a_law : DefAt K mg "law" st_law ["script"]
  g_DelayError : mg "DelayError" = some (.ref C_DelayError)
  x_DelayError : PySem.W.excIn K C_DelayError [.type "ValueError", .type "Exception", .type "BaseException", .type "object"] "ValueError.__new__" = true
  k_DelayError : PySem.W.keepIn K (.ref C_DelayError) = true
  b_DelayError : PySem.W.subIn K (.ref C_DelayError) (.type "BaseException") = some true
  t_DelayError : PySem.W.typeIn K (.ref C_DelayError) = some (.type "type")
  g_BadNet : mg "BadNet" = some (.ref C_BadNet)
  x_BadNet : PySem.W.excIn K C_BadNet [.type "ValueError", .type "Exception", .type "BaseException", .type "object"] "ValueError.__new__" = true
  k_BadNet : PySem.W.keepIn K (.ref C_BadNet) = true
  b_BadNet : PySem.W.subIn K (.ref C_BadNet) (.type "BaseException") = some true
  t_BadNet : PySem.W.typeIn K (.ref C_BadNet) = some (.type "type")
theorem sc_common : FnScope ["a", "b"] ["a", "b"] (defScope st_common) := ⟨rfl, rfl, rfl, by decide +kernel, rfl, by decide +kernel, by decide +kernel⟩
theorem sc_is_ratio : FnScope ["value"] ["value"] (defScope st_is_ratio) := ⟨rfl, rfl, rfl, by decide +kernel, rfl, by decide +kernel, by decide +kernel⟩
theorem sc_is_integer : FnScope ["value"] ["value"] (defScope st_is_integer) := ⟨rfl, rfl, rfl, by decide +kernel, rfl, by decide +kernel, by decide +kernel⟩
theorem sc_look_at_graph : FnScope ["graph", "edge"] ["graph"] (defScope st_look_at_graph) := ⟨rfl, rfl, rfl, by decide +kernel, rfl, by decide +kernel, by decide +kernel⟩
theorem sc_is_edge : FnScope ["edge", "nodes", "number"] ["edge", "nodes"] (defScope st_is_edge) := ⟨rfl, rfl, rfl, by decide +kernel, rfl, by decide +kernel, by decide +kernel⟩
theorem sc_empty_ring : FnScope ["graph", "held", "ranks", "left", "into", "k", "edge", "at", "way", "seen", "v"] ["graph", "held"] (defScope st_empty_ring) := ⟨rfl, rfl, rfl, by decide +kernel, rfl, by decide +kernel, by decide +kernel⟩
theorem sc_ranks_of : FnScope ["graph", "held", "ranks", "going", "v", "row", "a", "b", "tokens", "_"] ["graph", "held"] (defScope st_ranks_of) := ⟨rfl, rfl, rfl, by decide +kernel, rfl, by decide +kernel, by decide +kernel⟩
theorem sc_is_way : FnScope ["graph", "way", "k", "e"] ["graph", "way"] (defScope st_is_way) := ⟨rfl, rfl, rfl, by decide +kernel, rfl, by decide +kernel, by decide +kernel⟩
theorem sc_is_ring : FnScope ["graph", "ring"] ["graph", "ring"] (defScope st_is_ring) := ⟨rfl, rfl, rfl, by decide +kernel, rfl, by decide +kernel, by decide +kernel⟩
theorem sc_bound : FnScope ["graph", "e", "start", "goal", "best", "going", "k", "edge", "count", "distances", "v"] ["graph", "e"] (defScope st_bound) := ⟨rfl, rfl, rfl, by decide +kernel, rfl, by decide +kernel, by decide +kernel⟩
theorem sc_proves_bound : FnScope ["graph", "e", "count", "ring", "distances", "a", "b", "tokens", "_", "k", "d"] ["graph", "e", "count", "ring", "distances"] (defScope st_proves_bound) := ⟨rfl, rfl, rfl, by decide +kernel, rfl, by decide +kernel, by decide +kernel⟩
theorem sc__law_draws : FnScope ["script"] ["script"] (defScope st__law_draws) := ⟨rfl, rfl, rfl, by decide +kernel, rfl, by decide +kernel, by decide +kernel⟩
theorem sc__law_draw : FnScope ["draws", "limit", "cell", "value"] ["draws", "limit"] (defScope st__law_draw) := ⟨rfl, rfl, rfl, by decide +kernel, rfl, by decide +kernel, by decide +kernel⟩
theorem sc__law_same : FnScope ["actual", "expected", "k"] ["actual", "expected"] (defScope st__law_same) := ⟨rfl, rfl, rfl, by decide +kernel, rfl, by decide +kernel, by decide +kernel⟩
theorem sc__law_gcd : FnScope ["a", "b"] ["a", "b"] (defScope st__law_gcd) := ⟨rfl, rfl, rfl, by decide +kernel, rfl, by decide +kernel, by decide +kernel⟩
theorem sc__law_ratio : FnScope ["n", "d", "by"] ["n", "d"] (defScope st__law_ratio) := ⟨rfl, rfl, rfl, by decide +kernel, rfl, by decide +kernel, by decide +kernel⟩
theorem sc__law_graph : FnScope ["draws", "most", "nodes", "edges", "k", "order", "told", "kind", "a", "b", "tokens", "v"] ["draws", "most"] (defScope st__law_graph) := ⟨rfl, rfl, rfl, by decide +kernel, rfl, by decide +kernel, by decide +kernel⟩
theorem sc__law_stuck : FnScope ["graph", "left", "going", "free", "v", "a", "b", "tokens", "delay"] ["graph"] (defScope st__law_stuck) := ⟨rfl, rfl, rfl, by decide +kernel, rfl, by decide +kernel, by decide +kernel⟩
theorem sc__law_is_whole : FnScope ["value"] ["value"] (defScope st__law_is_whole) := ⟨rfl, rfl, rfl, by decide +kernel, rfl, by decide +kernel, by decide +kernel⟩
theorem sc__law_is_way : FnScope ["graph", "way", "e", "k"] ["graph", "way"] (defScope st__law_is_way) := ⟨rfl, rfl, rfl, by decide +kernel, rfl, by decide +kernel, by decide +kernel⟩
theorem sc__law_is_ring : FnScope ["graph", "ring"] ["graph", "ring"] (defScope st__law_is_ring) := ⟨rfl, rfl, rfl, by decide +kernel, rfl, by decide +kernel, by decide +kernel⟩
theorem sc__law_tokens : FnScope ["graph", "ring", "e"] ["graph", "ring"] (defScope st__law_tokens) := ⟨rfl, rfl, rfl, by decide +kernel, rfl, by decide +kernel, by decide +kernel⟩
theorem sc__law_fed : FnScope ["graph", "marking", "v", "e"] ["graph", "marking", "v"] (defScope st__law_fed) := ⟨rfl, rfl, rfl, by decide +kernel, rfl, by decide +kernel, by decide +kernel⟩
theorem sc__law_fired : FnScope ["graph", "marking", "v", "told", "e"] ["graph", "marking", "v"] (defScope st__law_fired) := ⟨rfl, rfl, rfl, by decide +kernel, rfl, by decide +kernel, by decide +kernel⟩
theorem sc__law_first : FnScope ["graph", "edge"] ["graph"] (defScope st__law_first) := ⟨rfl, rfl, rfl, by decide +kernel, rfl, by decide +kernel, by decide +kernel⟩
theorem sc__law_strolled : FnScope ["draws", "graph", "many", "marking", "counts", "k", "ready", "v"] ["draws", "graph", "many"] (defScope st__law_strolled) := ⟨rfl, rfl, rfl, by decide +kernel, rfl, by decide +kernel, by decide +kernel⟩
theorem sc__law_live_graph : FnScope ["draws", "most", "graph", "stuck", "a", "b", "tokens", "delay"] ["draws", "most"] (defScope st__law_live_graph) := ⟨rfl, rfl, rfl, by decide +kernel, rfl, by decide +kernel, by decide +kernel⟩
theorem sc__law_led : FnScope ["graph", "start", "told", "turn", "a", "b", "tokens", "delay"] ["graph", "start"] (defScope st__law_led) := ⟨rfl, rfl, rfl, by decide +kernel, rfl, by decide +kernel, by decide +kernel⟩
theorem sc__law_reached : FnScope ["graph", "counts", "here", "left", "ready", "v"] ["graph", "counts"] (defScope st__law_reached) := ⟨rfl, rfl, rfl, by decide +kernel, rfl, by decide +kernel, by decide +kernel⟩
theorem sc__law_shown : FnScope ["graph", "e", "count", "ring", "distances", "a", "b", "tokens", "delay", "d"] ["graph", "e", "count", "ring", "distances"] (defScope st__law_shown) := ⟨rfl, rfl, rfl, by decide +kernel, rfl, by decide +kernel, by decide +kernel⟩
theorem sc__law_bent : FnScope ["draws", "paper", "edges", "told", "at", "row", "k", "odd"] ["draws", "paper", "edges"] (defScope st__law_bent) := ⟨rfl, rfl, rfl, by decide +kernel, rfl, by decide +kernel, by decide +kernel⟩
theorem sc__law_refused : FnScope ["graph", "e", "error"] ["graph", "e"] (defScope st__law_refused) := ⟨rfl, rfl, rfl, by decide +kernel, rfl, by decide +kernel, by decide +kernel⟩
theorem sc_law : FnScope ["script", "draws", "turn", "graph", "bad", "e", "start", "goal", "told", "led", "marking", "paper", "most", "k", "value", "due", "v", "d"] ["script"] (defScope st_law) := ⟨rfl, rfl, rfl, by decide +kernel, rfl, by decide +kernel, by decide +kernel⟩
local macro_rules | `(tactic| walk_at "d") => `(tactic| (try simp only [startD, dSeq, dNext, dIfS, dRet, dRetN, dDrop, dAsg, pName, dOp, dUn, dVar, dC, dCons, dNil, dCB, dTest, dTru, truD, dAnd, dOr, dNot, dIf, dPar, dAug, dI0, dII, dI1, dAbs, dInt, dCall, dIx, dTup, dEqS, eqS, dNeS, dAndV, dOrV, dNotV, dIsi, dLen, lenD, dSl, dCut, dPart, dNoPart, dCL, dlLst, dNew, dLst, dAdd, dMul, dIsN, dNotN, nonD, dSet, dPut, eLen, eTuple, eAll, eAny, eSum, eMax, eMin, dTuple, dTupR1, dYes, dIxL, dlCatVL, dlCatLV, dlCatLL, dlRep, dIterL, dSeqI, dRng1, dRng2, dEnum, pTup, setAll, wipeD, dMt, dMt0, tyM, dAppend, dlRg1, dlRg2, dNewK, dNewT, dRev, dRaise, dDisp1, dSortD, dZip, dTry, dTryAs, dBreak, dCont,
  ty_int, ty_bl, ty_str, ty_non, ty_tup, mem_int, mem_bool, mem_str, mem_tuple, mem_list, isTy_self, isTy_bool_int, isTy_int_bool, isTy_int_tuple, isTy_int_list, isTy_int_str, isTy_bool_tuple, isTy_bool_list, isTy_bool_str, isTy_str_bool, isTy_str_int, isTy_str_tuple, isTy_str_list, isTy_non_tuple, isTy_non_list, isTy_non_str, isTy_non_int, isTy_non_bool, isTy_tup_list, isTy_tup_int, isTy_tup_str, isTy_tup_bool, isTy_list_tup, isTy_list_int, isTy_list_bool, isTy_list_str,
  sp1, sp2, sp3, sp4, sp5, sp6, updD_same, updD_updD, List.map_cons, List.map_nil, List.length_cons, List.length_nil, List.set_cons_zero, List.set_cons_succ, List.getElem?_cons_zero, List.getElem?_cons_succ, List.cons_append, List.nil_append, Nat.reduceAdd, Nat.reduceSub, List.replicate, Nat.sub_self, decide_eq_true_eq, Bool.not_eq_true', decide_eq_false_iff_not, decide_true, decide_false, Bool.not_true, Bool.not_false, Bool.false_eq_true, Bool.true_eq_false, if_true, if_false, reduceIte, true_and, and_true, List.isEmpty_nil, List.isEmpty_cons, List.flatten_cons, List.flatten_nil, at_0, at_1, at_2, at_3, at_4, at_5, at_6, at_7, at_m1_1, at_m1_2, at_m1_3, at_m1_4, at_m1_5, at_m1_6, nc_0, nc_1, nc_2, nc_3, nc_4, nc_5, nc_6, nc_7, nc_8, nc_9, nc_10, nc_11, nc_12, len_map, not_true_eq_false, not_false_eq_true, ite_true, ite_false, Int.reduceEq, Int.reduceNe, Int.reduceLT, Int.reduceLE, Nat.reduceEqDiff, Option.some.injEq, true_implies, forall_const, sz_0, sz_1, sz_2, sz_3, sz_4, sz_5, sz_6, sz_7, sz_8, sz_9, sz_10, sz_11, sz_12, sz_13, sz_14, sz_15, sz_16, sz_17, sz_18, sz_19, sz_20]))
/-! ### numbers -/
theorem at2_0 {a b : D} : atI [a, b] 0 = some a := rfl
theorem at2_1 {a b : D} : atI [a, b] 1 = some b := rfl
def sp_common : DSp := sp2 fun a b h q _ => ∃ m n : Int, a = .int m ∧ b = .int n ∧ q (.int (Int.gcd m n : Nat)) h
/-- n / d in lowest terms, d above 0 -/
def nrm (n d : Int) : Int × Int := (n / (Int.gcd n d : Nat), d / (Int.gcd n d : Nat))
def eR (r : Int × Int) : D := .tup [.int r.1, .int r.2]
def sp_ratio : DSp := sp2 fun a b h q _ => ∃ m n : Int, a = .int m ∧ b = .int n ∧ 0 < n ∧ n < 1073741824 ∧ q (eR (nrm m n)) h
def sp_is_integer : DSp := sp1 fun a h q _ => ∃ t, tyD a h = some t ∧ q (.bl (decide (t = "int"))) h
section
variable {P : Program} {w : World} {K : PySem.W.Frag} {mg : Str → Option Value} {base : Heap} {C_DelayError C_BadNet : Addr}
theorem h_common (T : Txt K mg C_DelayError C_BadNet) : Has P w K mg base "common" (2) ["a", "b"] (sp_common) := by
  refine has_of T.a_common fun f fd F => okD F sc_common len2 fun cdv A outer s H E b ds q xx hr tk hsp => ?_
  refine ⟨_, (dss_cons (ds_set (i := 0) sc_common.nd rfl (Or.inl rfl) (de_cb (pe_callB call_abs (by rfl) T.m_abs bt_abs (da_cons (de_var (pv 0)) da_nil)) refAbs))
  (dss_cons (ds_set (i := 1) sc_common.nd rfl (Or.inl rfl) (de_cb (pe_callB call_abs (by rfl) T.m_abs bt_abs (da_cons (de_var (pv 1)) da_nil)) refAbs))
  (dss_cons (ds_while (passes_of rfl) (dt_gt (de_var (pv 1)) de_int) (dss_one (ds_par (i := 0) (j := 1) (by rfl) sc_common.nd rfl rfl (by decide) rfl rfl (da_cons (de_var (pv 1)) (da_cons (de_mod (de_var (pv 0)) (de_var (pv 1))) da_nil)) (by rfl))))
  (dss_one (ds_ret (de_var (pv 0))))))), ?_⟩
  obtain ⟨d0, d1, rfl, hsp⟩ := inv2 hsp
  obtain ⟨m, n, rfl, rfl, hq⟩ := hsp
  walk_at "d"
  refine whileP (fun j s h' => h' = b ∧ ∃ x y : Nat, s = [some (.int x), some (.int y)] ∧ j = y ∧ Nat.gcd x y = Int.gcd m n) n.natAbs ⟨rfl, m.natAbs, n.natAbs, rfl, rfl, rfl⟩ ?_
  rintro j s h' ⟨rfl, x, y, rfl, rfl, hg⟩
  refine ⟨decide (0 < j), fun q hq => ?_, fun hj => ?_, fun hj => ?_⟩
  · walk_at "d"
    have e : decide (0 < j) = decide ((0 : Int) < (j : Int)) := by simp
    rw [← e]; exact hq
  · have hj : 0 < j := of_decide_eq_true hj
    walk_at "d"
    refine ⟨by omega, x % j, Nat.mod_lt _ hj, j, x % j, rfl, rfl, ?_⟩
    rw [← hg, Nat.gcd_comm x j, Nat.gcd_rec j x, Nat.gcd_comm]
  · have hj : j = 0 := by simpa using hj
    subst hj
    walk_at "d"
    refine ⟨h', Sub.refl, ?_⟩
    rw [Nat.gcd_zero_right] at hg
    rw [hg]; exact hq
theorem h_is_integer (T : Txt K mg C_DelayError C_BadNet) : Has P w K mg base "is_integer" (2) ["value"] (sp_is_integer) := by
  refine has_of T.a_is_integer fun f fd F => okD F sc_is_integer len1 fun cdv A outer s H E b ds q xx hr tk hsp => ?_
  refine ⟨_, (dss_one (ds_ret (de_and (de_cb (pe_callB call_isi (by rfl) T.m_isinstance bt_isinstance (da_cons (de_var (pv 0)) (da_cons (de_ty (by rfl) T.m_int bt_int) da_nil))) refIsi) (de_one (de_not (de_cb (pe_callB call_isi (by rfl) T.m_isinstance bt_isinstance (da_cons (de_var (pv 0)) (da_cons (de_ty (by rfl) T.m_bool bt_bool) da_nil))) refIsi)))))), ?_⟩
  obtain ⟨d0, rfl, hsp⟩ := inv1 hsp
  obtain ⟨t, ht, hq⟩ := hsp
  have hm := isTy_whole (tyD_mem ht)
  walk_at "d"
  simp only [ht]
  split
  · rename_i hi
    refine ⟨b, Sub.refl, ?_⟩
    rw [hm.1 hi]; exact hq
  · rename_i hi
    refine ⟨b, Sub.refl, ?_⟩
    rw [hm.2 hi]; exact hq
end
theorem int_whole {i : Int} {h : DH} {q : DK} {x : DXK} : sp_is_integer [.int i] h q x = q (.bl true) h := by
  apply propext
  show (∃ t, some "int" = some t ∧ q (.bl (decide (t = "int"))) h) ↔ _
  simp
local macro_rules | `(tactic| walk_at "d") => `(tactic| (try simp only [startD, dSeq, dNext, dIfS, dRet, dRetN, dDrop, dAsg, pName, dOp, dUn, dVar, dC, dCons, dNil, dCB, dTest, dTru, truD, dAnd, dOr, dNot, dIf, dPar, dAug, dI0, dII, dI1, dAbs, dInt, dCall, dIx, dTup, dEqS, eqS, dNeS, dAndV, dOrV, dNotV, dIsi, dLen, lenD, dSl, dCut, dPart, dNoPart, dCL, dlLst, dNew, dLst, dAdd, dMul, dIsN, dNotN, nonD, dSet, dPut, eLen, eTuple, eAll, eAny, eSum, eMax, eMin, dTuple, dTupR1, dYes, dIxL, dlCatVL, dlCatLV, dlCatLL, dlRep, dIterL, dSeqI, dRng1, dRng2, dEnum, pTup, setAll, wipeD, dMt, dMt0, tyM, dAppend, dlRg1, dlRg2, dNewK, dNewT, dRev, dRaise, dDisp1, dSortD, dZip, dTry, dTryAs, dBreak, dCont,
  ty_int, ty_bl, ty_str, ty_non, ty_tup, mem_int, mem_bool, mem_str, mem_tuple, mem_list, isTy_self, isTy_bool_int, isTy_int_bool, isTy_int_tuple, isTy_int_list, isTy_int_str, isTy_bool_tuple, isTy_bool_list, isTy_bool_str, isTy_str_bool, isTy_str_int, isTy_str_tuple, isTy_str_list, isTy_non_tuple, isTy_non_list, isTy_non_str, isTy_non_int, isTy_non_bool, isTy_tup_list, isTy_tup_int, isTy_tup_str, isTy_tup_bool, isTy_list_tup, isTy_list_int, isTy_list_bool, isTy_list_str,
  sp1, sp2, sp3, sp4, sp5, sp6, updD_same, updD_updD, List.map_cons, List.map_nil, List.length_cons, List.length_nil, List.set_cons_zero, List.set_cons_succ, List.getElem?_cons_zero, List.getElem?_cons_succ, List.cons_append, List.nil_append, Nat.reduceAdd, Nat.reduceSub, List.replicate, Nat.sub_self, decide_eq_true_eq, Bool.not_eq_true', decide_eq_false_iff_not, decide_true, decide_false, Bool.not_true, Bool.not_false, Bool.false_eq_true, Bool.true_eq_false, if_true, if_false, reduceIte, true_and, and_true, List.isEmpty_nil, List.isEmpty_cons, List.flatten_cons, List.flatten_nil, at_0, at_1, at_2, at_3, at_4, at_5, at_6, at_7, at_m1_1, at_m1_2, at_m1_3, at_m1_4, at_m1_5, at_m1_6, nc_0, nc_1, nc_2, nc_3, nc_4, nc_5, nc_6, nc_7, nc_8, nc_9, nc_10, nc_11, nc_12, len_map, not_true_eq_false, not_false_eq_true, ite_true, ite_false, Int.reduceEq, Int.reduceNe, Int.reduceLT, Int.reduceLE, Nat.reduceEqDiff, Option.some.injEq, true_implies, forall_const, sz_0, sz_1, sz_2, sz_3, sz_4, sz_5, sz_6, sz_7, sz_8, sz_9, sz_10, sz_11, sz_12, sz_13, sz_14, sz_15, sz_16, sz_17, sz_18, sz_19, sz_20, int_whole]))
/-! ### ratios, edges, graphs -/
structure OkR (r : Int × Int) : Prop where
  n0 : 0 ≤ r.1
  d0 : 0 < r.2
  cop : Int.gcd r.1 r.2 = 1
  dv : r.2 ∣ 12
theorem OkR.le (o : OkR r) : r.2 ≤ 12 := Int.le_of_dvd (by decide) o.dv
structure Ed where
  a : Nat
  b : Nat
  t : Nat
  d : Int × Int
def eE (e : Ed) : D := .tup [.int (e.a : Nat), .int (e.b : Nat), .int (e.t : Nat), eR e.d]
theorem eE_eq (e : Ed) : eE e = .tup [.int (e.a : Nat), .int (e.b : Nat), .int (e.t : Nat), eR e.d] := rfl
abbrev Gr := Nat × List Ed
def eG (g : Gr) : D := .tup [.int (g.1 : Nat), .tup (g.2.map eE)]
structure OkE (n : Nat) (e : Ed) : Prop where
  a : e.a < n
  b : e.b < n
  d : OkR e.d
structure WF (g : Gr) : Prop where
  pos : 0 < g.1
  n : g.1 ≤ 1000
  m : g.2.length ≤ 1000
  es : ∀ e ∈ g.2, OkE g.1 e
def sp_is_ratio : DSp := sp1 fun a h q _ => ∃ r, a = eR r ∧ OkR r ∧ q (.bl true) h
def sp_is_edge : DSp := sp2 fun a b h q _ => ∃ e n, a = eE e ∧ b = .int (n : Nat) ∧ OkE n e ∧ q (.bl true) h
def sp_look_at_graph : DSp := sp1 fun a h q _ => ∃ g, a = eG g ∧ WF g ∧ q .non h
def sp_plus : DSp := sp2 fun a b h q _ => ∃ r s, a = eR r ∧ b = eR s ∧ OkR r ∧ OkR s ∧ q (eR (nrm (r.1 * s.2 + s.1 * r.2) (r.2 * s.2))) h
def sp_less : DSp := sp2 fun a b h q _ => ∃ r s, a = eR r ∧ b = eR s ∧ OkR r ∧ OkR s ∧ q (.bl (decide (r.1 * s.2 < s.1 * r.2))) h
theorem mul12 {a b : Int} (h1 : 0 < a) (h2 : 0 < b) (h3 : a ≤ 12) (h4 : b ≤ 12) : 0 < a * b ∧ a * b ≤ 144 := by
  refine ⟨Int.mul_pos h1 h2, ?_⟩
  have := Int.mul_le_mul h3 h4 (by omega) (by omega)
  simpa using this
section
variable {P : Program} {w : World} {K : PySem.W.Frag} {mg : Str → Option Value} {base : Heap} {C_DelayError C_BadNet : Addr}
theorem h_is_ratio (T : Txt K mg C_DelayError C_BadNet) (H_common : Has P w K mg base "common" 2 ["a", "b"] sp_common) (H_is_integer : Has P w K mg base "is_integer" 2 ["value"] sp_is_integer) : Has P w K mg base "is_ratio" (3) ["value"] (sp_is_ratio) := by
  refine has_of T.a_is_ratio fun f fd F => okD F sc_is_ratio len1 fun cdv A outer s H E b ds q xx hr tk hsp => ?_
  have hr_common := hr.mono (show 2 ≤ 2 by decide)
  have hr_is_integer := hr.mono (show 2 ≤ 2 by decide)
  refine ⟨_, (dss_cons (ds_if (dt_w (dw_or (dt_not (dt_tru (de_cb (pe_callB call_isi (by rfl) T.m_isinstance bt_isinstance (da_cons (de_var (pv 0)) (da_cons (de_ty (by rfl) T.m_tuple bt_tuple) da_nil))) refIsi))) (dw_or1 (dt_ne (de_cb (pe_callB call_lenU (by rfl) T.m_len bt_len (da_cons (de_var (pv 0)) da_nil)) refLen) de_int)))) (dss_one (ds_ret de_bl)) dss_nil)
  (dss_cons (ds_if (dt_w (dw_or (dt_not (dt_tru (de_callH H_is_integer hr_is_integer (by rfl) tk (da_cons (de_ix (hu_of hr) (de_var (pv 0)) de_int (fun _ _ => rfl)) da_nil)))) (dw_or (dt_not (dt_tru (de_callH H_is_integer hr_is_integer (by rfl) tk (da_cons (de_ix (hu_of hr) (de_var (pv 0)) de_int (fun _ _ => rfl)) da_nil)))) (dw_or1 (dt_lt (de_ix (hu_of hr) (de_var (pv 0)) de_int (fun _ _ => rfl)) de_int))))) (dss_one (ds_ret de_bl)) dss_nil)
  (dss_one (ds_ret (de_eq (de_callH H_common hr_common (by rfl) tk (da_cons (de_ix (hu_of hr) (de_var (pv 0)) de_int (fun _ _ => rfl)) (da_cons (de_ix (hu_of hr) (de_var (pv 0)) de_int (fun _ _ => rfl)) da_nil))) de_int))))), ?_⟩
  obtain ⟨d0, rfl, hsp⟩ := inv1 hsp
  obtain ⟨r, rfl, ho, hq⟩ := hsp
  have h1 := ho.d0
  unfold eR
  walk_at "d"
  rw [if_neg (by omega)]
  refine ⟨_, _, rfl, rfl, ?_⟩
  walk_at "d"
  refine ⟨b, Sub.refl, ?_⟩
  rw [ho.cop]
  exact hq
theorem h_is_edge (T : Txt K mg C_DelayError C_BadNet) (H_is_ratio : Has P w K mg base "is_ratio" 3 ["value"] sp_is_ratio) (H_is_integer : Has P w K mg base "is_integer" 2 ["value"] sp_is_integer) : Has P w K mg base "is_edge" (4) ["edge", "nodes"] (sp_is_edge) := by
  refine has_of T.a_is_edge fun f fd F => okD F sc_is_edge len2 fun cdv A outer s H E b ds q xx hr tk hsp => ?_
  have hr_is_ratio := hr.mono (show 3 ≤ 3 by decide)
  have hr_is_integer := hr.mono (show 2 ≤ 3 by decide)
  refine ⟨_, (dss_cons (ds_if (dt_w (dw_or (dt_not (dt_tru (de_cb (pe_callB call_isi (by rfl) T.m_isinstance bt_isinstance (da_cons (de_var (pv 0)) (da_cons (de_ty (by rfl) T.m_tuple bt_tuple) da_nil))) refIsi))) (dw_or (dt_ne (de_cb (pe_callB call_lenU (by rfl) T.m_len bt_len (da_cons (de_var (pv 0)) da_nil)) refLen) de_int) (dw_or1 (dt_not (dt_tru (de_cl (pe_callB (cr_all rfl) (by rfl) T.m_all bt_all (one_l (dl_lc (own := [("number", 2)]) rfl sc_is_edge.nd (di_seq (de_slice (de_var (pv 0)) do_none (do_some de_int))) (blkOk_by (own := [("number", 2)]) (N := ["edge", "nodes", "number"]) (sc := defScope st_is_edge) (by decide +kernel)) (ownG_name (by decide)) (fun _ _ _ _ _ => pg_name (i := 2) sc_is_edge.nd rfl (Or.inl rfl)) (fun _ _ _ _ _ => dts_nil) (fun _ _ _ _ _ => (de_callH H_is_integer hr_is_integer (by rfl) takes_none (da_cons (de_var (pv 2)) da_nil)))))) rlAll))))))) (dss_one (ds_ret de_bl)) dss_nil)
  (dss_cons (ds_if (dt_w (dw_or (dt_lt (de_ix (hu_of hr) (de_var (pv 0)) de_int (fun _ _ => rfl)) de_int) (dw_or (dt_ge (de_ix (hu_of hr) (de_var (pv 0)) de_int (fun _ _ => rfl)) (de_var (pv 1))) (dw_or (dt_lt (de_ix (hu_of hr) (de_var (pv 0)) de_int (fun _ _ => rfl)) de_int) (dw_or (dt_ge (de_ix (hu_of hr) (de_var (pv 0)) de_int (fun _ _ => rfl)) (de_var (pv 1))) (dw_or1 (dt_lt (de_ix (hu_of hr) (de_var (pv 0)) de_int (fun _ _ => rfl)) de_int))))))) (dss_one (ds_ret de_bl)) dss_nil)
  (dss_one (ds_ret (de_and (de_callH H_is_ratio hr_is_ratio (by rfl) tk (da_cons (de_ix (hu_of hr) (de_var (pv 0)) de_int (fun _ _ => rfl)) da_nil)) (de_one (de_ge (de_ix (hu_of hr) (de_ix (hu_of hr) (de_var (pv 0)) de_int (fun _ _ => rfl)) de_int (fun _ _ => rfl)) de_int))))))), ?_⟩
  obtain ⟨d0, d1, rfl, hsp⟩ := inv2 hsp
  obtain ⟨e, n, rfl, rfl, ho, hq⟩ := hsp
  have h1 := ho.d.n0
  have h2 := ho.a
  have h3 := ho.b
  unfold eE
  walk_at "d"
  refine lcM (G := fun _ => True) (fun x => .bl true) (fun r hr => by walk_at "d"; exact hr) trivial (accMax_big (by simp [DL.cutD, HT.sIx])) (fun x hx Y hY => ?_) ?_
  · have : x = .int (e.a : Nat) ∨ x = .int (e.b : Nat) ∨ x = .int (e.t : Nat) := by simpa [DL.cutD, HT.sIx] using hx
    rcases this with rfl | rfl | rfl
    all_goals
      walk_at "d"
      exact hY
  · refine ⟨[true, true, true], by simp [DL.cutD, HT.sIx], ?_⟩
    walk_at "d"
    rw [if_neg (by decide), if_neg (by omega), if_neg (by omega), if_neg (by omega), if_neg (by omega), if_neg (by omega)]
    refine ⟨e.d, rfl, ho.d, ?_⟩
    unfold eR
    walk_at "d"
    refine ⟨b, Sub.refl, ?_⟩
    rw [decide_eq_true h1]
    exact hq
theorem h_look_at_graph (T : Txt K mg C_DelayError C_BadNet) (H_is_edge : Has P w K mg base "is_edge" 4 ["edge", "nodes"] sp_is_edge) (H_is_integer : Has P w K mg base "is_integer" 2 ["value"] sp_is_integer) : Has P w K mg base "look_at_graph" (5) ["graph"] (sp_look_at_graph) := by
  refine has_of T.a_look_at_graph fun f fd F => okD F sc_look_at_graph len1 fun cdv A outer s H E b ds q xx hr tk hsp => ?_
  have hr_is_edge := hr.mono (show 4 ≤ 4 by decide)
  have hr_is_integer := hr.mono (show 2 ≤ 4 by decide)
  refine ⟨_, (dss_cons (ds_if (dt_w (dw_or (dt_not (dt_tru (de_cb (pe_callB call_isi (by rfl) T.m_isinstance bt_isinstance (da_cons (de_var (pv 0)) (da_cons (de_ty (by rfl) T.m_tuple bt_tuple) da_nil))) refIsi))) (dw_or (dt_ne (de_cb (pe_callB call_lenU (by rfl) T.m_len bt_len (da_cons (de_var (pv 0)) da_nil)) refLen) de_int) (dw_or (dt_not (dt_tru (de_callH H_is_integer hr_is_integer (by rfl) tk (da_cons (de_ix (hu_of hr) (de_var (pv 0)) de_int (fun _ _ => rfl)) da_nil)))) (dw_or1 (dt_lt (de_ix (hu_of hr) (de_var (pv 0)) de_int (fun _ _ => rfl)) de_int)))))) (dss_one (ds_raise rfl tk (pmk_own PySem.F.excBase_ValueError T.x_BadNet T.g_BadNet T.k_BadNet (raises_own T.b_BadNet T.t_BadNet) (by rfl)))) dss_nil)
  (dss_one (ds_if (dt_w (dw_or (dt_not (dt_tru (de_cb (pe_callB call_isi (by rfl) T.m_isinstance bt_isinstance (da_cons (de_ix (hu_of hr) (de_var (pv 0)) de_int (fun _ _ => rfl)) (da_cons (de_ty (by rfl) T.m_tuple bt_tuple) da_nil))) refIsi))) (dw_or1 (dt_not (dt_tru (de_cl (pe_callB (cr_all rfl) (by rfl) T.m_all bt_all (one_l (dl_lc (own := [("edge", 1)]) rfl sc_look_at_graph.nd (di_seq (de_ix (hu_of hr) (de_var (pv 0)) de_int (fun _ _ => rfl))) (blkOk_by (own := [("edge", 1)]) (N := ["graph", "edge"]) (sc := defScope st_look_at_graph) (by decide +kernel)) (ownG_name (by decide)) (fun _ _ _ _ _ => pg_name (i := 1) sc_look_at_graph.nd rfl (Or.inl rfl)) (fun _ _ _ _ _ => dts_nil) (fun _ _ _ _ _ => (de_callH H_is_edge hr_is_edge (by rfl) takes_none (da_cons (de_var (pv 1)) (da_cons (de_ix (hu_of hr) (de_var (pv 0)) de_int (fun _ _ => rfl)) da_nil))))))) rlAll)))))) (dss_one (ds_raise rfl tk (pmk_own PySem.F.excBase_ValueError T.x_BadNet T.g_BadNet T.k_BadNet (raises_own T.b_BadNet T.t_BadNet) (by rfl)))) dss_nil))), ?_⟩
  obtain ⟨d0, rfl, hsp⟩ := inv1 hsp
  obtain ⟨g, rfl, ho, hq⟩ := hsp
  have h1 := ho.pos
  unfold eG
  walk_at "d"
  rw [if_neg (by omega)]
  refine lcM (G := fun _ => True) (fun x => .bl true) (fun r hr => by walk_at "d"; exact hr) trivial (accMax_big (by have := ho.m; simp; omega)) (fun x hx Y hY => ?_) ?_
  · obtain ⟨e, he, rfl⟩ := List.mem_map.mp hx
    walk_at "d"
    exact ⟨e, g.1, rfl, rfl, ho.es e he, hY⟩
  · refine ⟨g.2.map fun _ => true, by simp, ?_⟩
    walk_at "d"
    rw [if_neg (by simp)]
    exact ⟨b, Sub.refl, hq⟩
end
/-! ### ranks -/
/-- zero edges into v from nodes of hs -/
def zin (g : Gr) (hs : List Nat) (v : Nat) : List Ed := g.2.filter fun e => decide (e.b = v) && (decide (e.t = 0) && decide (e.a ∈ hs))
structure Up (g : Gr) (hs : List Nat) (rk : List (Option Int)) : Prop where
  len : rk.length = g.1
  pos : ∀ (v : Nat) (r : Int), rk[v]? = some (some r) → 0 ≤ r
  out : ∀ (v : Nat), v ∉ hs → v < g.1 → rk[v]? = some none
  up : ∀ (e : Ed), e ∈ g.2 → e.t = 0 → e.a ∈ hs → ∀ (r : Int), rk[e.b]? = some (some r) → ∃ r' : Int, rk[e.a]? = some (some r') ∧ r' < r
def Shut (g : Gr) (hs : List Nat) (rk : List (Option Int)) (v : Nat) : Prop := rk[v]? = some none → ∃ e ∈ g.2, e.b = v ∧ e.t = 0 ∧ e.a ∈ hs ∧ rk[e.a]? = some none
def nones (rk : List (Option Int)) : Nat := rk.count none
theorem get_set {α : Type} {l : List α} {i j : Nat} {a x : α} (h : (l.set i a)[j]? = some x) : (i = j ∧ x = a) ∨ (i ≠ j ∧ l[j]? = some x) := by
  by_cases e : i = j
  · subst e
    rw [List.getElem?_set_self'] at h
    cases hl : l[i]? with
    | none => rw [hl] at h; cases h
    | some y => rw [hl] at h; exact .inl ⟨rfl, (Option.some.inj h).symm⟩
  · rw [List.getElem?_set_ne e] at h
    exact .inr ⟨e, h⟩
theorem Up.set {g : Gr} {hs : List Nat} {rk : List (Option Int)} (u : Up g hs rk) (w : WF g) {v : Nat} (hv : v ∈ hs) (hn : rk[v]? = some none) {M : Int} (h0 : 0 ≤ M) (hr : ∀ e ∈ zin g hs v, ∃ r, rk[e.a]? = some (some r) ∧ r < M) : Up g hs (rk.set v (some M)) := by
  have hl : v < rk.length := (List.getElem?_eq_some_iff.mp hn).1
  refine ⟨by rw [List.length_set]; exact u.len, fun x r hx => ?_, fun x hx hx2 => ?_, fun e he ht ha r hb => ?_⟩
  · rcases get_set hx with ⟨_, e⟩ | ⟨_, e⟩
    · cases e; exact h0
    · exact u.pos x r e
  · rw [List.getElem?_set_ne (show v ≠ x from fun z => hx (z ▸ hv))]
    exact u.out x hx hx2
  · have key : ∃ r' : Int, rk[e.a]? = some (some r') ∧ r' < r := by
      rcases get_set hb with ⟨hvb, z⟩ | ⟨_, z⟩
      · cases z
        exact hr e (List.mem_filter.mpr ⟨he, by simp [hvb.symm, ht, ha]⟩)
      · exact u.up e he ht ha r z
    obtain ⟨r', h1, h2⟩ := key
    refine ⟨r', ?_, h2⟩
    rw [List.getElem?_set_ne (fun z => by rw [← z, hn] at h1; cases h1)]
    exact h1
theorem nones_set {rk : List (Option Int)} {v : Nat} {M : Int} (hn : rk[v]? = some none) : nones (rk.set v (some M)) < nones rk := by
  unfold nones
  have hl : v < rk.length := (List.getElem?_eq_some_iff.mp hn).1
  have he : rk[v] = none := by rw [List.getElem?_eq_getElem hl] at hn; exact Option.some.inj hn
  rw [List.count_set hl]
  have hc : 0 < rk.count none := List.count_pos_iff.mpr (by rw [← he]; exact List.getElem_mem hl)
  simp [he]
  omega
def sp_ranks_of : DSp := sp2 fun a c h q _ => ∃ g hs hl, a = eG g ∧ c = .loc hl ∧ WF g ∧ hs.length ≤ 1000 ∧ (∀ v ∈ hs, v < g.1) ∧ h hl = some (.lst (hs.map eN)) ∧
  ∀ rk p, Up g hs rk → (∀ v ∈ hs, Shut g hs rk v) → h p = none → q (.loc p) (updD h p (.lst (rk.map eO)))
section
variable {P : Program} {w : World} {K : PySem.W.Frag} {mg : Str → Option Value} {base : Heap} {C_DelayError C_BadNet : Addr}
theorem h_ranks_of (T : Txt K mg C_DelayError C_BadNet) : Has P w K mg base "ranks_of" (2) ["graph", "held"] (sp_ranks_of) := by
  refine has_of T.a_ranks_of fun f fd F => okD F sc_ranks_of len2 fun cdv A outer s H E b ds q xx hr tk hsp => ?_
  refine ⟨_, (dss_cons (ds_set (i := 2) sc_ranks_of.nd rfl (Or.inr rfl) (de_new (dl_rep (dl_lst (da_cons de_non da_nil)) (de_ix (hu_of hr) (de_var (pv 0)) de_int (fun _ _ => rfl)))))
  (dss_cons (ds_set (i := 3) sc_ranks_of.nd rfl (Or.inl rfl) de_bl)
  (dss_cons (ds_while (passes_of rfl) (dt_tru (de_var (pv 3))) (dss_cons (ds_set (i := 3) sc_ranks_of.nd rfl (Or.inl rfl) de_bl)
    (dss_one (ds_for (passes_of rfl) rfl (di_seq (de_var (pv 1))) (pg_name (i := 4) sc_ranks_of.nd rfl (Or.inr rfl)) (refG_name 4) (dss_one (ds_if (dt_isN (de_ix (hu_of hr) (de_var (pv 2)) (de_var (pv 4)) (fun _ _ => rfl)) de_non) (dss_cons (ds_setLcL (i := 5) (hyl := rfl) (hsw := sw_true rfl rfl rfl (by decide +kernel)) (hy := rfl) (own := [("a", 6), ("b", 7), ("tokens", 8), ("_", 9)]) rfl sc_ranks_of.nd (di_seq (de_ix (hu_of hr) (de_var (pv 0)) de_int (fun _ _ => rfl))) (blkOk_by (own := [("a", 6), ("b", 7), ("tokens", 8), ("_", 9)]) (N := ["graph", "held", "ranks", "going", "v", "row", "a", "b", "tokens", "_"]) (sc := defScope st_ranks_of) (by decide +kernel)) (ownG_tup (is := [6, 7, 8, 9]) (by decide)) (fun _ _ _ _ _ => (pg_tup (by rfl) (pgs_cons (pg_name (i := 6) sc_ranks_of.nd rfl (Or.inl rfl)) (pgs_cons (pg_name (i := 7) sc_ranks_of.nd rfl (Or.inl rfl)) (pgs_cons (pg_name (i := 8) sc_ranks_of.nd rfl (Or.inl rfl)) (pgs_cons (pg_name (i := 9) sc_ranks_of.nd rfl (Or.inl rfl)) pgs_nil)))))) (fun _ _ _ _ _ => dts_one (dt_w (dw_and (dt_eq (de_var (pv 7)) (de_var (pv 4))) (dw_and (dt_eq (de_var (pv 8)) de_int) (dw_and1 (dt_in (hu_of hr) (de_var (pv 6)) (de_var (pv 1)) (by rfl))))))) (fun _ _ _ _ _ => (de_ix (hu_of hr) (de_var (pv 2)) (de_var (pv 6)) (fun _ _ => rfl))))
        (dss_one (ds_if (dt_notIn (hu_of hr) de_non (de_var (pv 5)) (by rfl)) (dss_cons (ds_setItem (de_add (de_cl (pe_callB (cr_max rfl) (by rfl) T.m_max bt_max (one_l (dl_catLV (dl_lst (da_cons (de_neg de_int) da_nil)) (de_var (pv 5))))) rlMax) de_int) (de_var (pv 2)) (de_var (pv 4)) (set_u (hu_of hr)) refPut)
          (dss_one (ds_set (i := 3) sc_ranks_of.nd rfl (Or.inl rfl) de_bl))) dss_nil))) dss_nil))))))
  (dss_one (ds_ret (de_var (pv 2))))))), ?_⟩
  obtain ⟨d0, d1, rfl, hsp⟩ := inv2 hsp
  obtain ⟨g, hs, hl, rfl, rfl, hw, hhs, hlt, hh, hq⟩ := hsp
  have hn := hw.n
  unfold eG
  walk_at "d"
  refine ⟨by omega, by omega, sz_big (by omega), fun pr hpr => ?_⟩
  have e0 : (List.replicate ((g.1 : Nat) : Int).toNat [DL.D.non]).flatten = (List.replicate g.1 (none : Option Int)).map eO := by
    have : ∀ n : Nat, (List.replicate n [DL.D.non]).flatten = (List.replicate n (none : Option Int)).map eO := fun n => by
      induction n with
      | zero => rfl
      | succ n ih => rw [List.replicate_succ, List.replicate_succ, List.flatten_cons, List.map_cons, ih]; rfl
    rw [Int.toNat_natCast]; exact this g.1
  rw [e0]
  have u0 : Up g hs (List.replicate g.1 none) := ⟨List.length_replicate, (fun v r e => by rw [List.getElem?_replicate] at e; split at e <;> cases e), (fun v _ hv => by rw [List.getElem?_replicate, if_pos hv]), (fun e _ _ _ r hb => by rw [List.getElem?_replicate] at hb; split at hb <;> cases hb)⟩
  have hne : hl ≠ pr := fun z => by rw [z, hpr] at hh; cases hh
  refine whileP (fun m s h' => ∃ rk gd x4 x5 x6 x7 x8 x9, s = [some (.tup [.int (g.1 : Nat), .tup (g.2.map eE)]), some (.loc hl), some (.loc pr), some (.bl gd), x4, x5, x6, x7, x8, x9] ∧ Sub (updD b pr (.lst (rk.map eO))) h' ∧ Up g hs rk ∧ (gd = false → ∀ v ∈ hs, Shut g hs rk v) ∧ m = 2 * nones rk + (if gd then 1 else 0)) _ ⟨_, true, _, _, _, _, _, _, rfl, Sub.refl, u0, (fun z => nomatch z), rfl⟩ ?_
  rintro m s h' ⟨rk, gd, x4, x5, x6, x7, x8, x9, rfl, hs', hu, hsh, rfl⟩
  refine ⟨gd, fun q hq => by walk_at "d"; exact hq, fun hgd => ?_, fun hgd => ?_⟩
  · subst hgd
    walk_at "d"
    refine forE hs eN (G := fun h => h hl = some (.lst (hs.map eN))) (fun i s h' => ∃ rk' gd x4 x5 x6 x7 x8 x9, s = [some (.tup [.int (g.1 : Nat), .tup (g.2.map eE)]), some (.loc hl), some (.loc pr), some (.bl gd), x4, x5, x6, x7, x8, x9] ∧ Sub (updD b pr (.lst (rk'.map eO))) h' ∧ Up g hs rk' ∧
      (gd = false → rk' = rk ∧ ∀ j v, j < i → hs[j]? = some v → Shut g hs rk v) ∧ (gd = true → nones rk' < nones rk)) ?_ ⟨rk, false, _, _, _, _, _, _, rfl, hs', hu, fun _ => ⟨rfl, fun j v hj => by omega⟩, fun z => nomatch z⟩ ?_ ?_ ?_
    · intro r hr
      have : h' hl = some (.lst (hs.map eN)) := hs' hl _ (by rw [updD_ne hne]; exact hh)
      walk_at "d"
      simp only [this]
      exact hr
    · rintro i s h'' _ ⟨rk', gd, x4, x5, x6, x7, x8, x9, rfl, hs', _⟩
      exact hs' hl _ (by rw [updD_ne hne]; exact hh)
    · rintro i v s h'' hv ⟨rk', gd, x4, x5, x6, x7, x8, x9, rfl, hs', hu', hf, ht⟩
      have hvm : v ∈ hs := List.mem_of_getElem? hv
      have hvn := hlt v hvm
      have hpr' : h'' pr = some (.lst (rk'.map eO)) := hs' pr _ updD_same
      have hvl : v < rk'.length := by rw [hu'.len]; exact hvn
      have hget : atI (rk'.map eO) (v : Int) = some (eO rk'[v]) := atI_nat (by rw [List.getElem?_map, List.getElem?_eq_getElem hvl]; rfl)
      unfold eN
      walk_at "d"
      simp only [hpr', hget]
      cases hrv : rk'[v] with
      | some r =>
        simp only [eO]
        walk_at "d"
        refine ⟨rk', gd, _, _, _, _, _, _, rfl, hs', hu', fun hg => ⟨(hf hg).1, fun j x hj hx => ?_⟩, ht⟩
        rcases Nat.lt_or_eq_of_le (Nat.le_of_lt_succ hj) with h1 | h1
        · exact (hf hg).2 j x h1 hx
        · subst h1
          rw [hv] at hx; cases hx
          intro hn
          rw [← (hf hg).1, List.getElem?_eq_getElem hvl, hrv] at hn
          cases hn
      | none =>
        simp only [eO]
        walk_at "d"
        refine lcE g.2 eE (G := fun _ => True) (fun e => decide (e.b = v) && (decide (e.t = 0) && decide (e.a ∈ hs))) (fun e => eO (rk'[e.a]?.getD none)) (fun r hr => by walk_at "d"; exact hr) trivial (accMax_big (by have := hw.m; omega)) (fun e he Y Z hY hZ => ?_) (fun p hp => ?_)
        · have hea := (hw.es e he).a
          have hhl : h'' hl = some (.lst (hs.map eN)) := hs' hl _ (by rw [updD_ne hne]; exact hh)
          have hal : e.a < rk'.length := by rw [hu'.len]; exact hea
          have hge : atI (rk'.map eO) (e.a : Int) = some (eO (rk'[e.a]?.getD none)) := atI_nat (by rw [List.getElem?_map, List.getElem?_eq_getElem hal]; rfl)
          unfold eE
          walk_at "d"
          simp only [nat_inj, nat_zero, dIn_N hhl]
          by_cases c1 : e.b = v
          · rw [if_pos c1]
            by_cases c2 : e.t = 0
            · rw [if_pos c2]
              by_cases c3 : e.a ∈ hs
              · simp only [c3, hpr', hge]
                exact hY (by simp [c1, c2, c3])
              · simp only [c3]
                exact hZ (by simp [c3])
            · rw [if_neg c2]
              exact hZ (by simp [c2])
          · rw [if_neg c1]
            exact hZ (by simp [c1])
        · have ne1 : pr ≠ p := fun z => by rw [z, hp] at hpr'; cases hpr'
          have em : (List.filter (fun e : Ed => decide (e.b = v) && (decide (e.t = 0) && decide (e.a ∈ hs))) g.2).map (fun e => eO (rk'[e.a]?.getD none)) = ((zin g hs v).map fun e => rk'[e.a]?.getD none).map eO := by
            rw [List.map_map]; rfl
          rw [em]
          have hsub : DL.Sub (updD b pr (.lst (rk'.map eO))) (updD h'' p (.lst (((zin g hs v).map fun e => rk'[e.a]?.getD none).map eO))) := hs'.trans (Sub.new hp)
          rw [dIn_O (l := (zin g hs v).map fun e => rk'[e.a]?.getD none) updD_same]
          by_cases hno : none ∈ (zin g hs v).map fun e => rk'[e.a]?.getD none
          · simp only [hno]
            walk_at "d"
            refine ⟨rk', gd, _, _, _, _, _, _, rfl, hsub, hu', fun hg => ⟨(hf hg).1, fun j x hj hx => ?_⟩, ht⟩
            rcases Nat.lt_or_eq_of_le (Nat.le_of_lt_succ hj) with h1 | h1
            · exact (hf hg).2 j x h1 hx
            · subst h1
              rw [hv] at hx; cases hx
              intro hn
              obtain ⟨e, he, hen⟩ := List.mem_map.mp hno
              obtain ⟨he1, he2⟩ := List.mem_filter.mp he
              simp only [Bool.and_eq_true, decide_eq_true_eq] at he2
              refine ⟨e, he1, he2.1, he2.2.1, he2.2.2, ?_⟩
              rw [← (hf hg).1]
              have hal : e.a < rk'.length := by rw [hu'.len]; exact (hw.es e he1).a
              rw [List.getElem?_eq_getElem hal] at hen ⊢
              exact congrArg some hen
          · obtain ⟨ns, ens⟩ := allO hno
            simp only [hno]
            walk_at "d"
            simp only [lstOf_upd]
            have elen : (((zin g hs v).map fun e => rk'[e.a]?.getD none).map eO).length ≤ 1000 := by
              have h1 := List.length_filter_le (fun e : Ed => decide (e.b = v) && (decide (e.t = 0) && decide (e.a ∈ hs))) g.2
              have h2 := hw.m
              simp only [List.length_map, zin]
              omega
            refine ⟨sz_big (by omega), -1 :: ns, ?_, by simp, fun m hm hmax => ?_⟩
            · rw [ens, List.map_map]
              rfl
            · have h1 : updD h'' p (.lst (((zin g hs v).map fun e => rk'[e.a]?.getD none).map eO)) pr = some (.lst (rk'.map eO)) := by rw [updD_ne ne1]; exact hpr'
              simp only [h1, List.length_map, ixN_nat hvl]
              have hm0 : -1 ≤ m := hmax _ List.mem_cons_self
              have hn : rk'[v]? = some none := by rw [List.getElem?_eq_getElem hvl, hrv]
              refine ⟨rk'.set v (some (m + 1)), true, _, _, _, _, _, _, rfl, ?_, hu'.set hw hvm hn (by omega) (fun e he => ?_), (fun z => nomatch z), fun _ => ?_⟩
              · have := hsub.put (u := .lst ((rk'.set v (some (m + 1))).map eO))
                rw [List.map_set] at this ⊢
                exact this
              · have hx : (rk'[e.a]?.getD none) ∈ ns.map some := by rw [← ens]; exact List.mem_map_of_mem he
                obtain ⟨r, hr1, hr2⟩ := List.mem_map.mp hx
                have hal : e.a < rk'.length := by rw [hu'.len]; exact (hw.es e (List.mem_filter.mp he).1).a
                rw [List.getElem?_eq_getElem hal] at hr2 ⊢
                have := hmax r (List.mem_cons_of_mem _ hr1)
                exact ⟨r, congrArg some hr2.symm, by omega⟩
              · have h2 := nones_set (M := m + 1) hn
                cases gd with
                | false => rw [← (hf rfl).1]; exact h2
                | true => exact Nat.lt_trans h2 (ht rfl)
    · rintro s h'' ⟨rk', gd, x4, x5, x6, x7, x8, x9, rfl, hs', hu', hf, ht⟩
      refine ⟨2 * nones rk' + (if gd then 1 else 0), ?_, rk', gd, _, _, _, _, _, _, rfl, hs', hu', fun hg v hv => ?_, rfl⟩
      · cases gd with
        | false => rw [(hf rfl).1]; simp
        | true => have := ht rfl; simp; omega
      · obtain ⟨j, hj⟩ := List.mem_iff_getElem?.mp hv
        rw [(hf hg).1]
        exact (hf hg).2 j v (List.getElem?_eq_some_iff.mp hj).1 hj
  · subst hgd
    walk_at "d"
    exact ⟨_, hs', hq rk pr hu (hsh rfl) hpr⟩
end
end K

set_option Elab.async false
set_option linter.all false
set_option maxRecDepth 100000
set_option maxHeartbeats 4000000
namespace K
open PySem PySem.Spec PyProof.Rows L2 DL
local macro_rules | `(tactic| walk_at "d") => `(tactic| (try simp only [startD, dSeq, dNext, dIfS, dRet, dRetN, dDrop, dAsg, pName, dOp, dUn, dVar, dC, dCons, dNil, dCB, dTest, dTru, truD, dAnd, dOr, dNot, dIf, dPar, dAug, dI0, dII, dI1, dAbs, dInt, dCall, dIx, dTup, dEqS, eqS, dNeS, dAndV, dOrV, dNotV, dIsi, dLen, lenD, dSl, dCut, dPart, dNoPart, dCL, dlLst, dNew, dLst, dAdd, dMul, dIsN, dNotN, nonD, dSet, dPut, eLen, eTuple, eAll, eAny, eSum, eMax, eMin, dTuple, dTupR1, dYes, dIxL, dlCatVL, dlCatLV, dlCatLL, dlRep, dIterL, dSeqI, dRng1, dRng2, dEnum, pTup, setAll, wipeD, dMt, dMt0, tyM, dAppend, dlRg1, dlRg2, dNewK, dNewT, dRev, dRaise, dDisp1, dSortD, dZip, dTry, dTryAs, dBreak, dCont,
  ty_int, ty_bl, ty_str, ty_non, ty_tup, mem_int, mem_bool, mem_str, mem_tuple, mem_list, isTy_self, isTy_bool_int, isTy_int_bool, isTy_int_tuple, isTy_int_list, isTy_int_str, isTy_bool_tuple, isTy_bool_list, isTy_bool_str, isTy_str_bool, isTy_str_int, isTy_str_tuple, isTy_str_list, isTy_non_tuple, isTy_non_list, isTy_non_str, isTy_non_int, isTy_non_bool, isTy_tup_list, isTy_tup_int, isTy_tup_str, isTy_tup_bool, isTy_list_tup, isTy_list_int, isTy_list_bool, isTy_list_str,
  sp1, sp2, sp3, sp4, sp5, sp6, updD_same, updD_updD, List.map_cons, List.map_nil, List.length_cons, List.length_nil, List.set_cons_zero, List.set_cons_succ, List.getElem?_cons_zero, List.getElem?_cons_succ, List.cons_append, List.nil_append, Nat.reduceAdd, Nat.reduceSub, List.replicate, Nat.sub_self, decide_eq_true_eq, Bool.not_eq_true', decide_eq_false_iff_not, decide_true, decide_false, Bool.not_true, Bool.not_false, Bool.false_eq_true, Bool.true_eq_false, if_true, if_false, reduceIte, true_and, and_true, List.isEmpty_nil, List.isEmpty_cons, List.flatten_cons, List.flatten_nil, at_0, at_1, at_2, at_3, at_4, at_5, at_6, at_7, at_m1_1, at_m1_2, at_m1_3, at_m1_4, at_m1_5, at_m1_6, nc_0, nc_1, nc_2, nc_3, nc_4, nc_5, nc_6, nc_7, nc_8, nc_9, nc_10, nc_11, nc_12, len_map, not_true_eq_false, not_false_eq_true, ite_true, ite_false, Int.reduceEq, Int.reduceNe, Int.reduceLT, Int.reduceLE, Nat.reduceEqDiff, Option.some.injEq, true_implies, forall_const, sz_0, sz_1, sz_2, sz_3, sz_4, sz_5, sz_6, sz_7, sz_8, sz_9, sz_10, sz_11, sz_12, sz_13, sz_14, sz_15, sz_16, sz_17, sz_18, sz_19, sz_20, int_whole]))
/-! ### empty rings -/
structure Ring (g : Gr) (ring : List Nat) : Prop where
  ne : ring ≠ []
  zero : ∀ k ∈ ring, ∃ e, g.2[k]? = some e ∧ e.t = 0
  next : ∀ (i : Nat) (k l : Nat), ring[i]? = some k → ring[i + 1]? = some l → ∃ e f, g.2[k]? = some e ∧ g.2[l]? = some f ∧ e.b = f.a
  len : ring.length ≤ 1000
  back : ∀ (k l : Nat), ring[ring.length - 1]? = some k → ring[0]? = some l → ∃ e f, g.2[k]? = some e ∧ g.2[l]? = some f ∧ e.b = f.a
def Live (g : Gr) (hs : List Nat) (rk : List (Option Int)) : Prop := Up g hs rk ∧ ∀ v ∈ hs, rk[v]? ≠ some none
def sp_empty_ring : DSp := sp2 fun a c h q _ => ∃ g hs hl, a = eG g ∧ c = .loc hl ∧ WF g ∧ hs.length ≤ 1000 ∧ (∀ v ∈ hs, v < g.1) ∧ h hl = some (.lst (hs.map eN)) ∧
  (∀ rk, Live g hs rk → q .non h) ∧ ∀ ring, Ring g ring → (∀ k ∈ ring, ∀ e, g.2[k]? = some e → e.a ∈ hs ∧ e.b ∈ hs) → q (.tup (ring.map eN)) h
section
variable {P : Program} {w : World} {K : PySem.W.Frag} {mg : Str → Option Value} {base : Heap} {C_DelayError C_BadNet : Addr}
theorem h_empty_ring (T : Txt K mg C_DelayError C_BadNet) (H_ranks_of : Has P w K mg base "ranks_of" 2 ["graph", "held"] sp_ranks_of) : Has P w K mg base "empty_ring" (3) ["graph", "held"] (sp_empty_ring) := by
  refine has_of T.a_empty_ring fun f fd F => okD F sc_empty_ring len2 fun cdv A outer s H E b ds q xx hr tk hsp => ?_
  have hr_ranks_of := hr.mono (show 2 ≤ 2 by decide)
  refine ⟨_, (dss_cons (ds_set (i := 2) sc_empty_ring.nd rfl (Or.inr rfl) (de_callH H_ranks_of hr_ranks_of (by rfl) tk (da_cons (de_var (pv 0)) (da_cons (de_var (pv 1)) da_nil))))
  (dss_cons (ds_setLcL (i := 3) (hyl := rfl) (hsw := sw_true rfl rfl rfl (by decide +kernel)) (hy := rfl) (own := [("v", 10)]) rfl sc_empty_ring.nd (di_seq (de_var (pv 1))) (blkOk_by (own := [("v", 10)]) (N := ["graph", "held", "ranks", "left", "into", "k", "edge", "at", "way", "seen", "v"]) (sc := defScope st_empty_ring) (by decide +kernel)) (ownG_name (by decide)) (fun _ _ _ _ _ => pg_name (i := 10) sc_empty_ring.nd rfl (Or.inl rfl)) (fun _ _ _ _ _ => dts_one (dt_isN (de_ix (hu_of hr) (de_var (pv 2)) (de_var (pv 10)) (fun _ _ => rfl)) de_non)) (fun _ _ _ _ _ => (de_var (pv 10))))
  (dss_cons (ds_if (dt_eq (de_cb (pe_callB call_lenU (by rfl) T.m_len bt_len (da_cons (de_var (pv 3)) da_nil)) refLen) de_int) (dss_one (ds_ret de_non)) dss_nil)
  (dss_cons (ds_set (i := 4) sc_empty_ring.nd rfl (Or.inl rfl) de_newK)
  (dss_cons (ds_for (passes_of rfl) rfl (di_enum (by rfl) T.m_enumerate (da_cons (de_ix (hu_of hr) (de_var (pv 0)) de_int (fun _ _ => rfl)) da_nil)) (pg_tup (by rfl) (pgs_cons (pg_name (i := 5) sc_empty_ring.nd rfl (Or.inl rfl)) (pgs_cons (pg_name (i := 6) sc_empty_ring.nd rfl (Or.inl rfl)) pgs_nil))) (refG_tup [5, 6]) (dss_one (ds_if (dt_w (dw_and (dt_eq (de_ix (hu_of hr) (de_var (pv 6)) de_int (fun _ _ => rfl)) de_int) (dw_and (dt_in (hu_of hr) (de_ix (hu_of hr) (de_var (pv 6)) de_int (fun _ _ => rfl)) (de_var (pv 3)) (by rfl)) (dw_and1 (dt_in (hu_of hr) (de_ix (hu_of hr) (de_var (pv 6)) de_int (fun _ _ => rfl)) (de_var (pv 3)) (by rfl)))))) (dss_one (ds_setItem (de_var (pv 5)) (de_var (pv 4)) (de_ix (hu_of hr) (de_var (pv 6)) de_int (fun _ _ => rfl)) (set_u (hu_of hr)) refPut)) dss_nil)))
  (dss_cons (ds_set (i := 7) sc_empty_ring.nd rfl (Or.inl rfl) (de_ix (hu_of hr) (de_var (pv 3)) de_int (fun _ _ => rfl)))
  (dss_cons (ds_set (i := 8) sc_empty_ring.nd rfl (Or.inl rfl) (de_new (dl_lst da_nil)))
  (dss_cons (ds_set (i := 9) sc_empty_ring.nd rfl (Or.inl rfl) de_newK)
  (dss_cons (ds_while (passes_of rfl) (dt_notIn (hu_of hr) (de_var (pv 7)) (de_var (pv 9)) (by rfl)) (dss_cons (ds_setItem (de_cb (pe_callB call_lenU (by rfl) T.m_len bt_len (da_cons (de_var (pv 8)) da_nil)) refLen) (de_var (pv 9)) (de_var (pv 7)) (set_u (hu_of hr)) refPut)
    (dss_cons (ds_expr (de_bm PySem.F.plainAttrs_list PySem.F.slot_list_append PySem.F.type_list_append mt_append refAppend (de_var (pv 8)) (da_cons (de_ix (hu_of hr) (de_var (pv 4)) (de_var (pv 7)) (fun _ _ => rfl)) da_nil)))
    (dss_one (ds_set (i := 7) sc_empty_ring.nd rfl (Or.inl rfl) (de_ix (hu_of hr) (de_ix (hu_of hr) (de_ix (hu_of hr) (de_var (pv 0)) de_int (fun _ _ => rfl)) (de_ix (hu_of hr) (de_var (pv 4)) (de_var (pv 7)) (fun _ _ => rfl)) (fun _ _ => rfl)) de_int (fun _ _ => rfl)))))))
  (dss_one (ds_ret (de_cb (pe_callTy call_tuple_of (by rfl) T.m_tuple bt_tuple (da_cons (de_rev (de_slice (de_var (pv 8)) (do_some (de_ix (hu_of hr) (de_var (pv 9)) (de_var (pv 7)) (fun _ _ => rfl))) do_none)) da_nil)) refTuple)))))))))))), ?_⟩
  obtain ⟨d0, d1, rfl, hsp⟩ := inv2 hsp
  obtain ⟨g, hs, hl, rfl, rfl, hw, hhs, hlt, hh, hq1, hq2⟩ := hsp
  have hn := hw.n
  unfold eG
  walk_at "d"
  refine ⟨g, hs, hl, rfl, rfl, hw, hhs, hlt, hh, fun rk pr hu hsh hpr => ?_⟩
  have hne : hl ≠ pr := fun z => by rw [z, hpr] at hh; cases hh
  walk_at "d"
  refine lcE hs eN (G := fun h => h hl = some (.lst (hs.map eN))) (fun v => decide (rk[v]? = some none)) eN (fun r hr => by
    have : updD b pr (.lst (rk.map eO)) hl = some (.lst (hs.map eN)) := by rw [updD_ne hne]; exact hh
    walk_at "d"
    simp only [this]
    exact hr) (by rw [updD_ne hne]; exact hh) (accMax_big (by omega)) (fun v hv Y Z hY hZ => ?_) (fun pl hpl => ?_)
  · have hvl : v < rk.length := by rw [hu.len]; exact hlt v hv
    have hget : atI (rk.map eO) (v : Int) = some (eO rk[v]) := atI_nat (by rw [List.getElem?_map, List.getElem?_eq_getElem hvl]; rfl)
    unfold eN
    walk_at "d"
    simp only [hget]
    cases hrv : rk[v] with
    | some r =>
      simp only [eO]
      walk_at "d"
      exact hZ (by rw [List.getElem?_eq_getElem hvl, hrv]; rfl)
    | none =>
      simp only [eO]
      walk_at "d"
      exact hY (by rw [List.getElem?_eq_getElem hvl, hrv]; rfl)
  · walk_at "d"
    generalize hL : hs.filter (fun v => decide (rk[v]? = some none)) = L
    have memL : ∀ v, v ∈ L ↔ v ∈ hs ∧ rk[v]? = some none := fun v => by rw [← hL, List.mem_filter, decide_eq_true_eq]
    cases L with
    | nil =>
      walk_at "d"
      refine ⟨b, (Sub.new hpr).trans (Sub.new hpl), hq1 rk ⟨hu, fun v hv hc => ?_⟩⟩
      have := (memL v).mpr ⟨hv, hc⟩
      cases this
    | cons v0 L' =>
      rw [if_neg (by simp; omega)]
      generalize hLL : v0 :: L' = L at memL
      have hlL : L.length ≤ 1000 := by
        have := List.length_filter_le (fun v => decide (rk[v]? = some none)) hs
        rw [hL, hLL] at this
        omega
      have ne1 : pr ≠ pl := fun z => by rw [← z, updD_same] at hpl; cases hpl
      walk_at "d"
      intro pd hpd
      have s1 : DL.Sub b (updD (updD b pr (.lst (rk.map eO))) pl (.lst (L.map eN))) := (Sub.new hpr).trans (Sub.new hpl)
      generalize hH1 : updD (updD b pr (.lst (rk.map eO))) pl (.lst (L.map eN)) = H1 at hpd s1
      have l1 : H1 pl = some (.lst (L.map eN)) := by rw [← hH1, updD_same]
      have ne2 : pl ≠ pd := fun z => by rw [← z, l1] at hpd; cases hpd
      refine forG (xs := enumD (g.2.map eE)) (G := fun _ => True) (fun i s h' => ∃ kds x5 x6, s = [some (.tup [.int (g.1 : Nat), .tup (g.2.map eE)]), some (.loc hl), some (.loc pr), some (.loc pl), some (.loc pd), x5, x6, none, none, none, none] ∧ h' = updD H1 pd (.dK kds) ∧ kds.length ≤ i ∧
        (∀ v d, valD kds (Sum.inl (v : Int)) = some d → ∃ (k : Nat) (e : Ed), d = eN k ∧ g.2[k]? = some e ∧ e.t = 0 ∧ e.a ∈ L ∧ e.b ∈ L ∧ ((e.b : Nat) : Int) = v) ∧
        (∀ (j : Nat) (e : Ed), j < i → g.2[j]? = some e → e.t = 0 → e.a ∈ L → e.b ∈ L → valD kds (Sum.inl ((e.b : Nat) : Int)) ≠ none)) (fun r hr => by walk_at "d"; exact hr) ⟨[], none, none, rfl, rfl, Nat.le_refl _, (fun v d hd => by rw [valD_nil] at hd; cases hd), fun j e hj => by omega⟩ (fun _ _ _ _ _ => trivial) ?_ ?_
      · rintro i x s h' hx ⟨kds, x5, x6, rfl, rfl, hk1, hk2, hk3⟩
        obtain ⟨d, hd, rfl⟩ := enumD_some hx
        rw [List.getElem?_map] at hd
        cases he : g.2[i]? with
        | none => rw [he] at hd; cases hd
        | some e =>
          rw [he] at hd
          obtain rfl : eE e = d := Option.some.inj hd
          have lpl : updD H1 pd (.dK kds) pl = some (.lst (L.map eN)) := by rw [updD_ne ne2]; exact l1
          have hi : i < g.2.length := (List.getElem?_eq_some_iff.mp he).1
          simp only [eE_eq e]
          walk_at "d"
          simp only [nat_zero, dIn_N lpl]
          have skip : ¬ (e.t = 0 ∧ e.a ∈ L ∧ e.b ∈ L) → ∀ (j : Nat) (f : Ed), j < i + 1 → g.2[j]? = some f → f.t = 0 → f.a ∈ L → f.b ∈ L → valD kds (Sum.inl ((f.b : Nat) : Int)) ≠ none := fun hno j f hj hf h1 h2 h3 => by
            rcases Nat.lt_or_eq_of_le (Nat.le_of_lt_succ hj) with hj | hj
            · exact hk3 j f hj hf h1 h2 h3
            · subst hj
              rw [he] at hf; cases hf
              exact absurd ⟨h1, h2, h3⟩ hno
          by_cases c1 : e.t = 0
          · rw [if_pos c1]
            by_cases c2 : e.a ∈ L
            · simp only [c2]
              walk_at "d"
              by_cases c3 : e.b ∈ L
              · simp only [c3]
                walk_at "d"
                simp only [keyD]
                refine ⟨sz_lt' (by have := hw.m; omega), putD kds (Sum.inl ((e.b : Nat) : Int)) (eN i), _, _, rfl, rfl, Nat.le_trans (putD_len _ _ _) (by omega), fun v d hv => ?_, fun j f hj hf h1 h2 h3 => ?_⟩
                · rw [valD_put] at hv
                  split at hv
                  · rename_i hz
                    cases hv
                    exact ⟨i, e, rfl, he, c1, c2, c3, (Sum.inl.inj hz).symm⟩
                  · exact hk2 v d hv
                · rw [valD_put]
                  split
                  · exact fun z => nomatch z
                  · rename_i hz
                    rcases Nat.lt_or_eq_of_le (Nat.le_of_lt_succ hj) with hj | hj
                    · exact hk3 j f hj hf h1 h2 h3
                    · subst hj
                      rw [he] at hf; cases hf
                      exact absurd rfl hz
              · simp only [c3]
                walk_at "d"
                exact ⟨kds, _, _, rfl, rfl, by omega, hk2, skip fun z => c3 z.2.2⟩
            · simp only [c2]
              walk_at "d"
              exact ⟨kds, _, _, rfl, rfl, by omega, hk2, skip fun z => c2 z.2.1⟩
          · rw [if_neg c1]
            exact ⟨kds, _, _, rfl, rfl, by omega, hk2, skip fun z => c1 z.1⟩
      · rintro s h' ⟨kds, x5, x6, rfl, rfl, hk1, hk2, hk3⟩
        rw [enumD_len, List.length_map] at hk1 hk3
        -- each node of L has its edge
        have into : ∀ v ∈ L, ∃ (k : Nat) (e : Ed), valD kds (Sum.inl (v : Int)) = some (eN k) ∧ g.2[k]? = some e ∧ e.t = 0 ∧ e.a ∈ L ∧ e.b = v := fun v hv => by
          obtain ⟨h1, h2⟩ := (memL v).mp hv
          obtain ⟨e, he, e1, e2, e3, e4⟩ := hsh v h1 h2
          obtain ⟨j, hj⟩ := List.mem_iff_getElem?.mp he
          have := hk3 j e (List.getElem?_eq_some_iff.mp hj).1 hj e2 ((memL _).mpr ⟨e3, e4⟩) (by rw [e1]; exact hv)
          rw [e1] at this
          cases hval : valD kds (Sum.inl (v : Int)) with
          | none => exact absurd hval this
          | some d =>
            obtain ⟨k, f, rfl, f1, f2, f3, f4, f5⟩ := hk2 v d hval
            exact ⟨k, f, rfl, f1, f2, f3, by omega⟩
        have lpl : updD H1 pd (.dK kds) pl = some (.lst (L.map eN)) := by rw [updD_ne ne2]; exact l1
        walk_at "d"
        simp only [lpl]
        have h0 : atI (L.map eN) 0 = some (eN v0) := by rw [← hLL]; exact atI_nat (j := 0) rfl
        simp only [h0]
        walk_at "d"
        intro pw hpw ps hps
        have v0L : v0 ∈ L := by rw [← hLL]; exact List.mem_cons_self
        have L_lt : ∀ v ∈ L, v < g.1 := fun v hv => hlt v ((memL v).mp hv).1
        have ldd : updD H1 pd (.dK kds) pd = some (.dK kds) := updD_same
        have s2 : DL.Sub b (updD H1 pd (.dK kds)) := s1.trans (Sub.new hpd)
        have nw1 : pd ≠ pw := fun z => by rw [← z, ldd] at hpw; cases hpw
        have nw2 : pw ≠ ps := fun z => by rw [← z, updD_same] at hps; cases hps
        have nw3 : pd ≠ ps := fun z => by rw [← z, updD_ne nw1, ldd] at hps; cases hps
        refine whileP (fun m s h' => ∃ x5 x6 at_ ns ks, s = [some (.tup [.int (g.1 : Nat), .tup (g.2.map eE)]), some (.loc hl), some (.loc pr), some (.loc pl), some (.loc pd), x5, x6, some (eN at_), some (.loc pw), some (.loc ps), none] ∧
          h' pd = some (.dK kds) ∧ h' pw = some (.lst (ks.map eN)) ∧ h' ps = some (.dK (seenOf ns)) ∧ DL.Sub b h' ∧ at_ ∈ L ∧ ns.Nodup ∧ (∀ v ∈ ns, v ∈ L) ∧ ks.length = ns.length ∧
          (∀ (i : Nat) (v : Nat), ns[i]? = some v → ∃ (k : Nat) (e : Ed), ks[i]? = some k ∧ g.2[k]? = some e ∧ e.t = 0 ∧ e.a ∈ L ∧ e.b = v ∧ (ns ++ [at_])[i + 1]? = some e.a) ∧
          m = ((List.range g.1).filter fun x => decide (x ∉ ns)).length) _ ⟨x5, x6, v0, [], [], rfl, ?_, updD_ne nw2 ▸ updD_same, updD_same, (s2.trans (Sub.new hpw)).trans (Sub.new hps), v0L, List.nodup_nil, (fun v hv => by cases hv), rfl, (fun i v hv => by simp at hv), rfl⟩ ?_
        · rw [updD_ne nw3, updD_ne nw1]; exact ldd
        · rintro m s h' ⟨x5, x6, at_, ns, ks, rfl, l1', l2', l3', s3, hat, nd, hnL, hkl, hch, rfl⟩
          have lenns : ns.length ≤ g.1 := by
            have := nodup_le nd fun v hv => L_lt v (hnL v hv)
            exact this
          have hin : ∀ (q : DK), dIn true (eN at_) (.loc ps) h' q = q (.bl (!(valD (seenOf ns) (Sum.inl (at_ : Int))).isSome)) h' := fun q => by
            unfold dIn
            simp only [l3', getD, eN, keyD, if_true]
          refine ⟨decide (at_ ∉ ns), fun q hq => ?_, fun hk => ?_, fun hk => ?_⟩
          · walk_at "d"
            rw [hin]
            by_cases hm : at_ ∈ ns
            · obtain ⟨i, hi⟩ := List.mem_iff_getElem?.mp hm
              rw [seen_some nd hi]
              simpa [hm] using hq
            · rw [seen_none hm]
              simpa [hm] using hq
          · have hm : at_ ∉ ns := of_decide_eq_true hk
            obtain ⟨k, e, i1, i2, i3, i4, i5⟩ := into at_ hat
            have bps : b ps = none := ((s2.trans (Sub.new hpw))).none hps
            have bpw : b pw = none := s2.none hpw
            have hea : at_ < g.1 := L_lt _ hat
            walk_at "d"
            simp only [l2', l3', eN, keyD]
            walk_at "d"
            refine ⟨sz_lt' (by rw [seen_len]; omega), ?_⟩
            have e1 : putD (seenOf ns) (Sum.inl ((at_ : Nat) : Int)) (.int ((ks.length : Nat) : Int)) = seenOf (ns ++ [at_]) := by rw [hkl]; exact seen_put hm
            rw [e1]
            simp only [updD_ne nw2, updD_ne nw3, updD_ne nw1, l1', l2', getD, keyD, i1, eN]
            walk_at "d"
            refine ⟨sz_lt' (by rw [hkl]; omega), ?_⟩
            have e2 : atI (g.2.map eE) ((k : Nat) : Int) = some (eE e) := atI_nat (by rw [List.getElem?_map, i2]; rfl)
            simp only [e2, eE_eq e]
            walk_at "d"
            refine ⟨_, filter_lt (q := fun x => decide (x ∉ ns ++ [at_])) (x := at_) (fun x hx => ?_) (List.mem_range.mpr hea) (decide_eq_true hm) (by simp), x5, x6, e.a, ns ++ [at_], ks ++ [k], rfl, ?_, ?_, (s3.mut bps).mut bpw, i4, ?_, ?_, ?_, ?_, rfl⟩
            · simp only [decide_eq_true_eq] at hx ⊢
              exact fun z => hx (List.mem_append_left _ z)
            · rw [List.map_append]; rfl
            · rw [updD_ne nw2.symm, updD_same]
            · exact List.nodup_append.mpr ⟨nd, by simp, fun a ha c hc => by
                have : c = at_ := by simpa using hc
                subst this
                exact fun z => hm (z ▸ ha)⟩
            · intro v hv
              rcases List.mem_append.mp hv with h | h
              · exact hnL v h
              · have : v = at_ := by simpa using h
                subst this; exact hat
            · rw [List.length_append, List.length_append, hkl]; rfl
            · intro i v hv
              by_cases hi : i < ns.length
              · rw [List.getElem?_append_left hi] at hv
                obtain ⟨k', e', j1, j2, j3, j4, j5, j6⟩ := hch i v hv
                refine ⟨k', e', by rw [List.getElem?_append_left (by omega)]; exact j1, j2, j3, j4, j5, ?_⟩
                rw [List.getElem?_append_left (by rw [List.length_append]; simp; omega)]
                exact j6
              · have hl := (List.getElem?_eq_some_iff.mp hv).1
                rw [List.length_append] at hl
                have hi' : i = ns.length := by simp at hl; omega
                subst hi'
                rw [List.getElem?_append_right (Nat.le_refl _)] at hv
                simp at hv
                subst hv
                refine ⟨k, e, by rw [← hkl, List.getElem?_append_right (Nat.le_refl _)]; simp, i2, i3, i4, i5, ?_⟩
                rw [List.getElem?_append_right (by rw [List.length_append]; exact Nat.le_refl _)]
                simp
          · have hm : at_ ∈ ns := by simpa using hk
            obtain ⟨j, hj⟩ := List.mem_iff_getElem?.mp hm
            have hjl := (List.getElem?_eq_some_iff.mp hj).1
            walk_at "d"
            simp only [l2', l3', eN, keyD, getD, seen_some nd hj]
            walk_at "d"
            intro p1 hp1
            walk_at "d"
            intro p2 hp2
            walk_at "d"
            have bp1 : h' p1 = none := hp1
            have bp2 : updD h' p1 (.lst (DL.cutD (ks.map eN) (some (j : Int)) none)) p2 = none := hp2
            refine ⟨b, (s3.trans (Sub.new bp1)).trans (Sub.new bp2), ?_⟩
            have er : (DL.cutD (ks.map eN) (some (j : Int)) none).reverse = ((ks.drop j).reverse).map eN := by
              rw [cut_from, List.map_reverse, List.map_drop]
            rw [er]
            have hm0 : ks.length - j ≠ 0 := by omega
            have get : ∀ (i k : Nat), ((ks.drop j).reverse)[i]? = some k → i < ks.length - j ∧ ks[ks.length - 1 - i]? = some k := fun i k h => by
              have hl := (List.getElem?_eq_some_iff.mp h).1
              rw [List.length_reverse, List.length_drop] at hl
              rw [List.getElem?_reverse (by rw [List.length_drop]; exact hl), List.length_drop, List.getElem?_drop] at h
              refine ⟨hl, ?_⟩
              rw [← h]
              congr 1
              omega
            have chain : ∀ (i k : Nat), ks[i]? = some k → ∃ (v : Nat) (e : Ed), ns[i]? = some v ∧ g.2[k]? = some e ∧ e.t = 0 ∧ e.a ∈ L ∧ e.b = v ∧ (ns ++ [at_])[i + 1]? = some e.a := fun i k h => by
              have hl := (List.getElem?_eq_some_iff.mp h).1
              rw [hkl] at hl
              obtain ⟨k', e, j1, j2, j3, j4, j5, j6⟩ := hch i ns[i] (List.getElem?_eq_getElem hl)
              rw [h] at j1; cases j1
              exact ⟨ns[i], e, List.getElem?_eq_getElem hl, j2, j3, j4, j5, j6⟩
            refine hq2 _ ⟨fun z => ?_, fun k hk => ?_, fun i k l hi hi2 => ?_, ?_, fun k l hi hi2 => ?_⟩ fun k hk e he => ?_
            · have := congrArg List.length z
              rw [List.length_reverse, List.length_drop] at this
              simp at this
              omega
            · obtain ⟨i, hi⟩ := List.mem_iff_getElem?.mp hk
              obtain ⟨_, h2⟩ := get i k hi
              obtain ⟨v, e, _, j2, j3, _⟩ := chain _ k h2
              exact ⟨e, j2, j3⟩
            · obtain ⟨a1, a2⟩ := get i k hi
              obtain ⟨b1, b2⟩ := get (i + 1) l hi2
              obtain ⟨v, e, c1, c2, c3, c4, c5, c6⟩ := chain _ k a2
              obtain ⟨v', f, d1, d2, d3, d4, d5, d6⟩ := chain _ l b2
              refine ⟨e, f, c2, d2, ?_⟩
              have e1 : ks.length - 1 - (i + 1) + 1 = ks.length - 1 - i := by omega
              rw [e1, List.getElem?_append_left (by omega), c1] at d6
              rw [c5]; exact Option.some.inj d6
            · rw [List.length_reverse, List.length_drop]
              omega
            · rw [List.length_reverse, List.length_drop] at hi
              obtain ⟨a1, a2⟩ := get _ k hi
              obtain ⟨b1, b2⟩ := get 0 l hi2
              obtain ⟨v, e, c1, c2, c3, c4, c5, c6⟩ := chain _ k a2
              obtain ⟨v', f, d1, d2, d3, d4, d5, d6⟩ := chain _ l b2
              refine ⟨e, f, c2, d2, ?_⟩
              have e1 : ks.length - 1 - (ks.length - j - 1) = j := by omega
              have e2 : ks.length - 1 - 0 + 1 = ns.length := by omega
              rw [e1, hj] at c1
              rw [e2, List.getElem?_append_right (Nat.le_refl _)] at d6
              simp at d6
              rw [c5, ← d6]
              exact (Option.some.inj c1).symm
            · obtain ⟨i, hi⟩ := List.mem_iff_getElem?.mp hk
              obtain ⟨_, h2⟩ := get i k hi
              obtain ⟨v, e', c1, c2, c3, c4, c5, c6⟩ := chain _ k h2
              rw [he] at c2; cases c2
              exact ⟨((memL _).mp c4).1, by rw [c5]; exact ((memL v).mp (hnL v (List.mem_of_getElem? c1))).1⟩
end
end K

set_option Elab.async false
set_option linter.all false
set_option maxRecDepth 100000
set_option maxHeartbeats 4000000
namespace K
open PySem PySem.Spec PyProof.Rows L2 DL
local macro_rules | `(tactic| walk_at "d") => `(tactic| (try simp only [startD, dSeq, dNext, dIfS, dRet, dRetN, dDrop, dAsg, pName, dOp, dUn, dVar, dC, dCons, dNil, dCB, dTest, dTru, truD, dAnd, dOr, dNot, dIf, dPar, dAug, dI0, dII, dI1, dAbs, dInt, dCall, dIx, dTup, dEqS, eqS, dNeS, dAndV, dOrV, dNotV, dIsi, dLen, lenD, dSl, dCut, dPart, dNoPart, dCL, dlLst, dNew, dLst, dAdd, dMul, dIsN, dNotN, nonD, dSet, dPut, eLen, eTuple, eAll, eAny, eSum, eMax, eMin, dTuple, dTupR1, dYes, dIxL, dlCatVL, dlCatLV, dlCatLL, dlRep, dIterL, dSeqI, dRng1, dRng2, dEnum, pTup, setAll, wipeD, dMt, dMt0, tyM, dAppend, dlRg1, dlRg2, dNewK, dNewT, dRev, dRaise, dDisp1, dSortD, dZip, dTry, dTryAs, dBreak, dCont,
  ty_int, ty_bl, ty_str, ty_non, ty_tup, mem_int, mem_bool, mem_str, mem_tuple, mem_list, isTy_self, isTy_bool_int, isTy_int_bool, isTy_int_tuple, isTy_int_list, isTy_int_str, isTy_bool_tuple, isTy_bool_list, isTy_bool_str, isTy_str_bool, isTy_str_int, isTy_str_tuple, isTy_str_list, isTy_non_tuple, isTy_non_list, isTy_non_str, isTy_non_int, isTy_non_bool, isTy_tup_list, isTy_tup_int, isTy_tup_str, isTy_tup_bool, isTy_list_tup, isTy_list_int, isTy_list_bool, isTy_list_str,
  sp1, sp2, sp3, sp4, sp5, sp6, updD_same, updD_updD, List.map_cons, List.map_nil, List.length_cons, List.length_nil, List.set_cons_zero, List.set_cons_succ, List.getElem?_cons_zero, List.getElem?_cons_succ, List.cons_append, List.nil_append, Nat.reduceAdd, Nat.reduceSub, List.replicate, Nat.sub_self, decide_eq_true_eq, Bool.not_eq_true', decide_eq_false_iff_not, decide_true, decide_false, Bool.not_true, Bool.not_false, Bool.false_eq_true, Bool.true_eq_false, if_true, if_false, reduceIte, true_and, and_true, List.isEmpty_nil, List.isEmpty_cons, List.flatten_cons, List.flatten_nil, at_0, at_1, at_2, at_3, at_4, at_5, at_6, at_7, at_m1_1, at_m1_2, at_m1_3, at_m1_4, at_m1_5, at_m1_6, nc_0, nc_1, nc_2, nc_3, nc_4, nc_5, nc_6, nc_7, nc_8, nc_9, nc_10, nc_11, nc_12, len_map, not_true_eq_false, not_false_eq_true, ite_true, ite_false, Int.reduceEq, Int.reduceNe, Int.reduceLT, Int.reduceLE, Nat.reduceEqDiff, Option.some.injEq, true_implies, forall_const, sz_0, sz_1, sz_2, sz_3, sz_4, sz_5, sz_6, sz_7, sz_8, sz_9, sz_10, sz_11, sz_12, sz_13, sz_14, sz_15, sz_16, sz_17, sz_18, sz_19, sz_20, int_whole]))
theorem live_noring {g : Gr} {hs : List Nat} {rk : List (Option Int)} (lv : Live g hs rk) {ring : List Nat} (r : Ring g ring) (hin : ∀ k ∈ ring, ∀ e, g.2[k]? = some e → e.a ∈ hs ∧ e.b ∈ hs) (hlt : ∀ v ∈ hs, v < g.1) : False := by
  have up : ∀ k ∈ ring, ∀ e, g.2[k]? = some e → ∃ ra rb : Int, rk[e.a]? = some (some ra) ∧ rk[e.b]? = some (some rb) ∧ ra < rb := fun k hk e he => by
    obtain ⟨e', he', ht⟩ := r.zero k hk
    rw [he] at he'; cases he'
    obtain ⟨h1, h2⟩ := hin k hk e he
    have hl : e.b < rk.length := by rw [lv.1.len]; exact hlt _ h2
    cases hb : rk[e.b] with
    | none => exact absurd (by rw [List.getElem?_eq_getElem hl, hb]) (lv.2 _ h2)
    | some rb =>
      have hb' : rk[e.b]? = some (some rb) := by rw [List.getElem?_eq_getElem hl, hb]
      obtain ⟨ra, h3, h4⟩ := lv.1.up e (List.mem_of_getElem? he) ht h1 rb hb'
      exact ⟨ra, rb, h3, hb', h4⟩
  have h0 : 0 < ring.length := List.length_pos_iff.mpr r.ne
  obtain ⟨e0, he0, _⟩ := r.zero ring[0] (List.getElem_mem h0)
  obtain ⟨r0, rb0, q1, q2, q3⟩ := up ring[0] (List.getElem_mem h0) e0 he0
  have grow : ∀ i (hi : i < ring.length), ∃ e ra, g.2[ring[i]]? = some e ∧ rk[e.a]? = some (some ra) ∧ r0 ≤ ra := by
    intro i
    induction i with
    | zero => intro hi; exact ⟨e0, r0, he0, q1, Int.le_refl _⟩
    | succ i ih =>
      intro hi
      obtain ⟨e, ra, g1, g2, g3⟩ := ih (by omega)
      obtain ⟨e', f, n1, n2, n3⟩ := r.next i ring[i] ring[i + 1] (List.getElem?_eq_getElem (by omega)) (List.getElem?_eq_getElem hi)
      rw [g1] at n1; cases n1
      obtain ⟨ra', rb', u1, u2, u3⟩ := up _ (List.getElem_mem _) e g1
      rw [g2] at u1; cases u1
      exact ⟨f, rb', n2, by rw [← n3]; exact u2, by omega⟩
  obtain ⟨e, ra, g1, g2, g3⟩ := grow (ring.length - 1) (by omega)
  obtain ⟨e', f, n1, n2, n3⟩ := r.back ring[ring.length - 1] ring[0] (List.getElem?_eq_getElem (by omega)) (List.getElem?_eq_getElem h0)
  rw [g1] at n1; cases n1
  rw [he0] at n2; cases n2
  obtain ⟨ra', rb', u1, u2, u3⟩ := up _ (List.getElem_mem _) e g1
  rw [g2] at u1; cases u1
  rw [n3, q1] at u2; cases u2
  omega
/-! ### live graphs, times -/
abbrev Rk := List (Option Int)
def LiveG (g : Gr) (rk : Rk) : Prop := Live g (List.range g.1) rk
def sp_look_at_live (C : Addr) : DSp := sp1 fun a h q x => ∃ g, a = eG g ∧ WF g ∧ (((∃ rk, LiveG g rk) ∧ q .non h) ∨ ((∀ rk, ¬ LiveG g rk) ∧ x (.ref C) none h))
def lat (rs : List (Int × Int)) : Int × Int := rs.foldl (fun told one => if told.1 * one.2 < one.1 * told.2 then one else told) (0, 1)
def sp_latest : DSp := sp1 fun a h q _ => ∃ l rs, a = .loc l ∧ h l = some (.lst (rs.map eR)) ∧ rs.length ≤ 1000 ∧ (∀ r ∈ rs, OkR r) ∧ q (eR (lat rs)) h
theorem ok01 : OkR (0, 1) := ⟨by decide, by decide, by decide, by decide⟩
theorem lat_take {rs : List (Int × Int)} {i : Nat} {x : Int × Int} (h : rs[i]? = some x) : lat (rs.take (i + 1)) = if (lat (rs.take i)).1 * x.2 < x.1 * (lat (rs.take i)).2 then x else lat (rs.take i) := by
  unfold lat
  rw [List.take_add_one, h]
  simp [List.foldl_append]
theorem lat_ok {rs : List (Int × Int)} (h : ∀ r ∈ rs, OkR r) : OkR (lat rs) := by
  have : ∀ (rs : List (Int × Int)) (a : Int × Int), OkR a → (∀ r ∈ rs, OkR r) → OkR (rs.foldl (fun told one => if told.1 * one.2 < one.1 * told.2 then one else told) a) := by
    intro rs
    induction rs with
    | nil => exact fun a ha _ => ha
    | cons r rs ih =>
      intro a ha hr
      rw [List.foldl_cons]
      refine ih _ ?_ fun x hx => hr x (List.mem_cons_of_mem _ hx)
      split
      · exact hr r List.mem_cons_self
      · exact ha
  exact this rs _ ok01 h
section
variable {P : Program} {w : World} {K : PySem.W.Frag} {mg : Str → Option Value} {base : Heap} {C_DelayError C_BadNet : Addr}
end
end K

set_option Elab.async false
set_option linter.all false
set_option maxRecDepth 100000
set_option maxHeartbeats 4000000
namespace K
open PySem PySem.Spec PyProof.Rows L2 DL
def plusR (r s : Int × Int) : Int × Int := nrm (r.1 * s.2 + s.1 * r.2) (r.2 * s.2)
theorem ok_plus {r s : Int × Int} (h1 : OkR r) (h2 : OkR s) : OkR (plusR r s) := by
  have a1 := h1.d0
  have a2 := h2.d0
  have hD : 0 < r.2 * s.2 := Int.mul_pos a1 a2
  have hg : 0 < Int.gcd (r.1 * s.2 + s.1 * r.2) (r.2 * s.2) := Int.gcd_pos_of_ne_zero_right _ (by omega)
  have hN : 0 ≤ r.1 * s.2 + s.1 * r.2 := Int.add_nonneg (Int.mul_nonneg h1.n0 (by omega)) (Int.mul_nonneg h2.n0 (by omega))
  unfold plusR nrm
  generalize hn : r.1 * s.2 + s.1 * r.2 = N at *
  generalize hd : r.2 * s.2 = Dn at *
  refine ⟨Int.ediv_nonneg hN (by omega), ?_, ?_, ?_⟩
  · exact Int.ediv_pos_of_pos_of_dvd hD (by omega) (Int.gcd_dvd_right _ _)
  · exact Int.gcd_ediv_gcd_ediv_gcd hg
  · obtain ⟨u, hu⟩ := h1.dv
    obtain ⟨v, hv⟩ := h2.dv
    have cop : Int.gcd (N / (Int.gcd N Dn : Nat)) (Dn / (Int.gcd N Dn : Nat)) = 1 := Int.gcd_ediv_gcd_ediv_gcd hg
    generalize hG : ((Int.gcd N Dn : Nat) : Int) = G at *
    have hG0 : 0 < G := by omega
    have e1 : N = G * (N / G) := (Int.mul_ediv_cancel' (hG ▸ Int.gcd_dvd_left _ _)).symm
    have e2 : Dn = G * (Dn / G) := (Int.mul_ediv_cancel' (hG ▸ Int.gcd_dvd_right _ _)).symm
    generalize hn' : N / G = n' at *
    generalize hd' : Dn / G = d' at *
    -- 12 N = Dn (r.1 u + s.1 v)
    have k1 : 12 * N = Dn * (r.1 * u + s.1 * v) := by
      have x1 : 12 * (r.1 * s.2) = (r.2 * s.2) * (r.1 * u) := by
        calc 12 * (r.1 * s.2) = (r.2 * u) * (r.1 * s.2) := by rw [← hu]
          _ = (r.2 * s.2) * (r.1 * u) := by simp only [Int.mul_comm, Int.mul_left_comm]
      have x2 : 12 * (s.1 * r.2) = (r.2 * s.2) * (s.1 * v) := by
        calc 12 * (s.1 * r.2) = (s.2 * v) * (s.1 * r.2) := by rw [← hv]
          _ = (r.2 * s.2) * (s.1 * v) := by simp only [Int.mul_comm, Int.mul_left_comm]
      rw [← hn, ← hd, Int.mul_add, Int.mul_add, x1, x2]
    have k2 : 12 * n' = d' * (r.1 * u + s.1 * v) := by
      rw [e1, e2] at k1
      have : G * (12 * n') = G * (d' * (r.1 * u + s.1 * v)) := by
        calc G * (12 * n') = 12 * (G * n') := by rw [Int.mul_left_comm]
          _ = G * d' * (r.1 * u + s.1 * v) := k1
          _ = G * (d' * (r.1 * u + s.1 * v)) := by rw [Int.mul_assoc]
      exact Int.eq_of_mul_eq_mul_left (by omega) this
    have k3 : d' ∣ 12 * n' := ⟨_, k2⟩
    have k4 := Int.dvd_mul_gcd_iff_dvd_mul.mpr k3
    rw [Int.gcd_comm, cop] at k4
    simpa using k4
/-- the edges into v that have not been asked for k tokens -/
def ins (g : Gr) (v k : Nat) : List Ed := g.2.filter fun e => decide (e.b = v) && decide (e.t < k)
abbrev Tm := Nat → Nat → Int × Int
def Eq1 (g : Gr) (τ : Tm) (v k : Nat) : Prop := τ v k = lat ((ins g v k).map fun e => plusR (τ e.a (k - e.t)) e.d)
/-- the times up to M -/
structure Eqs (g : Gr) (M : Nat) (τ : Tm) : Prop where
  eq : ∀ v k, v < g.1 → 1 ≤ k → k ≤ M → Eq1 g τ v k
  ok : ∀ v k, v < g.1 → 1 ≤ k → k ≤ M → OkR (τ v k)
def eT (g : Gr) (M : Nat) (τ : Tm) : D := .tup ((List.range g.1).map fun v => .tup ((List.range M).map fun k => eR (τ v (k + 1))))
/-- what cannot be a count -/
def NoCount (d : D) (h : DH) : Prop := (∃ t, tyD d h = some t ∧ t ≠ "int") ∨ ∃ z : Int, d = .int z ∧ z < 0
def sp_earliest (C : Addr) : DSp := sp2 fun a m h q x => ∃ g, a = eG g ∧ WF g ∧ (((∀ rk, ¬ LiveG g rk) ∧ x (.ref C) none h) ∨ ((∃ rk, LiveG g rk) ∧ NoCount m h ∧ x (.ref C) none h) ∨
  (∃ M, (∃ rk, LiveG g rk) ∧ m = .int (M : Nat) ∧ M ≤ 50 ∧ ∀ τ, Eqs g M τ → q (eT g M τ) h))
end K

set_option Elab.async false
set_option linter.all false
set_option maxRecDepth 100000
set_option maxHeartbeats 4000000
namespace K
open PySem PySem.Spec PyProof.Rows L2 DL
local macro_rules | `(tactic| walk_at "d") => `(tactic| (try simp only [startD, dSeq, dNext, dIfS, dRet, dRetN, dDrop, dAsg, pName, dOp, dUn, dVar, dC, dCons, dNil, dCB, dTest, dTru, truD, dAnd, dOr, dNot, dIf, dPar, dAug, dI0, dII, dI1, dAbs, dInt, dCall, dIx, dTup, dEqS, eqS, dNeS, dAndV, dOrV, dNotV, dIsi, dLen, lenD, dSl, dCut, dPart, dNoPart, dCL, dlLst, dNew, dLst, dAdd, dMul, dIsN, dNotN, nonD, dSet, dPut, eLen, eTuple, eAll, eAny, eSum, eMax, eMin, dTuple, dTupR1, dYes, dIxL, dlCatVL, dlCatLV, dlCatLL, dlRep, dIterL, dSeqI, dRng1, dRng2, dEnum, pTup, setAll, wipeD, dMt, dMt0, tyM, dAppend, dlRg1, dlRg2, dNewK, dNewT, dRev, dRaise, dDisp1, dSortD, dZip, dTry, dTryAs, dBreak, dCont,
  ty_int, ty_bl, ty_str, ty_non, ty_tup, mem_int, mem_bool, mem_str, mem_tuple, mem_list, isTy_self, isTy_bool_int, isTy_int_bool, isTy_int_tuple, isTy_int_list, isTy_int_str, isTy_bool_tuple, isTy_bool_list, isTy_bool_str, isTy_str_bool, isTy_str_int, isTy_str_tuple, isTy_str_list, isTy_non_tuple, isTy_non_list, isTy_non_str, isTy_non_int, isTy_non_bool, isTy_tup_list, isTy_tup_int, isTy_tup_str, isTy_tup_bool, isTy_list_tup, isTy_list_int, isTy_list_bool, isTy_list_str,
  sp1, sp2, sp3, sp4, sp5, sp6, updD_same, updD_updD, List.map_cons, List.map_nil, List.length_cons, List.length_nil, List.set_cons_zero, List.set_cons_succ, List.getElem?_cons_zero, List.getElem?_cons_succ, List.cons_append, List.nil_append, Nat.reduceAdd, Nat.reduceSub, List.replicate, Nat.sub_self, decide_eq_true_eq, Bool.not_eq_true', decide_eq_false_iff_not, decide_true, decide_false, Bool.not_true, Bool.not_false, Bool.false_eq_true, Bool.true_eq_false, if_true, if_false, reduceIte, true_and, and_true, List.isEmpty_nil, List.isEmpty_cons, List.flatten_cons, List.flatten_nil, at_0, at_1, at_2, at_3, at_4, at_5, at_6, at_7, at_m1_1, at_m1_2, at_m1_3, at_m1_4, at_m1_5, at_m1_6, nc_0, nc_1, nc_2, nc_3, nc_4, nc_5, nc_6, nc_7, nc_8, nc_9, nc_10, nc_11, nc_12, len_map, not_true_eq_false, not_false_eq_true, ite_true, ite_false, Int.reduceEq, Int.reduceNe, Int.reduceLT, Int.reduceLE, Nat.reduceEqDiff, Option.some.injEq, true_implies, forall_const, sz_0, sz_1, sz_2, sz_3, sz_4, sz_5, sz_6, sz_7, sz_8, sz_9, sz_10, sz_11, sz_12, sz_13, sz_14, sz_15, sz_16, sz_17, sz_18, sz_19, sz_20, int_whole]))
/-! ### the table of the times -/
def done (K : Nat) (L : List Nat) (v k : Nat) : Prop := 1 ≤ k ∧ (k < K ∨ (k = K ∧ v ∉ L))
instance {K L v k} : Decidable (done K L v k) := by unfold done; infer_instance
def kk (v k : Nat) : List Key := [Sum.inl (v : Int), Sum.inl (k : Int)]
theorem kk_inj {v k v' k' : Nat} : kk v k = kk v' k' ↔ v = v' ∧ k = k' := by
  unfold kk
  constructor
  · intro h
    injection h with h1 h2
    injection h2 with h2 _
    have := Sum.inl.inj h1
    have := Sum.inl.inj h2
    omega
  · rintro ⟨rfl, rfl⟩; rfl
structure Tab (g : Gr) (K : Nat) (L : List Nat) (kvs : List (List Key × D)) (τ : Tm) : Prop where
  len : kvs.length + L.length ≤ K * g.1
  has : ∀ v k, v < g.1 → done K L v k → valD kvs (kk v k) = some (eR (τ v k))
  no : ∀ v k, v < g.1 → ¬ done K L v k → valD kvs (kk v k) = none
  ok : ∀ v k, v < g.1 → done K L v k → OkR (τ v k)
  eq : ∀ v k, v < g.1 → done K L v k → Eq1 g τ v k
  inn : ∀ v k, v < g.1 → done K L v k → ∀ e ∈ ins g v k, done K L e.a (k - e.t)
theorem tab_new {g : Gr} : Tab g 0 [] [] (fun _ _ => (0, 1)) :=
  ⟨by simp, fun v k _ d => by unfold done at d; omega, fun _ _ _ _ => valD_nil _, fun _ _ _ _ => ok01, fun v k _ d => by unfold done at d; omega, fun v k _ d => by unfold done at d; omega⟩
theorem done_next {g : Gr} {K v k : Nat} (hv : v < g.1) : done (K + 1) (List.range g.1) v k ↔ done K [] v k := by
  unfold done
  have : v ∈ List.range g.1 := List.mem_range.mpr hv
  simp [this]
  omega
theorem mem_ins {g : Gr} {v k : Nat} {e : Ed} : e ∈ ins g v k ↔ e ∈ g.2 ∧ e.b = v ∧ e.t < k := by
  unfold ins; simp [List.mem_filter]
theorem tab_next {g : Gr} {K : Nat} {kvs τ} (hw : WF g) (t : Tab g K [] kvs τ) : Tab g (K + 1) (List.range g.1) kvs τ :=
  ⟨by have := t.len; rw [List.length_range, Nat.succ_mul]; simp at this; omega, fun v k hv d => t.has v k hv ((done_next hv).mp d), fun v k hv d => t.no v k hv fun z => d ((done_next hv).mpr z),
    fun v k hv d => t.ok v k hv ((done_next hv).mp d), fun v k hv d => t.eq v k hv ((done_next hv).mp d), fun v k hv d e he => (done_next ((hw.es e (mem_ins.mp he).1).a)).mpr (t.inn v k hv ((done_next hv).mp d) e he)⟩
def updT (τ : Tm) (v k : Nat) (r : Int × Int) : Tm := fun v' k' => if v' = v ∧ k' = k then r else τ v' k'
theorem tab_put {g : Gr} {K : Nat} {L : List Nat} {kvs τ} {v : Nat} (hw : WF g) (t : Tab g K L kvs τ) (hv : v ∈ L) (hn : v < g.1) (nd : L.Nodup) (hK : 1 ≤ K) (hi : ∀ e ∈ ins g v K, done K L e.a (K - e.t)) :
    Tab g K (L.erase v) (putD kvs (kk v K) (eR (lat ((ins g v K).map fun e => plusR (τ e.a (K - e.t)) e.d)))) (updT τ v K (lat ((ins g v K).map fun e => plusR (τ e.a (K - e.t)) e.d))) := by
  have hd : ∀ v' k', done K (L.erase v) v' k' ↔ done K L v' k' ∨ (v' = v ∧ k' = K) := fun v' k' => by
    unfold done
    rw [List.Nodup.mem_erase_iff nd]
    constructor
    · rintro ⟨h1, h2⟩
      rcases h2 with h2 | ⟨h2, h3⟩
      · exact .inl ⟨h1, .inl h2⟩
      · by_cases e : v' = v
        · exact .inr ⟨e, h2⟩
        · exact .inl ⟨h1, .inr ⟨h2, fun z => h3 ⟨e, z⟩⟩⟩
    · rintro (⟨h1, h2⟩ | ⟨rfl, rfl⟩)
      · exact ⟨h1, h2.imp id fun ⟨a, b⟩ => ⟨a, fun z => b z.2⟩⟩
      · exact ⟨hK, .inr ⟨rfl, fun z => z.1 rfl⟩⟩
  have hno : ¬ done K L v K := by
    unfold done
    rintro ⟨_, h | ⟨_, h⟩⟩
    · omega
    · exact h hv
  have old : ∀ v' k', done K L v' k' → ¬ (v' = v ∧ k' = K) := fun v' k' h z => by rw [z.1, z.2] at h; exact hno h
  generalize hr : lat ((ins g v K).map fun e => plusR (τ e.a (K - e.t)) e.d) = r
  have hτ : ∀ v' k', done K L v' k' → updT τ v K r v' k' = τ v' k' := fun v' k' h => by unfold updT; rw [if_neg (old v' k' h)]
  have hsame : ∀ v' k', (∀ e ∈ ins g v' k', done K L e.a (k' - e.t)) → (ins g v' k').map (fun e => plusR (updT τ v K r e.a (k' - e.t)) e.d) = (ins g v' k').map (fun e => plusR (τ e.a (k' - e.t)) e.d) := fun v' k' h => by
    apply List.map_congr_left
    intro e he
    rw [hτ _ _ (h e he)]
  refine ⟨?_, ?_, ?_, ?_, ?_, ?_⟩
  · have h1 := t.len
    have h2 := putD_len kvs (kk v K) (eR r)
    have h3 := List.length_erase_of_mem hv
    have h4 := List.length_pos_of_mem hv
    omega
  · intro v' k' hn' d
    rw [valD_put]
    rcases (hd v' k').mp d with h | ⟨rfl, rfl⟩
    · rw [if_neg (fun z => old v' k' h (kk_inj.mp z)), hτ _ _ h]
      exact t.has v' k' hn' h
    · rw [if_pos rfl]; unfold updT; rw [if_pos ⟨rfl, rfl⟩]
  · intro v' k' hn' d
    rw [valD_put, if_neg (fun z => d ((hd v' k').mpr (.inr (kk_inj.mp z))))]
    exact t.no v' k' hn' fun z => d ((hd v' k').mpr (.inl z))
  · intro v' k' hn' d
    rcases (hd v' k').mp d with h | ⟨rfl, rfl⟩
    · rw [hτ _ _ h]; exact t.ok v' k' hn' h
    · unfold updT; rw [if_pos ⟨rfl, rfl⟩, ← hr]
      refine lat_ok fun x hx => ?_
      obtain ⟨e, he, rfl⟩ := List.mem_map.mp hx
      have := hw.es e (mem_ins.mp he).1
      exact ok_plus (t.ok _ _ this.a (hi e he)) this.d
  · intro v' k' hn' d
    unfold Eq1
    rcases (hd v' k').mp d with h | ⟨rfl, rfl⟩
    · rw [hsame v' k' (t.inn v' k' hn' h), hτ _ _ h]
      exact t.eq v' k' hn' h
    · rw [hsame v' k' hi, hr]; unfold updT; rw [if_pos ⟨rfl, rfl⟩]
  · intro v' k' hn' d e he
    rw [hd]
    rcases (hd v' k').mp d with h | ⟨rfl, rfl⟩
    · exact .inl (t.inn v' k' hn' h e he)
    · exact .inl (hi e he)
/-- the rank of a node -/
def rkOf (rk : Rk) (v : Nat) : Nat := (((rk[v]?).getD none).getD 0).toNat
theorem rk_up {g : Gr} {rk : Rk} (hw : WF g) (lv : LiveG g rk) {e : Ed} (he : e ∈ g.2) (ht : e.t = 0) : rkOf rk e.a < rkOf rk e.b := by
  have ho := hw.es e he
  have hb : ∃ r, rk[e.b]? = some (some r) := by
    have hl : e.b < rk.length := by rw [lv.1.len]; exact ho.b
    have := lv.2 e.b (List.mem_range.mpr ho.b)
    rw [List.getElem?_eq_getElem hl] at this ⊢
    cases h : rk[e.b] with
    | none => rw [h] at this; exact absurd rfl this
    | some r => exact ⟨r, rfl⟩
  obtain ⟨r, hr⟩ := hb
  obtain ⟨r', h1, h2⟩ := lv.1.up e he ht (List.mem_range.mpr ho.a) r hr
  have h3 := lv.1.pos _ _ h1
  unfold rkOf
  rw [hr, h1]
  simp
  omega
/-- some node of a list has the least rank -/
theorem least_rk (f : Nat → Nat) : ∀ {L : List Nat}, L ≠ [] → ∃ v ∈ L, ∀ u ∈ L, f v ≤ f u
  | [], h => absurd rfl h
  | [v], _ => ⟨v, List.mem_cons_self, fun u hu => by have : u = v := by simpa using hu
                                                     subst this; exact Nat.le_refl _⟩
  | v :: w :: r, _ => by
    obtain ⟨m, hm, h⟩ := least_rk f (L := w :: r) (by simp)
    by_cases c : f v ≤ f m
    · exact ⟨v, List.mem_cons_self, fun u hu => by
        rcases List.mem_cons.mp hu with rfl | hu
        · exact Nat.le_refl _
        · exact Nat.le_trans c (h u hu)⟩
    · exact ⟨m, List.mem_cons_of_mem _ hm, fun u hu => by
        rcases List.mem_cons.mp hu with rfl | hu
        · omega
        · exact h u hu⟩
/-- a for over a fresh list -/
theorem forEn {α : Type} {w : DTI} {h : DH} {g : DTG} {tb : DTS} {e : DEnds} {s : DSt} (l : List α) (enc : α → D) (I : Addr → Nat → DSt → DH → Prop)
    (hw : ∀ r : List D → (DH → Prop) → DH → Prop, (∀ p, h p = none → r (l.map enc) (fun h' => h' p = some (.lst (l.map enc))) (updD h p (.lst (l.map enc)))) → w s h r)
    (i0 : ∀ p, h p = none → I p 0 s (updD h p (.lst (l.map enc)))) (hG : ∀ p i s h', h p = none → i ≤ l.length → I p i s h' → h' p = some (.lst (l.map enc)))
    (step : ∀ p i x s h', h p = none → l[i]? = some x → I p i s h' → g (enc x) s fun s2 => tb { e with nx := I p (i + 1), ct := I p (i + 1), bk := e.nx } s2 h')
    (fin : ∀ p s h', h p = none → I p l.length s h' → e.nx s h') : dFor w g tb e s h := by
  unfold dFor
  refine hw _ fun p hp => ?_
  exact forE (w := fun _ h' r => r (l.map enc) (fun h' => h' p = some (.lst (l.map enc))) h') l enc (I p) (fun r hr => hr) (i0 p hp) (fun i s h hi z => hG p i s h hp hi z) (fun i x s h hx z => step p i x s h hp hx z) (fun s h z => fin p s h hp z)
theorem keys2 {a c : Nat} : keysD [.int (a : Nat), .int (c : Nat)] = some (kk a c) := rfl
theorem map_erase_int (v : Nat) : ∀ L : List Nat, (L.map fun (x : Nat) => (x : Int)).erase (v : Int) = (L.erase v).map fun (x : Nat) => (x : Int)
  | [] => rfl
  | x :: r => by
    rw [List.map_cons, List.erase_cons, List.erase_cons]
    by_cases e : x = v
    · subst e; simp
    · have : ¬ ((x : Int) = (v : Int)) := by omega
      simp only [beq_iff_eq, this, e, if_false, List.map_cons]
      rw [map_erase_int v r]
theorem remove_N {h : DH} {a : Addr} {L : List Nat} {v : Nat} {q : DK} (e : h a = some (.lst (L.map eN))) (hv : v ∈ L) (z : q .non (updD h a (.lst ((L.erase v).map eN)))) : dRemove (.loc a) [.int (v : Nat)] h q := by
  have k : ∀ l : List Nat, l.map eN = (l.map fun (x : Nat) => (x : Int)).map D.int := fun l => by rw [List.map_map]; rfl
  refine ⟨L.map fun (x : Nat) => (x : Int), by rw [e, k], List.mem_map.mpr ⟨v, hv, rfl⟩, ?_⟩
  rw [map_erase_int, ← k]
  exact z
section
variable {P : Program} {w : World} {K : PySem.W.Frag} {mg : Str → Option Value} {base : Heap} {C_DelayError C_BadNet : Addr}
end
end K

set_option Elab.async false
set_option linter.all false
set_option maxRecDepth 100000
set_option maxHeartbeats 4000000
namespace K
open PySem PySem.Spec PyProof.Rows L2 DL
local macro_rules | `(tactic| walk_at "d") => `(tactic| (try simp only [startD, dSeq, dNext, dIfS, dRet, dRetN, dDrop, dAsg, pName, dOp, dUn, dVar, dC, dCons, dNil, dCB, dTest, dTru, truD, dAnd, dOr, dNot, dIf, dPar, dAug, dI0, dII, dI1, dAbs, dInt, dCall, dIx, dTup, dEqS, eqS, dNeS, dAndV, dOrV, dNotV, dIsi, dLen, lenD, dSl, dCut, dPart, dNoPart, dCL, dlLst, dNew, dLst, dAdd, dMul, dIsN, dNotN, nonD, dSet, dPut, eLen, eTuple, eAll, eAny, eSum, eMax, eMin, dTuple, dTupR1, dYes, dIxL, dlCatVL, dlCatLV, dlCatLL, dlRep, dIterL, dSeqI, dRng1, dRng2, dEnum, pTup, setAll, wipeD, dMt, dMt0, tyM, dAppend, dlRg1, dlRg2, dNewK, dNewT, dRev, dRaise, dDisp1, dZip, dTry, dTryAs, dBreak, dCont,
  ty_int, ty_bl, ty_str, ty_non, ty_tup, mem_int, mem_bool, mem_str, mem_tuple, mem_list, isTy_self, isTy_bool_int, isTy_int_bool, isTy_int_tuple, isTy_int_list, isTy_int_str, isTy_bool_tuple, isTy_bool_list, isTy_bool_str, isTy_str_bool, isTy_str_int, isTy_str_tuple, isTy_str_list, isTy_non_tuple, isTy_non_list, isTy_non_str, isTy_non_int, isTy_non_bool, isTy_tup_list, isTy_tup_int, isTy_tup_str, isTy_tup_bool, isTy_list_tup, isTy_list_int, isTy_list_bool, isTy_list_str,
  sp1, sp2, sp3, sp4, sp5, sp6, updD_same, updD_updD, List.map_cons, List.map_nil, List.length_cons, List.length_nil, List.set_cons_zero, List.set_cons_succ, List.getElem?_cons_zero, List.getElem?_cons_succ, List.cons_append, List.nil_append, Nat.reduceAdd, Nat.reduceSub, List.replicate, Nat.sub_self, decide_eq_true_eq, Bool.not_eq_true', decide_eq_false_iff_not, decide_true, decide_false, Bool.not_true, Bool.not_false, Bool.false_eq_true, Bool.true_eq_false, if_true, if_false, reduceIte, true_and, and_true, List.isEmpty_nil, List.isEmpty_cons, List.flatten_cons, List.flatten_nil, at_0, at_1, at_2, at_3, at_4, at_5, at_6, at_7, at_m1_1, at_m1_2, at_m1_3, at_m1_4, at_m1_5, at_m1_6, nc_0, nc_1, nc_2, nc_3, nc_4, nc_5, nc_6, nc_7, nc_8, nc_9, nc_10, nc_11, nc_12, len_map, not_true_eq_false, not_false_eq_true, ite_true, ite_false, Int.reduceEq, Int.reduceNe, Int.reduceLT, Int.reduceLE, Nat.reduceEqDiff, Option.some.injEq, true_implies, forall_const, sz_0, sz_1, sz_2, sz_3, sz_4, sz_5, sz_6, sz_7, sz_8, sz_9, sz_10, sz_11, sz_12, sz_13, sz_14, sz_15, sz_16, sz_17, sz_18, sz_19, sz_20, int_whole]))
def sp__law_draws : DSp := sp1 fun a h q _ => ∃ ns : List Int, a = .lsv (ns.map D.int) ∧ ∀ sl dl, h sl = none → h dl = none → sl ≠ dl → q (.loc dl) (updD (updD h sl (.lst (ns.map D.int))) dl (drL sl ⟨0, 0, 1⟩))
def sp__law_draw : DSp := sp2 fun a c h q _ => ∃ dl sl ns d lim, a = .loc dl ∧ c = .int (lim : Nat) ∧ 0 < lim ∧ lim ≤ 1000000 ∧ IsDr h dl sl ns d ∧ ∀ v d', v < lim → 0 ≤ d'.i → 0 ≤ d'.b → q (eN v) (updD h dl (drL sl d'))
theorem upd_id {h : DH} {a : Addr} {o : DO} (e : h a = some o) : updD h a o = h := by
  funext x
  unfold updD
  split
  · rename_i z; rw [z, e]
  · rfl
theorem cp10 : CPow 10 18 := ⟨by decide, by decide, by decide⟩
theorem ix_4_1 : ixN 4 1 = some 1 := rfl
theorem ix_4_2 : ixN 4 2 = some 2 := rfl
theorem ix_4_3 : ixN 4 3 = some 3 := rfl
local macro_rules | `(tactic| walk_at "d") => `(tactic| (try simp only [startD, dSeq, dNext, dIfS, dRet, dRetN, dDrop, dAsg, pName, dOp, dUn, dVar, dC, dCons, dNil, dCB, dTest, dTru, truD, dAnd, dOr, dNot, dIf, dPar, dAug, dI0, dII, dI1, dAbs, dInt, dCall, dIx, dTup, dEqS, eqS, dNeS, dAndV, dOrV, dNotV, dIsi, dLen, lenD, dSl, dCut, dPart, dNoPart, dCL, dlLst, dNew, dLst, dAdd, dMul, dIsN, dNotN, nonD, dSet, dPut, eLen, eTuple, eAll, eAny, eSum, eMax, eMin, dTuple, dTupR1, dYes, dIxL, dlCatVL, dlCatLV, dlCatLL, dlRep, dIterL, dSeqI, dRng1, dRng2, dEnum, pTup, setAll, wipeD, dMt, dMt0, tyM, dAppend, dlRg1, dlRg2, dNewK, dNewT, dRev, dRaise, dDisp1, dZip, dTry, dTryAs, dBreak, dCont,
  ty_int, ty_bl, ty_str, ty_non, ty_tup, mem_int, mem_bool, mem_str, mem_tuple, mem_list, isTy_self, isTy_bool_int, isTy_int_bool, isTy_int_tuple, isTy_int_list, isTy_int_str, isTy_bool_tuple, isTy_bool_list, isTy_bool_str, isTy_str_bool, isTy_str_int, isTy_str_tuple, isTy_str_list, isTy_non_tuple, isTy_non_list, isTy_non_str, isTy_non_int, isTy_non_bool, isTy_tup_list, isTy_tup_int, isTy_tup_str, isTy_tup_bool, isTy_list_tup, isTy_list_int, isTy_list_bool, isTy_list_str,
  sp1, sp2, sp3, sp4, sp5, sp6, updD_same, updD_updD, List.map_cons, List.map_nil, List.length_cons, List.length_nil, List.set_cons_zero, List.set_cons_succ, List.getElem?_cons_zero, List.getElem?_cons_succ, List.cons_append, List.nil_append, Nat.reduceAdd, Nat.reduceSub, List.replicate, Nat.sub_self, decide_eq_true_eq, Bool.not_eq_true', decide_eq_false_iff_not, decide_true, decide_false, Bool.not_true, Bool.not_false, Bool.false_eq_true, Bool.true_eq_false, if_true, if_false, reduceIte, true_and, and_true, List.isEmpty_nil, List.isEmpty_cons, List.flatten_cons, List.flatten_nil, at_0, at_1, at_2, at_3, at_4, at_5, at_6, at_7, at_m1_1, at_m1_2, at_m1_3, at_m1_4, at_m1_5, at_m1_6, nc_0, nc_1, nc_2, nc_3, nc_4, nc_5, nc_6, nc_7, nc_8, nc_9, nc_10, nc_11, nc_12, len_map, not_true_eq_false, not_false_eq_true, ite_true, ite_false, Int.reduceEq, Int.reduceNe, Int.reduceLT, Int.reduceLE, Nat.reduceEqDiff, Option.some.injEq, true_implies, forall_const, sz_0, sz_1, sz_2, sz_3, sz_4, sz_5, sz_6, sz_7, sz_8, sz_9, sz_10, sz_11, sz_12, sz_13, sz_14, sz_15, sz_16, sz_17, sz_18, sz_19, sz_20, int_whole, ix_4_1, ix_4_2, ix_4_3]))
theorem seq_mid {a c : DTS} {e : DEnds} {s : DSt} {h : DH} (M : DSt → DH → Prop) (h1 : ∀ B : DTS, (∀ s h, M s h → B e s h) → dSeq a B e s h) (h2 : ∀ s h, M s h → c e s h) : dSeq a c e s h := h1 c h2
section
variable {P : Program} {w : World} {K : PySem.W.Frag} {mg : Str → Option Value} {base : Heap} {C_DelayError C_BadNet : Addr}
theorem h__law_draws (T : Txt K mg C_DelayError C_BadNet) : Has P w K mg base "_law_draws" (2) ["script"] (sp__law_draws) := by
  refine has_of T.a__law_draws fun f fd F => okD F sc__law_draws len1 fun cdv A outer s H E b ds q xx hr tk hsp => ?_
  refine ⟨_, (dss_one (ds_ret (de_new (dl_lst (da_cons (de_cb (pe_callTy (call_listU rfl) (by rfl) T.m_list bt_list (da_cons (de_var (pv 0)) da_nil)) refList) (da_cons de_int (da_cons de_int (da_cons de_int da_nil)))))))), ?_⟩
  obtain ⟨d0, rfl, hsp⟩ := inv1 hsp
  obtain ⟨ns, rfl, hq⟩ := hsp
  walk_at "d"
  intro p hp p2 hp2
  have ne : p ≠ p2 := fun z => by rw [z, updD_same] at hp2; cases hp2
  refine ⟨_, Sub.refl, hq p p2 hp (by rw [← hp2, updD_ne ne.symm]) ne⟩
theorem h__law_draw (T : Txt K mg C_DelayError C_BadNet) : Has P w K mg base "_law_draw" (2) ["draws", "limit"] (sp__law_draw) := by
  refine has_of T.a__law_draw fun f fd F => okD F sc__law_draw len2 fun cdv A outer s H E b ds q xx hr tk hsp => ?_
  refine ⟨_, (dss_cons (ds_if (dt_w (dw_and (dt_eq (de_ix (hu_of hr) (de_var (pv 0)) de_int (fun _ _ => rfl)) de_int) (dw_and1 (dt_lt (de_ix (hu_of hr) (de_var (pv 0)) de_int (fun _ _ => rfl)) (de_cb (pe_callB call_lenU (by rfl) T.m_len bt_len (da_cons (de_ix (hu_of hr) (de_var (pv 0)) de_int (fun _ _ => rfl)) da_nil)) refLen))))) (dss_cons (ds_set (i := 2) sc__law_draw.nd rfl (Or.inl rfl) (de_ix (hu_of hr) (de_ix (hu_of hr) (de_var (pv 0)) de_int (fun _ _ => rfl)) (de_ix (hu_of hr) (de_var (pv 0)) de_int (fun _ _ => rfl)) (fun _ _ => rfl)))
    (dss_cons (ds_setItem (de_add (de_ix (hu_of hr) (de_var (pv 0)) de_int (fun _ _ => rfl)) de_int) (de_var (pv 0)) de_int (set_u (hu_of hr)) refPut)
    (dss_cons (ds_if (dt_ge (de_var (pv 2)) (de_pow de_int de_int)) (dss_one (ds_setItem (de_var (pv 2)) (de_var (pv 0)) de_int (set_u (hu_of hr)) refPut)) dss_nil)
    (dss_one (ds_setItem (de_mod (de_cb (pe_callTy call_int1 (by rfl) T.m_int bt_int (da_cons (de_add (de_add (de_mul (de_ix (hu_of hr) (de_var (pv 0)) de_int (fun _ _ => rfl)) de_int) (de_var (pv 2))) de_int) da_nil)) refInt) de_int) (de_var (pv 0)) de_int (set_u (hu_of hr)) refPut))))) dss_nil)
  (dss_cons (ds_if (dt_gt (de_ix (hu_of hr) (de_var (pv 0)) de_int (fun _ _ => rfl)) de_int) (dss_cons (ds_set (i := 3) sc__law_draw.nd rfl (Or.inl rfl) (de_mod (de_cb (pe_callTy call_int1 (by rfl) T.m_int bt_int (da_cons (de_ix (hu_of hr) (de_var (pv 0)) de_int (fun _ _ => rfl)) da_nil)) refInt) (de_var (pv 1))))
    (dss_cons (ds_setItem (de_fdiv (de_ix (hu_of hr) (de_var (pv 0)) de_int (fun _ _ => rfl)) (de_var (pv 1))) (de_var (pv 0)) de_int (set_u (hu_of hr)) refPut)
    (dss_one (ds_ret (de_var (pv 3)))))) dss_nil)
  (dss_cons (ds_setItem (de_mod (de_cb (pe_callTy call_int1 (by rfl) T.m_int bt_int (da_cons (de_add (de_mul (de_ix (hu_of hr) (de_var (pv 0)) de_int (fun _ _ => rfl)) de_int) de_int) da_nil)) refInt) de_int) (de_var (pv 0)) de_int (set_u (hu_of hr)) refPut)
  (dss_one (ds_ret (de_mod (de_cb (pe_callTy call_int1 (by rfl) T.m_int bt_int (da_cons (de_fdiv (de_ix (hu_of hr) (de_var (pv 0)) de_int (fun _ _ => rfl)) de_int) da_nil)) refInt) (de_var (pv 1)))))))), ?_⟩
  obtain ⟨d0, d1, rfl, hsp⟩ := inv2 hsp
  obtain ⟨dl, sl, ns, d, lim, rfl, rfl, h0, h1, dr, hq⟩ := hsp
  obtain ⟨di, db, ds⟩ := d
  have l1 := dr.at_
  have l2 := dr.num
  have ne := dr.ne
  have i0 := dr.i0
  have b0 := dr.b0
  simp only at i0 b0
  unfold drL at l1
  simp only at l1
  refine seq_mid (fun s h' => ∃ d' x2 x3, 0 ≤ Dr.i d' ∧ 0 ≤ Dr.b d' ∧ h' = updD b dl (drL sl d') ∧ s = [some (.loc dl), some (.int (lim : Nat)), x2, x3]) (fun B hB => ?_) ?_
  · (try simp only [startD, dSeq, dNext, dIfS, dRet, dRetN, dDrop, dAsg, pName, dOp, dUn, dVar, dC, dCons, dNil, dCB, dTest, dTru, truD, dAnd, dOr, dNot, dIf, dPar, dAug, dI0, dII, dI1, dAbs, dInt, dCall, dIx, dTup, dEqS, eqS, dNeS, dAndV, dOrV, dNotV, dIsi, dLen, lenD, dSl, dCut, dPart, dNoPart, dCL, dlLst, dNew, dLst, dAdd, dMul, dIsN, dNotN, nonD, dSet, dPut, eLen, eTuple, eAll, eAny, eSum, eMax, eMin, dTuple, dTupR1, dYes, dIxL, dlCatVL, dlCatLV, dlCatLL, dlRep, dIterL, dSeqI, dRng1, dRng2, dEnum, pTup, setAll, wipeD, dMt, dMt0, tyM, dAppend, dlRg1, dlRg2, dNewK, dNewT, dRev, dRaise, dDisp1, dZip, dTry, dTryAs, dBreak, dCont,   ty_int, ty_bl, ty_str, ty_non, ty_tup, mem_int, mem_bool, mem_str, mem_tuple, mem_list, isTy_self, isTy_bool_int, isTy_int_bool, isTy_int_tuple, isTy_int_list, isTy_int_str, isTy_bool_tuple, isTy_bool_list, isTy_bool_str, isTy_str_bool, isTy_str_int, isTy_str_tuple, isTy_str_list, isTy_non_tuple, isTy_non_list, isTy_non_str, isTy_non_int, isTy_non_bool, isTy_tup_list, isTy_tup_int, isTy_tup_str, isTy_tup_bool, isTy_list_tup, isTy_list_int, isTy_list_bool, isTy_list_str,   sp1, sp2, sp3, sp4, sp5, sp6, updD_same, updD_updD, List.map_cons, List.map_nil, List.length_cons, List.length_nil, List.set_cons_zero, List.set_cons_succ, List.getElem?_cons_zero, List.getElem?_cons_succ, List.cons_append, List.nil_append, Nat.reduceAdd, Nat.reduceSub, List.replicate, Nat.sub_self, decide_eq_true_eq, Bool.not_eq_true', decide_eq_false_iff_not, decide_true, decide_false, Bool.not_true, Bool.not_false, Bool.false_eq_true, Bool.true_eq_false, if_true, if_false, reduceIte, true_and, and_true, List.isEmpty_nil, List.isEmpty_cons, List.flatten_cons, List.flatten_nil, at_0, at_1, at_2, at_3, at_4, at_5, at_6, at_7, at_m1_1, at_m1_2, at_m1_3, at_m1_4, at_m1_5, at_m1_6, nc_0, nc_1, nc_2, nc_3, nc_4, nc_5, nc_6, nc_7, nc_8, nc_9, nc_10, nc_11, nc_12, len_map, not_true_eq_false, not_false_eq_true, ite_true, ite_false, Int.reduceEq, Int.reduceNe, Int.reduceLT, Int.reduceLE, Nat.reduceEqDiff, Option.some.injEq, true_implies, forall_const, sz_0, sz_1, sz_2, sz_3, sz_4, sz_5, sz_6, sz_7, sz_8, sz_9, sz_10, sz_11, sz_12, sz_13, sz_14, sz_15, sz_16, sz_17, sz_18, sz_19, sz_20, int_whole, ix_4_1, ix_4_2, ix_4_3, l1, l2])
    by_cases c1 : db = 0
    · rw [if_pos c1]
      by_cases c2 : di < ns.length
      · rw [if_pos c2]
        obtain ⟨k, rfl⟩ : ∃ k : Nat, di = k := ⟨di.toNat, by omega⟩
        have hk : k < ns.length := by omega
        have e1 : atI (ns.map D.int) (k : Int) = some (.int ns[k]) := atI_nat (by rw [List.getElem?_map, List.getElem?_eq_getElem hk]; rfl)
        (try simp only [startD, dSeq, dNext, dIfS, dRet, dRetN, dDrop, dAsg, pName, dOp, dUn, dVar, dC, dCons, dNil, dCB, dTest, dTru, truD, dAnd, dOr, dNot, dIf, dPar, dAug, dI0, dII, dI1, dAbs, dInt, dCall, dIx, dTup, dEqS, eqS, dNeS, dAndV, dOrV, dNotV, dIsi, dLen, lenD, dSl, dCut, dPart, dNoPart, dCL, dlLst, dNew, dLst, dAdd, dMul, dIsN, dNotN, nonD, dSet, dPut, eLen, eTuple, eAll, eAny, eSum, eMax, eMin, dTuple, dTupR1, dYes, dIxL, dlCatVL, dlCatLV, dlCatLL, dlRep, dIterL, dSeqI, dRng1, dRng2, dEnum, pTup, setAll, wipeD, dMt, dMt0, tyM, dAppend, dlRg1, dlRg2, dNewK, dNewT, dRev, dRaise, dDisp1, dZip, dTry, dTryAs, dBreak, dCont,   ty_int, ty_bl, ty_str, ty_non, ty_tup, mem_int, mem_bool, mem_str, mem_tuple, mem_list, isTy_self, isTy_bool_int, isTy_int_bool, isTy_int_tuple, isTy_int_list, isTy_int_str, isTy_bool_tuple, isTy_bool_list, isTy_bool_str, isTy_str_bool, isTy_str_int, isTy_str_tuple, isTy_str_list, isTy_non_tuple, isTy_non_list, isTy_non_str, isTy_non_int, isTy_non_bool, isTy_tup_list, isTy_tup_int, isTy_tup_str, isTy_tup_bool, isTy_list_tup, isTy_list_int, isTy_list_bool, isTy_list_str,   sp1, sp2, sp3, sp4, sp5, sp6, updD_same, updD_updD, List.map_cons, List.map_nil, List.length_cons, List.length_nil, List.set_cons_zero, List.set_cons_succ, List.getElem?_cons_zero, List.getElem?_cons_succ, List.cons_append, List.nil_append, Nat.reduceAdd, Nat.reduceSub, List.replicate, Nat.sub_self, decide_eq_true_eq, Bool.not_eq_true', decide_eq_false_iff_not, decide_true, decide_false, Bool.not_true, Bool.not_false, Bool.false_eq_true, Bool.true_eq_false, if_true, if_false, reduceIte, true_and, and_true, List.isEmpty_nil, List.isEmpty_cons, List.flatten_cons, List.flatten_nil, at_0, at_1, at_2, at_3, at_4, at_5, at_6, at_7, at_m1_1, at_m1_2, at_m1_3, at_m1_4, at_m1_5, at_m1_6, nc_0, nc_1, nc_2, nc_3, nc_4, nc_5, nc_6, nc_7, nc_8, nc_9, nc_10, nc_11, nc_12, len_map, not_true_eq_false, not_false_eq_true, ite_true, ite_false, Int.reduceEq, Int.reduceNe, Int.reduceLT, Int.reduceLE, Nat.reduceEqDiff, Option.some.injEq, true_implies, forall_const, sz_0, sz_1, sz_2, sz_3, sz_4, sz_5, sz_6, sz_7, sz_8, sz_9, sz_10, sz_11, sz_12, sz_13, sz_14, sz_15, sz_16, sz_17, sz_18, sz_19, sz_20, int_whole, ix_4_1, ix_4_2, ix_4_3, e1])
        refine ⟨cp10, ?_⟩
        split
        · rename_i c3
          refine ⟨.inr ⟨by decide, by decide⟩, ?_⟩
          refine hB _ _ ⟨⟨_, _, _⟩, _, _, ?_, ?_, rfl, rfl⟩
          · show (0 : Int) ≤ (k : Int) + 1
            omega
          · show (0 : Int) ≤ ns[k]
            exact Int.le_trans (by decide) c3
        · refine ⟨.inr ⟨by decide, by decide⟩, ?_⟩
          refine hB _ _ ⟨⟨_, _, _⟩, _, _, ?_, ?_, rfl, rfl⟩
          · show (0 : Int) ≤ (k : Int) + 1
            omega
          · exact b0
      · rw [if_neg c2]
        refine hB _ _ ⟨⟨di, db, ds⟩, _, _, i0, b0, ?_, rfl⟩
        exact (upd_id l1).symm
    · rw [if_neg c1]
      refine hB _ _ ⟨⟨di, db, ds⟩, _, _, i0, b0, ?_, rfl⟩
      exact (upd_id l1).symm
  · rintro s h' ⟨⟨ei, eb, es⟩, x2, x3, j0, c0, rfl, rfl⟩
    simp only at j0 c0
    unfold drL
    walk_at "d"
    have emod : ∀ i : Int, ∃ v : Nat, v < lim ∧ i % (lim : Int) = (v : Nat) := fun i => by
      have h3 := Int.emod_nonneg i (show (lim : Int) ≠ 0 by omega)
      have h4 := Int.emod_lt_of_pos i (show (0 : Int) < lim by omega)
      exact ⟨(i % (lim : Int)).toNat, by omega, by omega⟩
    split
    · obtain ⟨v, hv, ev⟩ := emod eb
      rw [ev]
      refine ⟨by omega, ⟨by omega, by omega⟩, _, Sub.refl, hq v ⟨ei, eb / lim, es⟩ hv j0 (Int.ediv_nonneg c0 (by omega))⟩
    · obtain ⟨v, hv, ev⟩ := emod ((es * 69621 + 7) % 2147483629 / 11)
      rw [ev]
      refine ⟨.inr ⟨by decide, by decide⟩, ⟨by decide, by decide⟩, by omega, _, Sub.refl, hq v ⟨ei, eb, _⟩ hv j0 c0⟩
end
end K

set_option Elab.async false
set_option linter.all false
set_option maxRecDepth 100000
set_option maxHeartbeats 4000000
namespace K
open PySem PySem.Spec PyProof.Rows L2 DL
local macro_rules | `(tactic| walk_at "d") => `(tactic| (try simp only [startD, dSeq, dNext, dIfS, dRet, dRetN, dDrop, dAsg, pName, dOp, dUn, dVar, dC, dCons, dNil, dCB, dTest, dTru, truD, dAnd, dOr, dNot, dIf, dPar, dAug, dI0, dII, dI1, dAbs, dInt, dCall, dIx, dTup, dEqS, eqS, dNeS, dAndV, dOrV, dNotV, dIsi, dLen, lenD, dSl, dCut, dPart, dNoPart, dCL, dlLst, dNew, dLst, dAdd, dMul, dIsN, dNotN, nonD, dSet, dPut, eLen, eTuple, eAll, eAny, eSum, eMax, eMin, dTuple, dTupR1, dYes, dIxL, dlCatVL, dlCatLV, dlCatLL, dlRep, dIterL, dSeqI, dRng1, dRng2, dEnum, pTup, setAll, wipeD, dMt, dMt0, tyM, dAppend, dlRg1, dlRg2, dNewK, dNewT, dRev, dRaise, dDisp1, dZip, dTry, dTryAs, dBreak, dCont,
  ty_int, ty_bl, ty_str, ty_non, ty_tup, mem_int, mem_bool, mem_str, mem_tuple, mem_list, isTy_self, isTy_bool_int, isTy_int_bool, isTy_int_tuple, isTy_int_list, isTy_int_str, isTy_bool_tuple, isTy_bool_list, isTy_bool_str, isTy_str_bool, isTy_str_int, isTy_str_tuple, isTy_str_list, isTy_non_tuple, isTy_non_list, isTy_non_str, isTy_non_int, isTy_non_bool, isTy_tup_list, isTy_tup_int, isTy_tup_str, isTy_tup_bool, isTy_list_tup, isTy_list_int, isTy_list_bool, isTy_list_str,
  sp1, sp2, sp3, sp4, sp5, sp6, updD_same, updD_updD, List.map_cons, List.map_nil, List.length_cons, List.length_nil, List.set_cons_zero, List.set_cons_succ, List.getElem?_cons_zero, List.getElem?_cons_succ, List.cons_append, List.nil_append, Nat.reduceAdd, Nat.reduceSub, List.replicate, Nat.sub_self, decide_eq_true_eq, Bool.not_eq_true', decide_eq_false_iff_not, decide_true, decide_false, Bool.not_true, Bool.not_false, Bool.false_eq_true, Bool.true_eq_false, if_true, if_false, reduceIte, true_and, and_true, List.isEmpty_nil, List.isEmpty_cons, List.flatten_cons, List.flatten_nil, at_0, at_1, at_2, at_3, at_4, at_5, at_6, at_7, at_m1_1, at_m1_2, at_m1_3, at_m1_4, at_m1_5, at_m1_6, nc_0, nc_1, nc_2, nc_3, nc_4, nc_5, nc_6, nc_7, nc_8, nc_9, nc_10, nc_11, nc_12, len_map, not_true_eq_false, not_false_eq_true, ite_true, ite_false, Int.reduceEq, Int.reduceNe, Int.reduceLT, Int.reduceLE, Nat.reduceEqDiff, Option.some.injEq, true_implies, forall_const, sz_0, sz_1, sz_2, sz_3, sz_4, sz_5, sz_6, sz_7, sz_8, sz_9, sz_10, sz_11, sz_12, sz_13, sz_14, sz_15, sz_16, sz_17, sz_18, sz_19, sz_20, int_whole, ix_4_1, ix_4_2, ix_4_3]))
def sp__law_gcd : DSp := sp2 fun a b h q _ => ∃ m n : Nat, a = .int (m : Nat) ∧ b = .int (n : Nat) ∧ q (eN (Nat.gcd m n)) h
def sp__law_ratio : DSp := sp2 fun a b h q _ => ∃ m n : Int, a = .int m ∧ b = .int n ∧ 0 < n ∧ n < 1073741824 ∧ q (eR (nrm m n)) h
def sp__law_plus : DSp := sp2 fun a b h q _ => ∃ r s, a = eR r ∧ b = eR s ∧ OkR r ∧ OkR s ∧ q (eR (plusR r s)) h
/-- plain values: ints and tuples of them, so many deep -/
inductive Pl : Nat → D → Prop
  | int {n i} : Pl n (.int i)
  | str {n x} : Pl n (.str x)
  | bl {n k} : Pl n (.bl k)
  | tup {n ds} : ds.length ≤ 100000 → (∀ d ∈ ds, Pl n d) → Pl (n + 1) (.tup ds)
def sameP : Nat → D → D → DH → DK → DXK → Prop
  | 0 => fun _ _ _ _ _ => False
  | n + 1 => fun a b h q _ => a = b ∧ Pl n a ∧ q (.bl true) h
def sp__law_same (n : Nat) : DSp := sp2 (sameP n)
theorem has_none' {P : Program} {w : World} {K : PySem.W.Frag} {mg : Str → Option Value} {base : Heap} {x : Str} {st : Stmt} {ps : List Str} {sp : DSp} (A : DefAt K mg x st ps) (no : ∀ ds h q xx, ¬ sp ds h q xx) : Has P w K mg base x 0 ps sp := by
  obtain ⟨f, fd, h1, F, h2⟩ := A.ex
  exact ⟨f, fd, h1, F.kp, h2, ⟨fun vs H Q E ⟨_, _, _, _, _, _, z, _⟩ => (no _ _ _ _ z).elim, fun A outer s H args us vs Q E _ _ _ _ ⟨_, _, _, _, _, _, z, _⟩ => (no _ _ _ _ z).elim⟩⟩
section
variable {P : Program} {w : World} {K : PySem.W.Frag} {mg : Str → Option Value} {base : Heap} {C_DelayError C_BadNet : Addr}
theorem h__law_gcd (T : Txt K mg C_DelayError C_BadNet) : Has P w K mg base "_law_gcd" (2) ["a", "b"] (sp__law_gcd) := by
  refine has_of T.a__law_gcd fun f fd F => okD F sc__law_gcd len2 fun cdv A outer s H E b ds q xx hr tk hsp => ?_
  refine ⟨_, (dss_cons (ds_while (passes_of rfl) (dt_gt (de_var (pv 1)) de_int) (dss_one (ds_par (i := 0) (j := 1) (by rfl) sc__law_gcd.nd rfl rfl (by decide) rfl rfl (da_cons (de_var (pv 1)) (da_cons (de_mod (de_cb (pe_callTy call_int1 (by rfl) T.m_int bt_int (da_cons (de_var (pv 0)) da_nil)) refInt) (de_var (pv 1))) da_nil)) (by rfl))))
  (dss_one (ds_ret (de_var (pv 0))))), ?_⟩
  obtain ⟨d0, d1, rfl, hsp⟩ := inv2 hsp
  obtain ⟨m, n, rfl, rfl, hq⟩ := hsp
  refine whileP (fun j s h' => h' = b ∧ ∃ x : Nat, s = [some (.int (x : Nat)), some (.int (j : Nat))] ∧ Nat.gcd x j = Nat.gcd m n) n ⟨rfl, m, rfl, rfl⟩ ?_
  rintro j s h' ⟨rfl, x, rfl, hg⟩
  refine ⟨decide (0 < j), fun q hq => ?_, fun hj => ?_, fun hj => ?_⟩
  · walk_at "d"
    have e : decide (0 < j) = decide ((0 : Int) < (j : Int)) := by simp
    rw [← e]; exact hq
  · have hj : 0 < j := of_decide_eq_true hj
    walk_at "d"
    refine ⟨by omega, x % j, Nat.mod_lt _ hj, j, ?_, ?_⟩
    · rfl
    rw [← hg, Nat.gcd_comm x j, Nat.gcd_rec j x, Nat.gcd_comm]
  · have hj : j = 0 := by simpa using hj
    subst hj
    walk_at "d"
    refine ⟨h', Sub.refl, ?_⟩
    rw [Nat.gcd_zero_right] at hg
    subst hg
    exact hq
theorem h__law_ratio (T : Txt K mg C_DelayError C_BadNet) (H__law_gcd : Has P w K mg base "_law_gcd" 2 ["a", "b"] sp__law_gcd) : Has P w K mg base "_law_ratio" (3) ["n", "d"] (sp__law_ratio) := by
  refine has_of T.a__law_ratio fun f fd F => okD F sc__law_ratio len2 fun cdv A outer s H E b ds q xx hr tk hsp => ?_
  have hr__law_gcd := hr.mono (show 2 ≤ 2 by decide)
  refine ⟨_, (dss_cons (ds_set (i := 2) sc__law_ratio.nd rfl (Or.inl rfl) (de_callH H__law_gcd hr__law_gcd (by rfl) tk (da_cons (de_cb (pe_callB call_abs (by rfl) T.m_abs bt_abs (da_cons (de_var (pv 0)) da_nil)) refAbs) (da_cons (de_var (pv 1)) da_nil))))
  (dss_one (ds_ret (de_tup (da_cons (de_fdiv (de_var (pv 0)) (de_var (pv 2))) (da_cons (de_fdiv (de_var (pv 1)) (de_var (pv 2))) da_nil)))))), ?_⟩
  obtain ⟨d0, d1, rfl, hsp⟩ := inv2 hsp
  obtain ⟨m, n, rfl, rfl, h0, h1, hq⟩ := hsp
  have hg : 0 < Int.gcd m n := Int.gcd_pos_of_ne_zero_right m (by omega)
  have hg2 : (Int.gcd m n : Int) ≤ n := Int.le_of_dvd h0 (Int.gcd_dvd_right m n)
  walk_at "d"
  refine ⟨m.natAbs, n.natAbs, rfl, by rw [Int.natAbs_of_nonneg (by omega)], ?_⟩
  have e : Nat.gcd m.natAbs n.natAbs = Int.gcd m n := rfl
  rw [e]
  unfold eN
  walk_at "d"
  refine ⟨⟨by omega, by omega⟩, ⟨by omega, by omega⟩, b, Sub.refl, hq⟩
theorem h__law_same (T : Txt K mg C_DelayError C_BadNet) {kk : Nat} (H__law_same : Has P w K mg base "_law_same" kk ["actual", "expected"] (sp__law_same kk)) : Has P w K mg base "_law_same" (kk + 1) ["actual", "expected"] ((sp__law_same (kk+1))) := by
  refine has_of T.a__law_same fun f fd F => okD F sc__law_same len2 fun cdv A outer s H E b ds q xx hr tk hsp => ?_
  have hr__law_same := hr
  refine ⟨_, (dss_cons (ds_if (dt_tru (de_cb (pe_callB call_isi (by rfl) T.m_isinstance bt_isinstance (da_cons (de_var (pv 1)) (da_cons (de_ty (by rfl) T.m_tuple bt_tuple) da_nil))) refIsi)) (dss_cons (ds_if (dt_w (dw_or (dt_not (dt_tru (de_cb (pe_callB call_isi (by rfl) T.m_isinstance bt_isinstance (da_cons (de_var (pv 0)) (da_cons (de_ty (by rfl) T.m_tuple bt_tuple) da_nil))) refIsi))) (dw_or1 (dt_ne (de_cb (pe_callB call_lenU (by rfl) T.m_len bt_len (da_cons (de_var (pv 0)) da_nil)) refLen) (de_cb (pe_callB call_lenU (by rfl) T.m_len bt_len (da_cons (de_var (pv 1)) da_nil)) refLen))))) (dss_one (ds_ret de_bl)) dss_nil)
    (dss_cons (ds_for (passes_of rfl) rfl (di_rng1 (by rfl) T.m_range (da_cons (de_cb (pe_callB call_lenU (by rfl) T.m_len bt_len (da_cons (de_var (pv 1)) da_nil)) refLen) da_nil)) (pg_name (i := 2) sc__law_same.nd rfl (Or.inl rfl)) (refG_name 2) (dss_one (ds_if (dt_not (dt_tru (de_callH H__law_same hr__law_same (by rfl) tk (da_cons (de_ix (hu_of hr) (de_var (pv 0)) (de_var (pv 2)) (fun _ _ => rfl)) (da_cons (de_ix (hu_of hr) (de_var (pv 1)) (de_var (pv 2)) (fun _ _ => rfl)) da_nil))))) (dss_one (ds_ret de_bl)) dss_nil)))
    (dss_one (ds_ret de_bl)))) dss_nil)
  (dss_cons (ds_if (dt_tru (de_cb (pe_callB call_isi (by rfl) T.m_isinstance bt_isinstance (da_cons (de_var (pv 1)) (da_cons (de_ty (by rfl) T.m_str bt_str) da_nil))) refIsi)) (dss_one (ds_ret (de_and (de_cb (pe_callB call_isi (by rfl) T.m_isinstance bt_isinstance (da_cons (de_var (pv 0)) (da_cons (de_ty (by rfl) T.m_str bt_str) da_nil))) refIsi) (de_one (de_eq (de_var (pv 0)) (de_var (pv 1))))))) dss_nil)
  (dss_cons (ds_if (dt_isN (de_var (pv 1)) de_non) (dss_one (ds_ret (de_isN (de_var (pv 0)) de_non))) dss_nil)
  (dss_cons (ds_if (dt_w (dw_or (dt_tru (de_cb (pe_callB call_isi (by rfl) T.m_isinstance bt_isinstance (da_cons (de_var (pv 1)) (da_cons (de_ty (by rfl) T.m_bool bt_bool) da_nil))) refIsi)) (dw_or1 (dt_tru (de_cb (pe_callB call_isi (by rfl) T.m_isinstance bt_isinstance (da_cons (de_var (pv 0)) (da_cons (de_ty (by rfl) T.m_bool bt_bool) da_nil))) refIsi))))) (dss_one (ds_ret (de_and (de_cb (pe_callB call_isi (by rfl) T.m_isinstance bt_isinstance (da_cons (de_var (pv 1)) (da_cons (de_ty (by rfl) T.m_bool bt_bool) da_nil))) refIsi) (de_and (de_cb (pe_callB call_isi (by rfl) T.m_isinstance bt_isinstance (da_cons (de_var (pv 0)) (da_cons (de_ty (by rfl) T.m_bool bt_bool) da_nil))) refIsi) (de_one (de_eq (de_var (pv 0)) (de_var (pv 1)))))))) dss_nil)
  (dss_one (ds_ret (de_and (de_cb (pe_callB call_isi (by rfl) T.m_isinstance bt_isinstance (da_cons (de_var (pv 0)) (da_cons (de_ty (by rfl) T.m_int bt_int) da_nil))) refIsi) (de_and (de_cb (pe_callB call_isi (by rfl) T.m_isinstance bt_isinstance (da_cons (de_var (pv 1)) (da_cons (de_ty (by rfl) T.m_int bt_int) da_nil))) refIsi) (de_one (de_eq (de_var (pv 0)) (de_var (pv 1)))))))))))), ?_⟩
  obtain ⟨d0, d1, rfl, hsp⟩ := inv2 hsp
  obtain ⟨rfl, hp, hq⟩ := hsp
  cases hp with
  | int =>
    walk_at "d"
    exact ⟨b, Sub.refl, hq⟩
  | str =>
    walk_at "d"
    exact ⟨b, Sub.refl, hq⟩
  | bl =>
    walk_at "d"
    exact ⟨b, Sub.refl, hq⟩
  | tup hlen hds =>
    rename_i n' ds
    walk_at "d"
    refine forG (xs := rgD 0 (ds.length : Nat)) (G := fun _ => True) (fun i s h' => ∃ x2, s = [some (.tup ds), some (.tup ds), x2] ∧ h' = b) (fun r hr => by walk_at "d"; exact ⟨by omega, by omega, hr⟩) ⟨none, rfl, rfl⟩ (fun _ _ _ _ _ => trivial) ?_ ?_
    · rintro i x s h' hx ⟨x2, rfl, rfl⟩
      obtain ⟨hi, rfl⟩ := rgD_some hx
      rw [Int.zero_add]
      have hi : i < ds.length := by omega
      have hg : atI ds (i : Int) = some ds[i] := atI_nat (List.getElem?_eq_getElem hi)
      (try simp only [startD, dSeq, dNext, dIfS, dRet, dRetN, dDrop, dAsg, pName, dOp, dUn, dVar, dC, dCons, dNil, dCB, dTest, dTru, truD, dAnd, dOr, dNot, dIf, dPar, dAug, dI0, dII, dI1, dAbs, dInt, dCall, dIx, dTup, dEqS, eqS, dNeS, dAndV, dOrV, dNotV, dIsi, dLen, lenD, dSl, dCut, dPart, dNoPart, dCL, dlLst, dNew, dLst, dAdd, dMul, dIsN, dNotN, nonD, dSet, dPut, eLen, eTuple, eAll, eAny, eSum, eMax, eMin, dTuple, dTupR1, dYes, dIxL, dlCatVL, dlCatLV, dlCatLL, dlRep, dIterL, dSeqI, dRng1, dRng2, dEnum, pTup, setAll, wipeD, dMt, dMt0, tyM, dAppend, dlRg1, dlRg2, dNewK, dNewT, dRev, dRaise, dDisp1, dZip, dTry, dTryAs, dBreak, dCont,   ty_int, ty_bl, ty_str, ty_non, ty_tup, mem_int, mem_bool, mem_str, mem_tuple, mem_list, isTy_self, isTy_bool_int, isTy_int_bool, isTy_int_tuple, isTy_int_list, isTy_int_str, isTy_bool_tuple, isTy_bool_list, isTy_bool_str, isTy_str_bool, isTy_str_int, isTy_str_tuple, isTy_str_list, isTy_non_tuple, isTy_non_list, isTy_non_str, isTy_non_int, isTy_non_bool, isTy_tup_list, isTy_tup_int, isTy_tup_str, isTy_tup_bool, isTy_list_tup, isTy_list_int, isTy_list_bool, isTy_list_str,   sp1, sp2, sp3, sp4, sp5, sp6, updD_same, updD_updD, List.map_cons, List.map_nil, List.length_cons, List.length_nil, List.set_cons_zero, List.set_cons_succ, List.getElem?_cons_zero, List.getElem?_cons_succ, List.cons_append, List.nil_append, Nat.reduceAdd, Nat.reduceSub, List.replicate, Nat.sub_self, decide_eq_true_eq, Bool.not_eq_true', decide_eq_false_iff_not, decide_true, decide_false, Bool.not_true, Bool.not_false, Bool.false_eq_true, Bool.true_eq_false, if_true, if_false, reduceIte, true_and, and_true, List.isEmpty_nil, List.isEmpty_cons, List.flatten_cons, List.flatten_nil, at_0, at_1, at_2, at_3, at_4, at_5, at_6, at_7, at_m1_1, at_m1_2, at_m1_3, at_m1_4, at_m1_5, at_m1_6, nc_0, nc_1, nc_2, nc_3, nc_4, nc_5, nc_6, nc_7, nc_8, nc_9, nc_10, nc_11, nc_12, len_map, not_true_eq_false, not_false_eq_true, ite_true, ite_false, Int.reduceEq, Int.reduceNe, Int.reduceLT, Int.reduceLE, Nat.reduceEqDiff, Option.some.injEq, true_implies, forall_const, sz_0, sz_1, sz_2, sz_3, sz_4, sz_5, sz_6, sz_7, sz_8, sz_9, sz_10, sz_11, sz_12, sz_13, sz_14, sz_15, sz_16, sz_17, sz_18, sz_19, sz_20, int_whole, ix_4_1, ix_4_2, ix_4_3, hg])
      refine ⟨rfl, hds _ (List.getElem_mem hi), ?_⟩
      walk_at "d"
      exact ⟨_, rfl⟩
    · rintro s h' ⟨x2, rfl, rfl⟩
      walk_at "d"
      exact ⟨h', Sub.refl, hq⟩
end
end K

set_option Elab.async false
set_option linter.all false
set_option maxRecDepth 100000
set_option maxHeartbeats 4000000
namespace K
open PySem PySem.Spec PyProof.Rows L2 DL
local macro_rules | `(tactic| walk_at "d") => `(tactic| (try simp only [startD, dSeq, dNext, dIfS, dRet, dRetN, dDrop, dAsg, pName, dOp, dUn, dVar, dC, dCons, dNil, dCB, dTest, dTru, truD, dAnd, dOr, dNot, dIf, dPar, dAug, dI0, dII, dI1, dAbs, dInt, dCall, dIx, dTup, dEqS, eqS, dNeS, dAndV, dOrV, dNotV, dIsi, dLen, lenD, dSl, dCut, dPart, dNoPart, dCL, dlLst, dNew, dLst, dAdd, dMul, dIsN, dNotN, nonD, dSet, dPut, eLen, eTuple, eAll, eAny, eSum, eMax, eMin, dTuple, dTupR1, dYes, dIxL, dlCatVL, dlCatLV, dlCatLL, dlRep, dIterL, dSeqI, dRng1, dRng2, dEnum, pTup, setAll, wipeD, dMt, dMt0, tyM, dAppend, dlRg1, dlRg2, dNewK, dNewT, dRev, dRaise, dDisp1, dZip, dTry, dTryAs, dBreak, dCont,
  ty_int, ty_bl, ty_str, ty_non, ty_tup, mem_int, mem_bool, mem_str, mem_tuple, mem_list, isTy_self, isTy_bool_int, isTy_int_bool, isTy_int_tuple, isTy_int_list, isTy_int_str, isTy_bool_tuple, isTy_bool_list, isTy_bool_str, isTy_str_bool, isTy_str_int, isTy_str_tuple, isTy_str_list, isTy_non_tuple, isTy_non_list, isTy_non_str, isTy_non_int, isTy_non_bool, isTy_tup_list, isTy_tup_int, isTy_tup_str, isTy_tup_bool, isTy_list_tup, isTy_list_int, isTy_list_bool, isTy_list_str,
  sp1, sp2, sp3, sp4, sp5, sp6, updD_same, updD_updD, List.map_cons, List.map_nil, List.length_cons, List.length_nil, List.set_cons_zero, List.set_cons_succ, List.getElem?_cons_zero, List.getElem?_cons_succ, List.cons_append, List.nil_append, Nat.reduceAdd, Nat.reduceSub, List.replicate, Nat.sub_self, decide_eq_true_eq, Bool.not_eq_true', decide_eq_false_iff_not, decide_true, decide_false, Bool.not_true, Bool.not_false, Bool.false_eq_true, Bool.true_eq_false, if_true, if_false, reduceIte, true_and, and_true, List.isEmpty_nil, List.isEmpty_cons, List.flatten_cons, List.flatten_nil, at_0, at_1, at_2, at_3, at_4, at_5, at_6, at_7, at_m1_1, at_m1_2, at_m1_3, at_m1_4, at_m1_5, at_m1_6, nc_0, nc_1, nc_2, nc_3, nc_4, nc_5, nc_6, nc_7, nc_8, nc_9, nc_10, nc_11, nc_12, len_map, not_true_eq_false, not_false_eq_true, ite_true, ite_false, Int.reduceEq, Int.reduceNe, Int.reduceLT, Int.reduceLE, Nat.reduceEqDiff, Option.some.injEq, true_implies, forall_const, sz_0, sz_1, sz_2, sz_3, sz_4, sz_5, sz_6, sz_7, sz_8, sz_9, sz_10, sz_11, sz_12, sz_13, sz_14, sz_15, sz_16, sz_17, sz_18, sz_19, sz_20, int_whole, ix_4_1, ix_4_2, ix_4_3]))
/-- loops whose items are known only later -/
def ForB (g : DTG) (tb : DTS) (e : DEnds) (s : DSt) (xs : List D) (G : DH → Prop) (h : DH) : Prop := dFor (fun _ h r => r xs G h) g tb e s h
theorem for_b {w : DTI} {g : DTG} {tb : DTS} {e : DEnds} {s : DSt} {h : DH} : dFor w g tb e s h = w s h (ForB g tb e s) := rfl
theorem forB {xs : List D} {G : DH → Prop} {h1 : DH} {g : DTG} {tb : DTS} {e : DEnds} {s : DSt} (I : Nat → DSt → DH → Prop)
    (i0 : I 0 s h1) (hG : ∀ i s h, i ≤ xs.length → I i s h → G h)
    (step : ∀ i x s h, xs[i]? = some x → I i s h → g x s fun s2 => tb { e with nx := I (i + 1), ct := I (i + 1), bk := e.nx } s2 h)
    (fin : ∀ s h, I xs.length s h → e.nx s h) : ForB g tb e s xs G h1 := forG I (fun r hr => hr) i0 hG step fin
theorem forBE {α : Type} {G : DH → Prop} {h1 : DH} {g : DTG} {tb : DTS} {e : DEnds} {s : DSt} (l : List α) (enc : α → D) (I : Nat → DSt → DH → Prop)
    (i0 : I 0 s h1) (hG : ∀ i s h, i ≤ l.length → I i s h → G h)
    (step : ∀ i x s h, l[i]? = some x → I i s h → g (enc x) s fun s2 => tb { e with nx := I (i + 1), ct := I (i + 1), bk := e.nx } s2 h)
    (fin : ∀ s h, I l.length s h → e.nx s h) : ForB g tb e s (l.map enc) G h1 := forE l enc I (fun r hr => hr) i0 hG step fin
def LcB (g : DTG) (tt : DTT) (te : DTE) (vs : List Nat) (s : DSt) (q : DLK) (xs : List D) (G : DH → Prop) (h : DH) : Prop := dlLc (fun _ h r => r xs G h) g tt te vs s h q
theorem lc_b {w : DTI} {g : DTG} {tt : DTT} {te : DTE} {vs : List Nat} {s : DSt} {h : DH} {q : DLK} : dlLc w g tt te vs s h q = w s h (LcB g tt te vs s q) := rfl
theorem lcB {α : Type} {G : DH → Prop} {h1 : DH} {g : DTG} {tt : DTT} {te : DTE} {vs : List Nat} {s : DSt} {q : DLK} (l : List α) (enc : α → D) (I : Nat → List D → DH → Prop)
    (i0 : I 0 [] h1) (hG : ∀ i acc h, i ≤ l.length → I i acc h → G h ∧ acc.length < accMax)
    (step : ∀ i x acc h, l[i]? = some x → I i acc h → g (enc x) (wipeD s vs) fun s2 => tt s2 h fun k h2 => if k = true then te s2 h2 fun y h3 => I (i + 1) (acc ++ [y]) h3 else I (i + 1) acc h2)
    (fin : ∀ acc h, I l.length acc h → q acc h) : LcB g tt te vs s q (l.map enc) G h1 := lcG I (fun r hr => hr) i0 (fun i acc h hi z => hG i acc h (by rw [List.length_map] at hi; exact hi) z) (fun i x acc h hx z => by
  rw [List.getElem?_map] at hx
  cases hy : l[i]? with
  | none => rw [hy] at hx; cases hx
  | some y =>
    rw [hy] at hx
    obtain rfl : enc y = x := Option.some.inj hx
    exact step i y acc h hy z) (fun acc h z => fin acc h (by rw [List.length_map] at z; exact z))
/-! ### draws in a row -/
def Dw (b : DH) (dl sl : Addr) (ns : List Int) (h : DH) : Prop := b sl = some (.lst (ns.map D.int)) ∧ sl ≠ dl ∧ ∃ d : Dr, 0 ≤ d.i ∧ 0 ≤ d.b ∧ DL.Sub (updD b dl (drL sl d)) h
theorem Dw.init {b : DH} {dl sl : Addr} {ns : List Int} {d : Dr} (z : IsDr b dl sl ns d) : Dw b dl sl ns b :=
  ⟨z.num, z.ne, d, z.i0, z.b0, by rw [upd_id z.at_]; exact Sub.refl⟩
section
variable {b : DH} {dl sl : Addr} {ns : List Int} {h : DH}
theorem Dw.isdr (z : Dw b dl sl ns h) : ∃ d, IsDr h dl sl ns d := by
  obtain ⟨h1, h2, d, h3, h4, h5⟩ := z
  exact ⟨d, h5 _ _ updD_same, h5 _ _ (by rw [updD_ne h2]; exact h1), h2, h3, h4⟩
theorem Dw.put (z : Dw b dl sl ns h) {d : Dr} (i0 : 0 ≤ d.i) (b0 : 0 ≤ d.b) : Dw b dl sl ns (updD h dl (drL sl d)) := by
  obtain ⟨h1, h2, d', h3, h4, h5⟩ := z
  exact ⟨h1, h2, d, i0, b0, Sub.put h5⟩
theorem Dw.new (z : Dw b dl sl ns h) {p : Addr} {o : DO} (hp : h p = none) : Dw b dl sl ns (updD h p o) := by
  obtain ⟨h1, h2, d', h3, h4, h5⟩ := z
  exact ⟨h1, h2, d', h3, h4, h5.trans (Sub.new hp)⟩
theorem Dw.mut (z : Dw b dl sl ns h) {p : Addr} {o : DO} (hp : b p = none) (ne : p ≠ dl) : Dw b dl sl ns (updD h p o) := by
  obtain ⟨h1, h2, d', h3, h4, h5⟩ := z
  exact ⟨h1, h2, d', h3, h4, h5.mut (by rw [updD_ne ne]; exact hp)⟩
theorem Dw.free (z : Dw b dl sl ns h) {p : Addr} (hp : h p = none) : b p = none ∧ p ≠ dl := by
  obtain ⟨h1, h2, d', h3, h4, h5⟩ := z
  have := h5.none hp
  unfold updD at this
  split at this
  · cases this
  · rename_i z; exact ⟨this, z⟩
theorem draw_use {q : DK} {x : DXK} (dw : Dw b dl sl ns h) (lim : Nat) (h0 : 0 < lim) (h1 : lim ≤ 1000000) (k : ∀ v h', v < lim → Dw b dl sl ns h' → (∀ p, p ≠ dl → h' p = h p) → q (eN v) h') : sp__law_draw [.loc dl, .int (lim : Nat)] h q x := by
  obtain ⟨d, z⟩ := dw.isdr
  exact ⟨dl, sl, ns, d, lim, rfl, rfl, h0, h1, z, fun v d' hv i0 b0 => k v _ hv (dw.put i0 b0) fun p hp => updD_ne hp⟩
end
/-- a drawn graph -/
structure GrOk (most : Nat) (g : Gr) : Prop where
  pos : 0 < g.1
  n : g.1 ≤ most
  m : g.2.length ≤ 3 * most
  es : ∀ e ∈ g.2, OkE g.1 e
  t : ∀ e ∈ g.2, e.t ≤ 7
theorem GrOk.wf {g : Gr} {most : Nat} (z : GrOk most g) (h : most ≤ 300) : WF g := ⟨z.pos, by have := z.n; omega, by have := z.m; omega, z.es⟩
def sp__law_graph : DSp := sp2 fun a c h q _ => ∃ dl sl ns d most, a = .loc dl ∧ c = .int (most : Nat) ∧ 0 < most ∧ most ≤ 300 ∧ IsDr h dl sl ns d ∧ ∀ g d', GrOk most g → 0 ≤ Dr.i d' → 0 ≤ Dr.b d' → q (eG g) (updD h dl (drL sl d'))
def eP (p : Nat × Nat) : D := .tup [eN p.1, eN p.2]
theorem ok_nrm {m n : Int} (h0 : 0 ≤ m) (h1 : 0 < n) (h2 : n ∣ 12) : OkR (nrm m n) := by
  have hg : 0 < Int.gcd m n := Int.gcd_pos_of_ne_zero_right m (by omega)
  unfold nrm
  refine ⟨Int.ediv_nonneg h0 (by omega), Int.ediv_pos_of_pos_of_dvd h1 (by omega) (Int.gcd_dvd_right _ _), Int.gcd_ediv_gcd_ediv_gcd hg, ?_⟩
  exact Int.dvd_trans (Int.ediv_dvd_of_dvd (Int.gcd_dvd_right m n)) h2
section
variable {P : Program} {w : World} {K : PySem.W.Frag} {mg : Str → Option Value} {base : Heap} {C_DelayError C_BadNet : Addr}
theorem h__law_graph (T : Txt K mg C_DelayError C_BadNet) (H__law_ratio : Has P w K mg base "_law_ratio" 3 ["n", "d"] sp__law_ratio) (H__law_draw : Has P w K mg base "_law_draw" 2 ["draws", "limit"] sp__law_draw) : Has P w K mg base "_law_graph" (4) ["draws", "most"] (sp__law_graph) := by
  refine has_of T.a__law_graph fun f fd F => okD F sc__law_graph len2 fun cdv A outer s H E b ds q xx hr tk hsp => ?_
  have hr__law_ratio := hr.mono (show 3 ≤ 3 by decide)
  have hr__law_draw := hr.mono (show 2 ≤ 3 by decide)
  refine ⟨_, (dss_cons (ds_set (i := 2) sc__law_graph.nd rfl (Or.inl rfl) (de_add de_int (de_callH H__law_draw hr__law_draw (by rfl) tk (da_cons (de_var (pv 0)) (da_cons (de_var (pv 1)) da_nil)))))
  (dss_cons (ds_set (i := 3) sc__law_graph.nd rfl (Or.inl rfl) (de_new (dl_lst da_nil)))
  (dss_cons (ds_for (passes_of rfl) rfl (di_rng1 (by rfl) T.m_range (da_cons (de_ixL (dl_lst (da_cons de_int (da_cons (de_var (pv 2)) (da_cons (de_var (pv 2)) (da_cons (de_mul de_int (de_var (pv 2))) da_nil))))) (de_callH H__law_draw hr__law_draw (by rfl) tk (da_cons (de_var (pv 0)) (da_cons de_int da_nil))) (fun _ _ => rfl)) da_nil)) (pg_name (i := 4) sc__law_graph.nd rfl (Or.inl rfl)) (refG_name 4) (dss_one (ds_expr (de_bm PySem.F.plainAttrs_list PySem.F.slot_list_append PySem.F.type_list_append mt_append refAppend (de_var (pv 3)) (da_cons (de_tup (da_cons (de_callH H__law_draw hr__law_draw (by rfl) tk (da_cons (de_var (pv 0)) (da_cons (de_var (pv 2)) da_nil))) (da_cons (de_callH H__law_draw hr__law_draw (by rfl) tk (da_cons (de_var (pv 0)) (da_cons (de_var (pv 2)) da_nil))) da_nil))) da_nil)))))
  (dss_cons (ds_if (dt_gt (de_callH H__law_draw hr__law_draw (by rfl) tk (da_cons (de_var (pv 0)) (da_cons de_int da_nil))) de_int) (dss_cons (ds_set (i := 5) sc__law_graph.nd rfl (Or.inr rfl) (de_new (dl_lc (own := [("v", 11)]) rfl sc__law_graph.nd (di_rng1 (by rfl) T.m_range (da_cons (de_var (pv 2)) da_nil)) (blkOk_by (own := [("v", 11)]) (N := ["draws", "most", "nodes", "edges", "k", "order", "told", "kind", "a", "b", "tokens", "v"]) (sc := defScope st__law_graph) (by decide +kernel)) (ownG_name (by decide)) (fun _ _ _ _ _ => pg_name (i := 11) sc__law_graph.nd rfl (Or.inl rfl)) (fun _ _ _ _ _ => dts_one (dt_gt (de_callH H__law_draw hr__law_draw (by rfl) takes_none (da_cons (de_var (pv 0)) (da_cons de_int da_nil))) de_int)) (fun _ _ _ _ _ => (de_var (pv 11))))))
    (dss_one (ds_set (i := 3) sc__law_graph.nd rfl (Or.inl rfl) (de_new (dl_catVL (de_var (pv 3)) (dl_lc (own := [("k", 4)]) rfl sc__law_graph.nd (di_rng1 (by rfl) T.m_range (da_cons (de_cb (pe_callB call_lenU (by rfl) T.m_len bt_len (da_cons (de_var (pv 5)) da_nil)) refLen) da_nil)) (blkOk_by (own := [("k", 4)]) (N := ["draws", "most", "nodes", "edges", "k", "order", "told", "kind", "a", "b", "tokens", "v"]) (sc := defScope st__law_graph) (by decide +kernel)) (ownG_name (by decide)) (fun _ _ _ _ _ => pg_name (i := 4) sc__law_graph.nd rfl (Or.inl rfl)) (fun _ _ _ _ _ => dts_nil) (fun _ _ _ _ _ => (de_tup (da_cons (de_ix (hu_of hr) (de_var (pv 5)) (de_var (pv 4)) (fun _ _ => rfl)) (da_cons (de_ix (hu_of hr) (de_var (pv 5)) (de_mod (de_cb (pe_callTy call_int1 (by rfl) T.m_int bt_int (da_cons (de_add (de_var (pv 4)) de_int) da_nil)) refInt) (de_cb (pe_callB call_lenU (by rfl) T.m_len bt_len (da_cons (de_var (pv 5)) da_nil)) refLen)) (fun _ _ => rfl)) da_nil)))))))))) dss_nil)
  (dss_cons (ds_set (i := 6) sc__law_graph.nd rfl (Or.inl rfl) (de_new (dl_lst da_nil)))
  (dss_cons (ds_set (i := 7) sc__law_graph.nd rfl (Or.inl rfl) (de_callH H__law_draw hr__law_draw (by rfl) tk (da_cons (de_var (pv 0)) (da_cons de_int da_nil))))
  (dss_cons (ds_for (passes_of rfl) rfl (di_seq (de_var (pv 3))) (pg_tup (by rfl) (pgs_cons (pg_name (i := 8) sc__law_graph.nd rfl (Or.inl rfl)) (pgs_cons (pg_name (i := 9) sc__law_graph.nd rfl (Or.inl rfl)) pgs_nil))) (refG_tup [8, 9]) (dss_cons (ds_set (i := 10) sc__law_graph.nd rfl (Or.inl rfl) (de_ixL (dl_lst (da_cons de_int (da_cons de_int (da_cons de_int (da_cons de_int (da_cons de_int (da_cons de_int da_nil))))))) (de_callH H__law_draw hr__law_draw (by rfl) tk (da_cons (de_var (pv 0)) (da_cons de_int da_nil))) (fun _ _ => rfl)))
    (dss_cons (ds_if (dt_w (dw_and (dt_gt (de_var (pv 7)) de_int) (dw_and (dt_ge (de_var (pv 8)) (de_var (pv 9))) (dw_and1 (dt_eq (de_var (pv 10)) de_int))))) (dss_one (ds_set (i := 10) sc__law_graph.nd rfl (Or.inl rfl) (de_add de_int (de_callH H__law_draw hr__law_draw (by rfl) tk (da_cons (de_var (pv 0)) (da_cons de_int da_nil)))))) dss_nil)
    (dss_one (ds_expr (de_bm PySem.F.plainAttrs_list PySem.F.slot_list_append PySem.F.type_list_append mt_append refAppend (de_var (pv 6)) (da_cons (de_tup (da_cons (de_var (pv 8)) (da_cons (de_var (pv 9)) (da_cons (de_var (pv 10)) (da_cons (de_callH H__law_ratio hr__law_ratio (by rfl) tk (da_cons (de_callH H__law_draw hr__law_draw (by rfl) tk (da_cons (de_var (pv 0)) (da_cons (de_ixL (dl_lst (da_cons de_int (da_cons de_int (da_cons de_int da_nil)))) (de_callH H__law_draw hr__law_draw (by rfl) tk (da_cons (de_var (pv 0)) (da_cons de_int da_nil))) (fun _ _ => rfl)) da_nil))) (da_cons (de_add de_int (de_callH H__law_draw hr__law_draw (by rfl) tk (da_cons (de_var (pv 0)) (da_cons de_int da_nil)))) da_nil))) da_nil))))) da_nil)))))))
  (dss_one (ds_ret (de_tup (da_cons (de_var (pv 2)) (da_cons (de_cb (pe_callTy call_tuple_of (by rfl) T.m_tuple bt_tuple (da_cons (de_var (pv 6)) da_nil)) refTuple) da_nil)))))))))))), ?_⟩
  obtain ⟨d0, d1, rfl, hsp⟩ := inv2 hsp
  obtain ⟨dl, sl, ns, d, most, rfl, rfl, h0, h1, dr, hq⟩ := hsp
  have dw := Dw.init dr
  walk_at "d"
  refine draw_use dw most h0 (by omega) fun v H hv dw1 keep => ?_
  unfold eN
  walk_at "d"
  obtain ⟨n, hn⟩ : ∃ n : Nat, n = 1 + v := ⟨_, rfl⟩
  have en : (1 : Int) + (v : Nat) = (n : Nat) := by omega
  simp only [en]
  intro pe hpe
  obtain ⟨bpe, npe⟩ := dw1.free hpe
  have dw2 := dw1.new (o := .lst []) hpe
  rw [for_b]
  walk_at "d"
  refine ⟨.inl ⟨by decide, by decide⟩, ?_⟩
  refine draw_use dw2 4 (by decide) (by decide) fun v1 H1 hv1 dw3 keep1 => ?_
  have pe1 : H1 pe = some (.lst []) := by rw [keep1 _ npe, updD_same]
  obtain ⟨c, hc, ec⟩ : ∃ c : Nat, c ≤ 2 * n ∧ atI [D.int 0, D.int (n : Nat), D.int (n : Nat), D.int (2 * (n : Nat))] ((v1 : Nat) : Int) = some (D.int (c : Nat)) := by
    match v1, hv1 with
    | 0, _ => exact ⟨0, by omega, rfl⟩
    | 1, _ => exact ⟨n, by omega, rfl⟩
    | 2, _ => exact ⟨n, by omega, rfl⟩
    | 3, _ => exact ⟨2 * n, by omega, by rw [show ((2 * n : Nat) : Int) = 2 * (n : Nat) by omega]; rfl⟩
  unfold eN
  (try simp only [startD, dSeq, dNext, dIfS, dRet, dRetN, dDrop, dAsg, pName, dOp, dUn, dVar, dC, dCons, dNil, dCB, dTest, dTru, truD, dAnd, dOr, dNot, dIf, dPar, dAug, dI0, dII, dI1, dAbs, dInt, dCall, dIx, dTup, dEqS, eqS, dNeS, dAndV, dOrV, dNotV, dIsi, dLen, lenD, dSl, dCut, dPart, dNoPart, dCL, dlLst, dNew, dLst, dAdd, dMul, dIsN, dNotN, nonD, dSet, dPut, eLen, eTuple, eAll, eAny, eSum, eMax, eMin, dTuple, dTupR1, dYes, dIxL, dlCatVL, dlCatLV, dlCatLL, dlRep, dIterL, dSeqI, dRng1, dRng2, dEnum, pTup, setAll, wipeD, dMt, dMt0, tyM, dAppend, dlRg1, dlRg2, dNewK, dNewT, dRev, dRaise, dDisp1, dZip, dTry, dTryAs, dBreak, dCont,   ty_int, ty_bl, ty_str, ty_non, ty_tup, mem_int, mem_bool, mem_str, mem_tuple, mem_list, isTy_self, isTy_bool_int, isTy_int_bool, isTy_int_tuple, isTy_int_list, isTy_int_str, isTy_bool_tuple, isTy_bool_list, isTy_bool_str, isTy_str_bool, isTy_str_int, isTy_str_tuple, isTy_str_list, isTy_non_tuple, isTy_non_list, isTy_non_str, isTy_non_int, isTy_non_bool, isTy_tup_list, isTy_tup_int, isTy_tup_str, isTy_tup_bool, isTy_list_tup, isTy_list_int, isTy_list_bool, isTy_list_str,   sp1, sp2, sp3, sp4, sp5, sp6, updD_same, updD_updD, List.map_cons, List.map_nil, List.length_cons, List.length_nil, List.set_cons_zero, List.set_cons_succ, List.getElem?_cons_zero, List.getElem?_cons_succ, List.cons_append, List.nil_append, Nat.reduceAdd, Nat.reduceSub, List.replicate, Nat.sub_self, decide_eq_true_eq, Bool.not_eq_true', decide_eq_false_iff_not, decide_true, decide_false, Bool.not_true, Bool.not_false, Bool.false_eq_true, Bool.true_eq_false, if_true, if_false, reduceIte, true_and, and_true, List.isEmpty_nil, List.isEmpty_cons, List.flatten_cons, List.flatten_nil, at_0, at_1, at_2, at_3, at_4, at_5, at_6, at_7, at_m1_1, at_m1_2, at_m1_3, at_m1_4, at_m1_5, at_m1_6, nc_0, nc_1, nc_2, nc_3, nc_4, nc_5, nc_6, nc_7, nc_8, nc_9, nc_10, nc_11, nc_12, len_map, not_true_eq_false, not_false_eq_true, ite_true, ite_false, Int.reduceEq, Int.reduceNe, Int.reduceLT, Int.reduceLE, Nat.reduceEqDiff, Option.some.injEq, true_implies, forall_const, sz_0, sz_1, sz_2, sz_3, sz_4, sz_5, sz_6, sz_7, sz_8, sz_9, sz_10, sz_11, sz_12, sz_13, sz_14, sz_15, sz_16, sz_17, sz_18, sz_19, sz_20, int_whole, ix_4_1, ix_4_2, ix_4_3, ec])
  refine ⟨by omega, by omega, ?_⟩
  refine forB (fun i s h' => ∃ (ps : List (Nat × Nat)) (x4 : Option D), s = [some (.loc dl), some (.int (most : Nat)), some (.int (n : Nat)), some (.loc pe), x4, none, none, none, none, none, none, none] ∧
    Dw b dl sl ns h' ∧ h' pe = some (.lst (ps.map eP)) ∧ ps.length = i ∧ ∀ p ∈ ps, p.1 < n ∧ p.2 < n) ⟨[], none, rfl, dw3, pe1, rfl, fun p hp => by cases hp⟩ (fun _ _ _ _ _ => trivial) ?_ ?_
  · rintro i x s h' hx ⟨ps, x4, rfl, dw4, l1, hlen, hps⟩
    (try simp only [startD, dSeq, dNext, dIfS, dRet, dRetN, dDrop, dAsg, pName, dOp, dUn, dVar, dC, dCons, dNil, dCB, dTest, dTru, truD, dAnd, dOr, dNot, dIf, dPar, dAug, dI0, dII, dI1, dAbs, dInt, dCall, dIx, dTup, dEqS, eqS, dNeS, dAndV, dOrV, dNotV, dIsi, dLen, lenD, dSl, dCut, dPart, dNoPart, dCL, dlLst, dNew, dLst, dAdd, dMul, dIsN, dNotN, nonD, dSet, dPut, eLen, eTuple, eAll, eAny, eSum, eMax, eMin, dTuple, dTupR1, dYes, dIxL, dlCatVL, dlCatLV, dlCatLL, dlRep, dIterL, dSeqI, dRng1, dRng2, dEnum, pTup, setAll, wipeD, dMt, dMt0, tyM, dAppend, dlRg1, dlRg2, dNewK, dNewT, dRev, dRaise, dDisp1, dZip, dTry, dTryAs, dBreak, dCont,   ty_int, ty_bl, ty_str, ty_non, ty_tup, mem_int, mem_bool, mem_str, mem_tuple, mem_list, isTy_self, isTy_bool_int, isTy_int_bool, isTy_int_tuple, isTy_int_list, isTy_int_str, isTy_bool_tuple, isTy_bool_list, isTy_bool_str, isTy_str_bool, isTy_str_int, isTy_str_tuple, isTy_str_list, isTy_non_tuple, isTy_non_list, isTy_non_str, isTy_non_int, isTy_non_bool, isTy_tup_list, isTy_tup_int, isTy_tup_str, isTy_tup_bool, isTy_list_tup, isTy_list_int, isTy_list_bool, isTy_list_str,   sp1, sp2, sp3, sp4, sp5, sp6, updD_same, updD_updD, List.map_cons, List.map_nil, List.length_cons, List.length_nil, List.set_cons_zero, List.set_cons_succ, List.getElem?_cons_zero, List.getElem?_cons_succ, List.cons_append, List.nil_append, Nat.reduceAdd, Nat.reduceSub, List.replicate, Nat.sub_self, decide_eq_true_eq, Bool.not_eq_true', decide_eq_false_iff_not, decide_true, decide_false, Bool.not_true, Bool.not_false, Bool.false_eq_true, Bool.true_eq_false, if_true, if_false, reduceIte, true_and, and_true, List.isEmpty_nil, List.isEmpty_cons, List.flatten_cons, List.flatten_nil, at_0, at_1, at_2, at_3, at_4, at_5, at_6, at_7, at_m1_1, at_m1_2, at_m1_3, at_m1_4, at_m1_5, at_m1_6, nc_0, nc_1, nc_2, nc_3, nc_4, nc_5, nc_6, nc_7, nc_8, nc_9, nc_10, nc_11, nc_12, len_map, not_true_eq_false, not_false_eq_true, ite_true, ite_false, Int.reduceEq, Int.reduceNe, Int.reduceLT, Int.reduceLE, Nat.reduceEqDiff, Option.some.injEq, true_implies, forall_const, sz_0, sz_1, sz_2, sz_3, sz_4, sz_5, sz_6, sz_7, sz_8, sz_9, sz_10, sz_11, sz_12, sz_13, sz_14, sz_15, sz_16, sz_17, sz_18, sz_19, sz_20, int_whole, ix_4_1, ix_4_2, ix_4_3, l1])
    refine draw_use dw4 n (by omega) (by omega) fun v2 H2 hv2 dw5 keep2 => ?_
    walk_at "d"
    refine draw_use dw5 n (by omega) (by omega) fun v3 H3 hv3 dw6 keep3 => ?_
    have l2 : H3 pe = some (.lst (ps.map eP)) := by rw [keep3 _ npe, keep2 _ npe, l1]
    (try simp only [startD, dSeq, dNext, dIfS, dRet, dRetN, dDrop, dAsg, pName, dOp, dUn, dVar, dC, dCons, dNil, dCB, dTest, dTru, truD, dAnd, dOr, dNot, dIf, dPar, dAug, dI0, dII, dI1, dAbs, dInt, dCall, dIx, dTup, dEqS, eqS, dNeS, dAndV, dOrV, dNotV, dIsi, dLen, lenD, dSl, dCut, dPart, dNoPart, dCL, dlLst, dNew, dLst, dAdd, dMul, dIsN, dNotN, nonD, dSet, dPut, eLen, eTuple, eAll, eAny, eSum, eMax, eMin, dTuple, dTupR1, dYes, dIxL, dlCatVL, dlCatLV, dlCatLL, dlRep, dIterL, dSeqI, dRng1, dRng2, dEnum, pTup, setAll, wipeD, dMt, dMt0, tyM, dAppend, dlRg1, dlRg2, dNewK, dNewT, dRev, dRaise, dDisp1, dZip, dTry, dTryAs, dBreak, dCont,   ty_int, ty_bl, ty_str, ty_non, ty_tup, mem_int, mem_bool, mem_str, mem_tuple, mem_list, isTy_self, isTy_bool_int, isTy_int_bool, isTy_int_tuple, isTy_int_list, isTy_int_str, isTy_bool_tuple, isTy_bool_list, isTy_bool_str, isTy_str_bool, isTy_str_int, isTy_str_tuple, isTy_str_list, isTy_non_tuple, isTy_non_list, isTy_non_str, isTy_non_int, isTy_non_bool, isTy_tup_list, isTy_tup_int, isTy_tup_str, isTy_tup_bool, isTy_list_tup, isTy_list_int, isTy_list_bool, isTy_list_str,   sp1, sp2, sp3, sp4, sp5, sp6, updD_same, updD_updD, List.map_cons, List.map_nil, List.length_cons, List.length_nil, List.set_cons_zero, List.set_cons_succ, List.getElem?_cons_zero, List.getElem?_cons_succ, List.cons_append, List.nil_append, Nat.reduceAdd, Nat.reduceSub, List.replicate, Nat.sub_self, decide_eq_true_eq, Bool.not_eq_true', decide_eq_false_iff_not, decide_true, decide_false, Bool.not_true, Bool.not_false, Bool.false_eq_true, Bool.true_eq_false, if_true, if_false, reduceIte, true_and, and_true, List.isEmpty_nil, List.isEmpty_cons, List.flatten_cons, List.flatten_nil, at_0, at_1, at_2, at_3, at_4, at_5, at_6, at_7, at_m1_1, at_m1_2, at_m1_3, at_m1_4, at_m1_5, at_m1_6, nc_0, nc_1, nc_2, nc_3, nc_4, nc_5, nc_6, nc_7, nc_8, nc_9, nc_10, nc_11, nc_12, len_map, not_true_eq_false, not_false_eq_true, ite_true, ite_false, Int.reduceEq, Int.reduceNe, Int.reduceLT, Int.reduceLE, Nat.reduceEqDiff, Option.some.injEq, true_implies, forall_const, sz_0, sz_1, sz_2, sz_3, sz_4, sz_5, sz_6, sz_7, sz_8, sz_9, sz_10, sz_11, sz_12, sz_13, sz_14, sz_15, sz_16, sz_17, sz_18, sz_19, sz_20, int_whole, ix_4_1, ix_4_2, ix_4_3, l2])
    refine ⟨sz_lt' (by have := (rgD_some hx).1; omega), ps ++ [(v2, v3)], _, rfl, dw6.mut bpe npe, by rw [List.map_append]; rfl, by rw [List.length_append, hlen]; rfl, fun p hp => ?_⟩
    rcases List.mem_append.mp hp with h | h
    · exact hps p h
    · have : p = (v2, v3) := by simpa using h
      rw [this]; exact ⟨hv2, hv3⟩
  · rintro s h' ⟨ps, x4, rfl, dw4, l1, hlen, hps⟩
    dsimp only
    refine seq_mid (fun s h => ∃ (pe' : Addr) (ps : List (Nat × Nat)) (x4 x5 x11 : Option D), s = [some (.loc dl), some (.int (most : Nat)), some (.int (n : Nat)), some (.loc pe'), x4, x5, none, none, none, none, none, x11] ∧ Dw b dl sl ns h ∧ h pe' = some (.lst (ps.map eP)) ∧ b pe' = none ∧ pe' ≠ dl ∧ ps.length ≤ 3 * n ∧ ∀ p ∈ ps, p.1 < n ∧ p.2 < n) (fun B hB => ?_) ?_
    · walk_at "d"
      refine draw_use dw4 4 (by decide) (by decide) fun v2 H2 hv2 dw5 keep2 => ?_
      simp only [show eN v2 = D.int ((v2 : Nat) : Int) from rfl]
      have l2 : H2 pe = some (.lst (ps.map eP)) := by rw [keep2 _ npe, l1]
      rw [rgD_len] at hlen
      have hlen2 : ps.length ≤ 2 * n := by omega
      walk_at "d"
      split
      · rw [lc_b]
        walk_at "d"
        rw [rg0]
        refine ⟨by omega, by omega, ?_⟩
        refine lcB (List.range n) eN (fun i acc h' => Dw b dl sl ns h' ∧ h' pe = some (.lst (ps.map eP)) ∧ ∃ os : List Nat, acc = os.map eN ∧ os.length ≤ i ∧ ∀ o ∈ os, o < n) ⟨dw5, l2, [], rfl, Nat.le_refl _, fun o ho => by cases ho⟩ (fun i acc h hi z => ⟨trivial, ?_⟩) ?_ ?_
        · obtain ⟨_, _, os, rfl, h3, _⟩ := z
          rw [List.length_range] at hi
          exact accMax_big (by rw [List.length_map]; omega)
        · rintro i x acc h hx ⟨dw6, l3, os, rfl, h3, h4⟩
          have hx := (List.getElem?_eq_some_iff.mp hx)
          have hxn : x < n := by
            obtain ⟨h5, h6⟩ := hx
            rw [List.getElem_range] at h6
            rw [List.length_range] at h5
            omega
          walk_at "d"
          refine draw_use dw6 4 (by decide) (by decide) fun v3 H3 hv3 dw7 keep3 => ?_
          have l4 : H3 pe = some (.lst (ps.map eP)) := by rw [keep3 _ npe, l3]
          simp only [show eN v3 = D.int ((v3 : Nat) : Int) from rfl]
          walk_at "d"
          split
          · refine ⟨dw7, l4, os ++ [x], by rw [List.map_append]; rfl, by rw [List.length_append]; exact Nat.succ_le_succ h3, fun o ho => ?_⟩
            rcases List.mem_append.mp ho with h | h
            · exact h4 o h
            · have : o = x := by simpa using h
              rw [this]; exact hxn
          · exact ⟨dw7, l4, os, rfl, by omega, h4⟩
        · rintro acc h ⟨dw6, l3, os, rfl, h3, h4⟩
          rw [List.length_range] at h3
          intro po hpo
          have npo : pe ≠ po := fun z => by rw [← z, l3] at hpo; cases hpo
          have dw7 := dw6.new (o := .lst (os.map eN)) hpo
          refine lcEM (List.range os.length) eN (G := fun _ => True) (fun k => eP (os.getD k 0, os.getD ((k + 1) % os.length) 0)) (fun r hr => by
            walk_at "d"
            rw [rg0]
            exact ⟨by omega, by omega, hr⟩) trivial (accMax_big (by rw [List.length_range]; omega)) (fun k hk Y hY => ?_) ?_
          · have hk := List.mem_range.mp hk
            have hk2 : (k + 1) % os.length < os.length := Nat.mod_lt _ (by omega)
            have g1 : atI (os.map eN) (k : Int) = some (eN (os.getD k 0)) := atI_nat (by rw [List.getElem?_map, List.getElem?_eq_getElem hk, List.getD_eq_getElem?_getD, List.getElem?_eq_getElem hk]; rfl)
            have g2 : atI (os.map eN) ((((k : Nat) : Int) + 1) % (os.length : Nat)) = some (eN (os.getD ((k + 1) % os.length) 0)) := by
              rw [show ((k : Nat) : Int) + 1 = ((k + 1 : Nat) : Int) by omega, ← Int.natCast_emod]
              exact atI_nat (by rw [List.getElem?_map, List.getElem?_eq_getElem hk2, List.getD_eq_getElem?_getD, List.getElem?_eq_getElem hk2]; rfl)
            simp only [show eN k = D.int ((k : Nat) : Int) from rfl]
            (try simp only [startD, dSeq, dNext, dIfS, dRet, dRetN, dDrop, dAsg, pName, dOp, dUn, dVar, dC, dCons, dNil, dCB, dTest, dTru, truD, dAnd, dOr, dNot, dIf, dPar, dAug, dI0, dII, dI1, dAbs, dInt, dCall, dIx, dTup, dEqS, eqS, dNeS, dAndV, dOrV, dNotV, dIsi, dLen, lenD, dSl, dCut, dPart, dNoPart, dCL, dlLst, dNew, dLst, dAdd, dMul, dIsN, dNotN, nonD, dSet, dPut, eLen, eTuple, eAll, eAny, eSum, eMax, eMin, dTuple, dTupR1, dYes, dIxL, dlCatVL, dlCatLV, dlCatLL, dlRep, dIterL, dSeqI, dRng1, dRng2, dEnum, pTup, setAll, wipeD, dMt, dMt0, tyM, dAppend, dlRg1, dlRg2, dNewK, dNewT, dRev, dRaise, dDisp1, dZip, dTry, dTryAs, dBreak, dCont,   ty_int, ty_bl, ty_str, ty_non, ty_tup, mem_int, mem_bool, mem_str, mem_tuple, mem_list, isTy_self, isTy_bool_int, isTy_int_bool, isTy_int_tuple, isTy_int_list, isTy_int_str, isTy_bool_tuple, isTy_bool_list, isTy_bool_str, isTy_str_bool, isTy_str_int, isTy_str_tuple, isTy_str_list, isTy_non_tuple, isTy_non_list, isTy_non_str, isTy_non_int, isTy_non_bool, isTy_tup_list, isTy_tup_int, isTy_tup_str, isTy_tup_bool, isTy_list_tup, isTy_list_int, isTy_list_bool, isTy_list_str,   sp1, sp2, sp3, sp4, sp5, sp6, updD_same, updD_updD, List.map_cons, List.map_nil, List.length_cons, List.length_nil, List.set_cons_zero, List.set_cons_succ, List.getElem?_cons_zero, List.getElem?_cons_succ, List.cons_append, List.nil_append, Nat.reduceAdd, Nat.reduceSub, List.replicate, Nat.sub_self, decide_eq_true_eq, Bool.not_eq_true', decide_eq_false_iff_not, decide_true, decide_false, Bool.not_true, Bool.not_false, Bool.false_eq_true, Bool.true_eq_false, if_true, if_false, reduceIte, true_and, and_true, List.isEmpty_nil, List.isEmpty_cons, List.flatten_cons, List.flatten_nil, at_0, at_1, at_2, at_3, at_4, at_5, at_6, at_7, at_m1_1, at_m1_2, at_m1_3, at_m1_4, at_m1_5, at_m1_6, nc_0, nc_1, nc_2, nc_3, nc_4, nc_5, nc_6, nc_7, nc_8, nc_9, nc_10, nc_11, nc_12, len_map, not_true_eq_false, not_false_eq_true, ite_true, ite_false, Int.reduceEq, Int.reduceNe, Int.reduceLT, Int.reduceLE, Nat.reduceEqDiff, Option.some.injEq, true_implies, forall_const, sz_0, sz_1, sz_2, sz_3, sz_4, sz_5, sz_6, sz_7, sz_8, sz_9, sz_10, sz_11, sz_12, sz_13, sz_14, sz_15, sz_16, sz_17, sz_18, sz_19, sz_20, int_whole, ix_4_1, ix_4_2, ix_4_3, g1, g2])
            refine ⟨by omega, ?_⟩
            exact hY
          · have l5 : updD h po (.lst (os.map eN)) pe = some (.lst (ps.map eP)) := by rw [updD_ne npo, l3]
            unfold lstOf
            simp only [l5]
            walk_at "d"
            refine ⟨sz_big (by rw [List.length_range]; omega), fun pn hpn => hB _ _ ?_⟩
            obtain ⟨f1, f2⟩ := dw7.free hpn
            refine ⟨pn, ps ++ (List.range os.length).map fun k => (os.getD k 0, os.getD ((k + 1) % os.length) 0), _, _, _, rfl, dw7.new hpn, ?_, f1, f2, ?_, ?_⟩
            · rw [updD_same, List.map_append, List.map_map]; rfl
            · rw [List.length_append, List.length_map, List.length_range]; omega
            · intro p hp
              rcases List.mem_append.mp hp with h | h
              · exact hps p h
              · obtain ⟨k, hk, rfl⟩ := List.mem_map.mp h
                have hk := List.mem_range.mp hk
                have hk2 : (k + 1) % os.length < os.length := Nat.mod_lt _ (by omega)
                refine ⟨?_, ?_⟩
                · show os.getD k 0 < n
                  rw [List.getD_eq_getElem?_getD, List.getElem?_eq_getElem hk]
                  exact h4 _ (List.getElem_mem hk)
                · show os.getD ((k + 1) % os.length) 0 < n
                  rw [List.getD_eq_getElem?_getD, List.getElem?_eq_getElem hk2]
                  exact h4 _ (List.getElem_mem hk2)
      · exact hB _ _ ⟨pe, ps, _, _, _, rfl, dw5, l2, bpe, npe, by omega, hps⟩
    · rintro s h' ⟨pe, ps, x4, x5, x11, rfl, dw4, l1, bpe, npe, hlen, hps⟩
      walk_at "d"
      intro pt hpt
      obtain ⟨bpt, npt⟩ := dw4.free hpt
      have nept : pe ≠ pt := fun z => by rw [← z, l1] at hpt; cases hpt
      refine draw_use (dw4.new hpt) 3 (by decide) (by decide) fun kd H2 hkd dw5 keep2 => ?_
      have l2 : H2 pe = some (.lst (ps.map eP)) := by rw [keep2 _ npe, updD_ne nept, l1]
      have l3 : H2 pt = some (.lst []) := by rw [keep2 _ npt, updD_same]
      simp only [show eN kd = D.int ((kd : Nat) : Int) from rfl]
      refine forE ps eP (G := fun h => h pe = some (.lst (ps.map eP))) (fun i s h' => ∃ (es : List Ed) (x8 x9 x10 : Option D), s = [some (.loc dl), some (.int (most : Nat)), some (.int (n : Nat)), some (.loc pe), x4, x5, some (.loc pt), some (.int (kd : Nat)), x8, x9, x10, x11] ∧
        Dw b dl sl ns h' ∧ h' pe = some (.lst (ps.map eP)) ∧ h' pt = some (.lst (es.map eE)) ∧ es.length = i ∧ ∀ e ∈ es, OkE n e ∧ e.t ≤ 7) (fun r hr => by (try simp only [startD, dSeq, dNext, dIfS, dRet, dRetN, dDrop, dAsg, pName, dOp, dUn, dVar, dC, dCons, dNil, dCB, dTest, dTru, truD, dAnd, dOr, dNot, dIf, dPar, dAug, dI0, dII, dI1, dAbs, dInt, dCall, dIx, dTup, dEqS, eqS, dNeS, dAndV, dOrV, dNotV, dIsi, dLen, lenD, dSl, dCut, dPart, dNoPart, dCL, dlLst, dNew, dLst, dAdd, dMul, dIsN, dNotN, nonD, dSet, dPut, eLen, eTuple, eAll, eAny, eSum, eMax, eMin, dTuple, dTupR1, dYes, dIxL, dlCatVL, dlCatLV, dlCatLL, dlRep, dIterL, dSeqI, dRng1, dRng2, dEnum, pTup, setAll, wipeD, dMt, dMt0, tyM, dAppend, dlRg1, dlRg2, dNewK, dNewT, dRev, dRaise, dDisp1, dZip, dTry, dTryAs, dBreak, dCont,   ty_int, ty_bl, ty_str, ty_non, ty_tup, mem_int, mem_bool, mem_str, mem_tuple, mem_list, isTy_self, isTy_bool_int, isTy_int_bool, isTy_int_tuple, isTy_int_list, isTy_int_str, isTy_bool_tuple, isTy_bool_list, isTy_bool_str, isTy_str_bool, isTy_str_int, isTy_str_tuple, isTy_str_list, isTy_non_tuple, isTy_non_list, isTy_non_str, isTy_non_int, isTy_non_bool, isTy_tup_list, isTy_tup_int, isTy_tup_str, isTy_tup_bool, isTy_list_tup, isTy_list_int, isTy_list_bool, isTy_list_str,   sp1, sp2, sp3, sp4, sp5, sp6, updD_same, updD_updD, List.map_cons, List.map_nil, List.length_cons, List.length_nil, List.set_cons_zero, List.set_cons_succ, List.getElem?_cons_zero, List.getElem?_cons_succ, List.cons_append, List.nil_append, Nat.reduceAdd, Nat.reduceSub, List.replicate, Nat.sub_self, decide_eq_true_eq, Bool.not_eq_true', decide_eq_false_iff_not, decide_true, decide_false, Bool.not_true, Bool.not_false, Bool.false_eq_true, Bool.true_eq_false, if_true, if_false, reduceIte, true_and, and_true, List.isEmpty_nil, List.isEmpty_cons, List.flatten_cons, List.flatten_nil, at_0, at_1, at_2, at_3, at_4, at_5, at_6, at_7, at_m1_1, at_m1_2, at_m1_3, at_m1_4, at_m1_5, at_m1_6, nc_0, nc_1, nc_2, nc_3, nc_4, nc_5, nc_6, nc_7, nc_8, nc_9, nc_10, nc_11, nc_12, len_map, not_true_eq_false, not_false_eq_true, ite_true, ite_false, Int.reduceEq, Int.reduceNe, Int.reduceLT, Int.reduceLE, Nat.reduceEqDiff, Option.some.injEq, true_implies, forall_const, sz_0, sz_1, sz_2, sz_3, sz_4, sz_5, sz_6, sz_7, sz_8, sz_9, sz_10, sz_11, sz_12, sz_13, sz_14, sz_15, sz_16, sz_17, sz_18, sz_19, sz_20, int_whole, ix_4_1, ix_4_2, ix_4_3, l2]); exact hr) ⟨[], none, none, none, rfl, dw5, l2, l3, rfl, fun e he => by cases he⟩ (fun i s h' _ z => by obtain ⟨_, _, _, _, _, _, z, _⟩ := z; exact z) ?_ ?_
      · rintro i p s h' hp ⟨es, x8, x9, x10, rfl, dw6, l4, l5, hes, hok⟩
        obtain ⟨p1, p2⟩ := p
        have hpm := hps _ (List.mem_of_getElem? hp)
        simp only [eP, pTup, setAll, List.set_cons_zero, List.set_cons_succ, List.length_cons, List.length_nil]
        refine ⟨trivial, ?_⟩
        refine seq_mid (fun s h' => ∃ tk : Nat, tk ≤ 7 ∧ s = [some (.loc dl), some (.int (most : Nat)), some (.int (n : Nat)), some (.loc pe), x4, x5, some (.loc pt), some (.int (kd : Nat)), some (eN p1), some (eN p2), some (.int (tk : Nat)), x11] ∧ Dw b dl sl ns h' ∧ h' pe = some (.lst (ps.map eP)) ∧ h' pt = some (.lst (es.map eE))) (fun B hB => ?_) ?_
        · walk_at "d"
          refine draw_use dw6 6 (by decide) (by decide) fun v3 H3 hv3 dw7 keep3 => ?_
          have l6 : H3 pe = some (.lst (ps.map eP)) := by rw [keep3 _ npe, l4]
          have l7 : H3 pt = some (.lst (es.map eE)) := by rw [keep3 _ npt, l5]
          obtain ⟨tk, htk, ek⟩ : ∃ c : Nat, c ≤ 7 ∧ atI [D.int 0, D.int 0, D.int 1, D.int 1, D.int 2, D.int 7] ((v3 : Nat) : Int) = some (D.int (c : Nat)) := by
            match v3, hv3 with
            | 0, _ => exact ⟨0, by omega, rfl⟩
            | 1, _ => exact ⟨0, by omega, rfl⟩
            | 2, _ => exact ⟨1, by omega, rfl⟩
            | 3, _ => exact ⟨1, by omega, rfl⟩
            | 4, _ => exact ⟨2, by omega, rfl⟩
            | 5, _ => exact ⟨7, by omega, rfl⟩
          simp only [show eN v3 = D.int ((v3 : Nat) : Int) from rfl]
          (try simp only [startD, dSeq, dNext, dIfS, dRet, dRetN, dDrop, dAsg, pName, dOp, dUn, dVar, dC, dCons, dNil, dCB, dTest, dTru, truD, dAnd, dOr, dNot, dIf, dPar, dAug, dI0, dII, dI1, dAbs, dInt, dCall, dIx, dTup, dEqS, eqS, dNeS, dAndV, dOrV, dNotV, dIsi, dLen, lenD, dSl, dCut, dPart, dNoPart, dCL, dlLst, dNew, dLst, dAdd, dMul, dIsN, dNotN, nonD, dSet, dPut, eLen, eTuple, eAll, eAny, eSum, eMax, eMin, dTuple, dTupR1, dYes, dIxL, dlCatVL, dlCatLV, dlCatLL, dlRep, dIterL, dSeqI, dRng1, dRng2, dEnum, pTup, setAll, wipeD, dMt, dMt0, tyM, dAppend, dlRg1, dlRg2, dNewK, dNewT, dRev, dRaise, dDisp1, dZip, dTry, dTryAs, dBreak, dCont,   ty_int, ty_bl, ty_str, ty_non, ty_tup, mem_int, mem_bool, mem_str, mem_tuple, mem_list, isTy_self, isTy_bool_int, isTy_int_bool, isTy_int_tuple, isTy_int_list, isTy_int_str, isTy_bool_tuple, isTy_bool_list, isTy_bool_str, isTy_str_bool, isTy_str_int, isTy_str_tuple, isTy_str_list, isTy_non_tuple, isTy_non_list, isTy_non_str, isTy_non_int, isTy_non_bool, isTy_tup_list, isTy_tup_int, isTy_tup_str, isTy_tup_bool, isTy_list_tup, isTy_list_int, isTy_list_bool, isTy_list_str,   sp1, sp2, sp3, sp4, sp5, sp6, updD_same, updD_updD, List.map_cons, List.map_nil, List.length_cons, List.length_nil, List.set_cons_zero, List.set_cons_succ, List.getElem?_cons_zero, List.getElem?_cons_succ, List.cons_append, List.nil_append, Nat.reduceAdd, Nat.reduceSub, List.replicate, Nat.sub_self, decide_eq_true_eq, Bool.not_eq_true', decide_eq_false_iff_not, decide_true, decide_false, Bool.not_true, Bool.not_false, Bool.false_eq_true, Bool.true_eq_false, if_true, if_false, reduceIte, true_and, and_true, List.isEmpty_nil, List.isEmpty_cons, List.flatten_cons, List.flatten_nil, at_0, at_1, at_2, at_3, at_4, at_5, at_6, at_7, at_m1_1, at_m1_2, at_m1_3, at_m1_4, at_m1_5, at_m1_6, nc_0, nc_1, nc_2, nc_3, nc_4, nc_5, nc_6, nc_7, nc_8, nc_9, nc_10, nc_11, nc_12, len_map, not_true_eq_false, not_false_eq_true, ite_true, ite_false, Int.reduceEq, Int.reduceNe, Int.reduceLT, Int.reduceLE, Nat.reduceEqDiff, Option.some.injEq, true_implies, forall_const, sz_0, sz_1, sz_2, sz_3, sz_4, sz_5, sz_6, sz_7, sz_8, sz_9, sz_10, sz_11, sz_12, sz_13, sz_14, sz_15, sz_16, sz_17, sz_18, sz_19, sz_20, int_whole, ix_4_1, ix_4_2, ix_4_3, ek])
          exact hB _ _ ⟨tk, htk, rfl, dw7, l6, l7⟩
        · rintro s h' ⟨tk, htk, rfl, dw7, l6, l7⟩
          refine seq_mid (fun s h' => ∃ tk : Nat, tk ≤ 7 ∧ s = [some (.loc dl), some (.int (most : Nat)), some (.int (n : Nat)), some (.loc pe), x4, x5, some (.loc pt), some (.int (kd : Nat)), some (eN p1), some (eN p2), some (.int (tk : Nat)), x11] ∧ Dw b dl sl ns h' ∧ h' pe = some (.lst (ps.map eP)) ∧ h' pt = some (.lst (es.map eE))) (fun B hB => ?_) ?_
          · simp only [show eN p1 = D.int ((p1 : Nat) : Int) from rfl, show eN p2 = D.int ((p2 : Nat) : Int) from rfl]
            walk_at "d"
            split
            · split
              · split
                · refine draw_use dw7 3 (by decide) (by decide) fun v4 H4 hv4 dw8 keep4 => ?_
                  simp only [show eN v4 = D.int ((v4 : Nat) : Int) from rfl]
                  walk_at "d"
                  exact hB _ _ ⟨1 + v4, by omega, rfl, dw8, by rw [keep4 _ npe, l6], by rw [keep4 _ npt, l7]⟩
                · exact hB _ _ ⟨tk, htk, rfl, dw7, l6, l7⟩
              · exact hB _ _ ⟨tk, htk, rfl, dw7, l6, l7⟩
            · exact hB _ _ ⟨tk, htk, rfl, dw7, l6, l7⟩
          · clear tk htk dw7 l6 l7
            rintro s h' ⟨tk, htk, rfl, dw7, l6, l7⟩
            (try simp only [startD, dSeq, dNext, dIfS, dRet, dRetN, dDrop, dAsg, pName, dOp, dUn, dVar, dC, dCons, dNil, dCB, dTest, dTru, truD, dAnd, dOr, dNot, dIf, dPar, dAug, dI0, dII, dI1, dAbs, dInt, dCall, dIx, dTup, dEqS, eqS, dNeS, dAndV, dOrV, dNotV, dIsi, dLen, lenD, dSl, dCut, dPart, dNoPart, dCL, dlLst, dNew, dLst, dAdd, dMul, dIsN, dNotN, nonD, dSet, dPut, eLen, eTuple, eAll, eAny, eSum, eMax, eMin, dTuple, dTupR1, dYes, dIxL, dlCatVL, dlCatLV, dlCatLL, dlRep, dIterL, dSeqI, dRng1, dRng2, dEnum, pTup, setAll, wipeD, dMt, dMt0, tyM, dAppend, dlRg1, dlRg2, dNewK, dNewT, dRev, dRaise, dDisp1, dZip, dTry, dTryAs, dBreak, dCont,   ty_int, ty_bl, ty_str, ty_non, ty_tup, mem_int, mem_bool, mem_str, mem_tuple, mem_list, isTy_self, isTy_bool_int, isTy_int_bool, isTy_int_tuple, isTy_int_list, isTy_int_str, isTy_bool_tuple, isTy_bool_list, isTy_bool_str, isTy_str_bool, isTy_str_int, isTy_str_tuple, isTy_str_list, isTy_non_tuple, isTy_non_list, isTy_non_str, isTy_non_int, isTy_non_bool, isTy_tup_list, isTy_tup_int, isTy_tup_str, isTy_tup_bool, isTy_list_tup, isTy_list_int, isTy_list_bool, isTy_list_str,   sp1, sp2, sp3, sp4, sp5, sp6, updD_same, updD_updD, List.map_cons, List.map_nil, List.length_cons, List.length_nil, List.set_cons_zero, List.set_cons_succ, List.getElem?_cons_zero, List.getElem?_cons_succ, List.cons_append, List.nil_append, Nat.reduceAdd, Nat.reduceSub, List.replicate, Nat.sub_self, decide_eq_true_eq, Bool.not_eq_true', decide_eq_false_iff_not, decide_true, decide_false, Bool.not_true, Bool.not_false, Bool.false_eq_true, Bool.true_eq_false, if_true, if_false, reduceIte, true_and, and_true, List.isEmpty_nil, List.isEmpty_cons, List.flatten_cons, List.flatten_nil, at_0, at_1, at_2, at_3, at_4, at_5, at_6, at_7, at_m1_1, at_m1_2, at_m1_3, at_m1_4, at_m1_5, at_m1_6, nc_0, nc_1, nc_2, nc_3, nc_4, nc_5, nc_6, nc_7, nc_8, nc_9, nc_10, nc_11, nc_12, len_map, not_true_eq_false, not_false_eq_true, ite_true, ite_false, Int.reduceEq, Int.reduceNe, Int.reduceLT, Int.reduceLE, Nat.reduceEqDiff, Option.some.injEq, true_implies, forall_const, sz_0, sz_1, sz_2, sz_3, sz_4, sz_5, sz_6, sz_7, sz_8, sz_9, sz_10, sz_11, sz_12, sz_13, sz_14, sz_15, sz_16, sz_17, sz_18, sz_19, sz_20, int_whole, ix_4_1, ix_4_2, ix_4_3, l7])
            refine draw_use dw7 3 (by decide) (by decide) fun v4 H4 hv4 dw8 keep4 => ?_
            obtain ⟨lm, hlm0, hlm, el⟩ : ∃ c : Nat, 0 < c ∧ c ≤ 100 ∧ atI [D.int 3, D.int 9, D.int 100] ((v4 : Nat) : Int) = some (D.int (c : Nat)) := by
              match v4, hv4 with
              | 0, _ => exact ⟨3, by omega, by omega, rfl⟩
              | 1, _ => exact ⟨9, by omega, by omega, rfl⟩
              | 2, _ => exact ⟨100, by omega, by omega, rfl⟩
            simp only [show eN v4 = D.int ((v4 : Nat) : Int) from rfl]
            (try simp only [startD, dSeq, dNext, dIfS, dRet, dRetN, dDrop, dAsg, pName, dOp, dUn, dVar, dC, dCons, dNil, dCB, dTest, dTru, truD, dAnd, dOr, dNot, dIf, dPar, dAug, dI0, dII, dI1, dAbs, dInt, dCall, dIx, dTup, dEqS, eqS, dNeS, dAndV, dOrV, dNotV, dIsi, dLen, lenD, dSl, dCut, dPart, dNoPart, dCL, dlLst, dNew, dLst, dAdd, dMul, dIsN, dNotN, nonD, dSet, dPut, eLen, eTuple, eAll, eAny, eSum, eMax, eMin, dTuple, dTupR1, dYes, dIxL, dlCatVL, dlCatLV, dlCatLL, dlRep, dIterL, dSeqI, dRng1, dRng2, dEnum, pTup, setAll, wipeD, dMt, dMt0, tyM, dAppend, dlRg1, dlRg2, dNewK, dNewT, dRev, dRaise, dDisp1, dZip, dTry, dTryAs, dBreak, dCont,   ty_int, ty_bl, ty_str, ty_non, ty_tup, mem_int, mem_bool, mem_str, mem_tuple, mem_list, isTy_self, isTy_bool_int, isTy_int_bool, isTy_int_tuple, isTy_int_list, isTy_int_str, isTy_bool_tuple, isTy_bool_list, isTy_bool_str, isTy_str_bool, isTy_str_int, isTy_str_tuple, isTy_str_list, isTy_non_tuple, isTy_non_list, isTy_non_str, isTy_non_int, isTy_non_bool, isTy_tup_list, isTy_tup_int, isTy_tup_str, isTy_tup_bool, isTy_list_tup, isTy_list_int, isTy_list_bool, isTy_list_str,   sp1, sp2, sp3, sp4, sp5, sp6, updD_same, updD_updD, List.map_cons, List.map_nil, List.length_cons, List.length_nil, List.set_cons_zero, List.set_cons_succ, List.getElem?_cons_zero, List.getElem?_cons_succ, List.cons_append, List.nil_append, Nat.reduceAdd, Nat.reduceSub, List.replicate, Nat.sub_self, decide_eq_true_eq, Bool.not_eq_true', decide_eq_false_iff_not, decide_true, decide_false, Bool.not_true, Bool.not_false, Bool.false_eq_true, Bool.true_eq_false, if_true, if_false, reduceIte, true_and, and_true, List.isEmpty_nil, List.isEmpty_cons, List.flatten_cons, List.flatten_nil, at_0, at_1, at_2, at_3, at_4, at_5, at_6, at_7, at_m1_1, at_m1_2, at_m1_3, at_m1_4, at_m1_5, at_m1_6, nc_0, nc_1, nc_2, nc_3, nc_4, nc_5, nc_6, nc_7, nc_8, nc_9, nc_10, nc_11, nc_12, len_map, not_true_eq_false, not_false_eq_true, ite_true, ite_false, Int.reduceEq, Int.reduceNe, Int.reduceLT, Int.reduceLE, Nat.reduceEqDiff, Option.some.injEq, true_implies, forall_const, sz_0, sz_1, sz_2, sz_3, sz_4, sz_5, sz_6, sz_7, sz_8, sz_9, sz_10, sz_11, sz_12, sz_13, sz_14, sz_15, sz_16, sz_17, sz_18, sz_19, sz_20, int_whole, ix_4_1, ix_4_2, ix_4_3, el])
            refine draw_use dw8 lm (by omega) (by omega) fun nu H5 hnu dw9 keep5 => ?_
            walk_at "d"
            refine draw_use dw9 4 (by decide) (by decide) fun de H6 hde dw10 keep6 => ?_
            have l8 : H6 pe = some (.lst (ps.map eP)) := by rw [keep6 _ npe, keep5 _ npe, keep4 _ npe, l6]
            have l9 : H6 pt = some (.lst (es.map eE)) := by rw [keep6 _ npt, keep5 _ npt, keep4 _ npt, l7]
            simp only [show eN nu = D.int ((nu : Nat) : Int) from rfl, show eN de = D.int ((de : Nat) : Int) from rfl]
            walk_at "d"
            refine ⟨_, _, rfl, rfl, by omega, by omega, ?_⟩
            (try simp only [startD, dSeq, dNext, dIfS, dRet, dRetN, dDrop, dAsg, pName, dOp, dUn, dVar, dC, dCons, dNil, dCB, dTest, dTru, truD, dAnd, dOr, dNot, dIf, dPar, dAug, dI0, dII, dI1, dAbs, dInt, dCall, dIx, dTup, dEqS, eqS, dNeS, dAndV, dOrV, dNotV, dIsi, dLen, lenD, dSl, dCut, dPart, dNoPart, dCL, dlLst, dNew, dLst, dAdd, dMul, dIsN, dNotN, nonD, dSet, dPut, eLen, eTuple, eAll, eAny, eSum, eMax, eMin, dTuple, dTupR1, dYes, dIxL, dlCatVL, dlCatLV, dlCatLL, dlRep, dIterL, dSeqI, dRng1, dRng2, dEnum, pTup, setAll, wipeD, dMt, dMt0, tyM, dAppend, dlRg1, dlRg2, dNewK, dNewT, dRev, dRaise, dDisp1, dZip, dTry, dTryAs, dBreak, dCont,   ty_int, ty_bl, ty_str, ty_non, ty_tup, mem_int, mem_bool, mem_str, mem_tuple, mem_list, isTy_self, isTy_bool_int, isTy_int_bool, isTy_int_tuple, isTy_int_list, isTy_int_str, isTy_bool_tuple, isTy_bool_list, isTy_bool_str, isTy_str_bool, isTy_str_int, isTy_str_tuple, isTy_str_list, isTy_non_tuple, isTy_non_list, isTy_non_str, isTy_non_int, isTy_non_bool, isTy_tup_list, isTy_tup_int, isTy_tup_str, isTy_tup_bool, isTy_list_tup, isTy_list_int, isTy_list_bool, isTy_list_str,   sp1, sp2, sp3, sp4, sp5, sp6, updD_same, updD_updD, List.map_cons, List.map_nil, List.length_cons, List.length_nil, List.set_cons_zero, List.set_cons_succ, List.getElem?_cons_zero, List.getElem?_cons_succ, List.cons_append, List.nil_append, Nat.reduceAdd, Nat.reduceSub, List.replicate, Nat.sub_self, decide_eq_true_eq, Bool.not_eq_true', decide_eq_false_iff_not, decide_true, decide_false, Bool.not_true, Bool.not_false, Bool.false_eq_true, Bool.true_eq_false, if_true, if_false, reduceIte, true_and, and_true, List.isEmpty_nil, List.isEmpty_cons, List.flatten_cons, List.flatten_nil, at_0, at_1, at_2, at_3, at_4, at_5, at_6, at_7, at_m1_1, at_m1_2, at_m1_3, at_m1_4, at_m1_5, at_m1_6, nc_0, nc_1, nc_2, nc_3, nc_4, nc_5, nc_6, nc_7, nc_8, nc_9, nc_10, nc_11, nc_12, len_map, not_true_eq_false, not_false_eq_true, ite_true, ite_false, Int.reduceEq, Int.reduceNe, Int.reduceLT, Int.reduceLE, Nat.reduceEqDiff, Option.some.injEq, true_implies, forall_const, sz_0, sz_1, sz_2, sz_3, sz_4, sz_5, sz_6, sz_7, sz_8, sz_9, sz_10, sz_11, sz_12, sz_13, sz_14, sz_15, sz_16, sz_17, sz_18, sz_19, sz_20, int_whole, ix_4_1, ix_4_2, ix_4_3, l9])
            have hi := (List.getElem?_eq_some_iff.mp hp).1
            have okr : OkR (nrm (nu : Int) (1 + (de : Nat))) := ok_nrm (by omega) (by omega) (by
              match de, hde with
              | 0, _ => decide
              | 1, _ => decide
              | 2, _ => decide
              | 3, _ => decide)
            refine ⟨sz_lt' (by omega), es ++ [⟨p1, p2, tk, nrm nu (1 + (de : Nat))⟩], _, _, _, rfl, dw10.mut bpt npt, by rw [updD_ne nept, l8], by rw [List.map_append]; rfl, by rw [List.length_append, hes]; rfl, fun e he => ?_⟩
            rcases List.mem_append.mp he with h | h
            · exact hok e h
            · have : e = ⟨p1, p2, tk, nrm nu (1 + (de : Nat))⟩ := by simpa using h
              rw [this]
              exact ⟨⟨hpm.1, hpm.2, okr⟩, htk⟩
      · rintro s h' ⟨es, x8, x9, x10, rfl, dw6, l4, l5, hes, hok⟩
        (try simp only [startD, dSeq, dNext, dIfS, dRet, dRetN, dDrop, dAsg, pName, dOp, dUn, dVar, dC, dCons, dNil, dCB, dTest, dTru, truD, dAnd, dOr, dNot, dIf, dPar, dAug, dI0, dII, dI1, dAbs, dInt, dCall, dIx, dTup, dEqS, eqS, dNeS, dAndV, dOrV, dNotV, dIsi, dLen, lenD, dSl, dCut, dPart, dNoPart, dCL, dlLst, dNew, dLst, dAdd, dMul, dIsN, dNotN, nonD, dSet, dPut, eLen, eTuple, eAll, eAny, eSum, eMax, eMin, dTuple, dTupR1, dYes, dIxL, dlCatVL, dlCatLV, dlCatLL, dlRep, dIterL, dSeqI, dRng1, dRng2, dEnum, pTup, setAll, wipeD, dMt, dMt0, tyM, dAppend, dlRg1, dlRg2, dNewK, dNewT, dRev, dRaise, dDisp1, dZip, dTry, dTryAs, dBreak, dCont,   ty_int, ty_bl, ty_str, ty_non, ty_tup, mem_int, mem_bool, mem_str, mem_tuple, mem_list, isTy_self, isTy_bool_int, isTy_int_bool, isTy_int_tuple, isTy_int_list, isTy_int_str, isTy_bool_tuple, isTy_bool_list, isTy_bool_str, isTy_str_bool, isTy_str_int, isTy_str_tuple, isTy_str_list, isTy_non_tuple, isTy_non_list, isTy_non_str, isTy_non_int, isTy_non_bool, isTy_tup_list, isTy_tup_int, isTy_tup_str, isTy_tup_bool, isTy_list_tup, isTy_list_int, isTy_list_bool, isTy_list_str,   sp1, sp2, sp3, sp4, sp5, sp6, updD_same, updD_updD, List.map_cons, List.map_nil, List.length_cons, List.length_nil, List.set_cons_zero, List.set_cons_succ, List.getElem?_cons_zero, List.getElem?_cons_succ, List.cons_append, List.nil_append, Nat.reduceAdd, Nat.reduceSub, List.replicate, Nat.sub_self, decide_eq_true_eq, Bool.not_eq_true', decide_eq_false_iff_not, decide_true, decide_false, Bool.not_true, Bool.not_false, Bool.false_eq_true, Bool.true_eq_false, if_true, if_false, reduceIte, true_and, and_true, List.isEmpty_nil, List.isEmpty_cons, List.flatten_cons, List.flatten_nil, at_0, at_1, at_2, at_3, at_4, at_5, at_6, at_7, at_m1_1, at_m1_2, at_m1_3, at_m1_4, at_m1_5, at_m1_6, nc_0, nc_1, nc_2, nc_3, nc_4, nc_5, nc_6, nc_7, nc_8, nc_9, nc_10, nc_11, nc_12, len_map, not_true_eq_false, not_false_eq_true, ite_true, ite_false, Int.reduceEq, Int.reduceNe, Int.reduceLT, Int.reduceLE, Nat.reduceEqDiff, Option.some.injEq, true_implies, forall_const, sz_0, sz_1, sz_2, sz_3, sz_4, sz_5, sz_6, sz_7, sz_8, sz_9, sz_10, sz_11, sz_12, sz_13, sz_14, sz_15, sz_16, sz_17, sz_18, sz_19, sz_20, int_whole, ix_4_1, ix_4_2, ix_4_3, l5])
        obtain ⟨_, _, d', i0, b0, sb⟩ := dw6
        refine ⟨_, sb, hq (n, es) d' ⟨?_, ?_, ?_, ?_, ?_⟩ i0 b0⟩
        · show 0 < n
          omega
        · show n ≤ most
          omega
        · show es.length ≤ 3 * most
          omega
        · exact fun e he => (hok e he).1
        · exact fun e he => (hok e he).2
end
end K

set_option Elab.async false
set_option linter.all false
set_option maxRecDepth 100000
set_option maxHeartbeats 4000000
namespace K
open PySem PySem.Spec PyProof.Rows L2 DL
local macro_rules | `(tactic| walk_at "d") => `(tactic| (try simp only [startD, dSeq, dNext, dIfS, dRet, dRetN, dDrop, dAsg, pName, dOp, dUn, dVar, dC, dCons, dNil, dCB, dTest, dTru, truD, dAnd, dOr, dNot, dIf, dPar, dAug, dI0, dII, dI1, dAbs, dInt, dCall, dIx, dTup, dEqS, eqS, dNeS, dAndV, dOrV, dNotV, dIsi, dLen, lenD, dSl, dCut, dPart, dNoPart, dCL, dlLst, dNew, dLst, dAdd, dMul, dIsN, dNotN, nonD, dSet, dPut, eLen, eTuple, eAll, eAny, eSum, eMax, eMin, dTuple, dTupR1, dYes, dIxL, dlCatVL, dlCatLV, dlCatLL, dlRep, dIterL, dSeqI, dRng1, dRng2, dEnum, pTup, setAll, wipeD, dMt, dMt0, tyM, dAppend, dlRg1, dlRg2, dNewK, dNewT, dRev, dRaise, dDisp1, dZip, dTry, dTryAs, dBreak, dCont,
  ty_int, ty_bl, ty_str, ty_non, ty_tup, mem_int, mem_bool, mem_str, mem_tuple, mem_list, isTy_self, isTy_bool_int, isTy_int_bool, isTy_int_tuple, isTy_int_list, isTy_int_str, isTy_bool_tuple, isTy_bool_list, isTy_bool_str, isTy_str_bool, isTy_str_int, isTy_str_tuple, isTy_str_list, isTy_non_tuple, isTy_non_list, isTy_non_str, isTy_non_int, isTy_non_bool, isTy_tup_list, isTy_tup_int, isTy_tup_str, isTy_tup_bool, isTy_list_tup, isTy_list_int, isTy_list_bool, isTy_list_str,
  sp1, sp2, sp3, sp4, sp5, sp6, updD_same, updD_updD, List.map_cons, List.map_nil, List.length_cons, List.length_nil, List.set_cons_zero, List.set_cons_succ, List.getElem?_cons_zero, List.getElem?_cons_succ, List.cons_append, List.nil_append, Nat.reduceAdd, Nat.reduceSub, List.replicate, Nat.sub_self, decide_eq_true_eq, Bool.not_eq_true', decide_eq_false_iff_not, decide_true, decide_false, Bool.not_true, Bool.not_false, Bool.false_eq_true, Bool.true_eq_false, if_true, if_false, reduceIte, true_and, and_true, List.isEmpty_nil, List.isEmpty_cons, List.flatten_cons, List.flatten_nil, at_0, at_1, at_2, at_3, at_4, at_5, at_6, at_7, at_m1_1, at_m1_2, at_m1_3, at_m1_4, at_m1_5, at_m1_6, nc_0, nc_1, nc_2, nc_3, nc_4, nc_5, nc_6, nc_7, nc_8, nc_9, nc_10, nc_11, nc_12, len_map, not_true_eq_false, not_false_eq_true, ite_true, ite_false, Int.reduceEq, Int.reduceNe, Int.reduceLT, Int.reduceLE, Nat.reduceEqDiff, Option.some.injEq, true_implies, forall_const, sz_0, sz_1, sz_2, sz_3, sz_4, sz_5, sz_6, sz_7, sz_8, sz_9, sz_10, sz_11, sz_12, sz_13, sz_14, sz_15, sz_16, sz_17, sz_18, sz_19, sz_20, int_whole, ix_4_1, ix_4_2, ix_4_3]))
/-- nodes that no others have to wait for in a ring, by ranks -/
def Ranked (g : Gr) (L : List Nat) : Prop := (∀ v ∈ L, v < g.1) ∧ ∃ ρ : Nat → Nat, ∀ e ∈ g.2, e.t = 0 → ¬ (e.a ∈ L ∧ e.b ∈ L) → ρ e.a < ρ e.b
/-- each node of L has an empty edge into it from a node of L -/
def Dead (g : Gr) (L : List Nat) : Prop := ∀ v ∈ L, ∃ e ∈ g.2, e.b = v ∧ e.t = 0 ∧ e.a ∈ L
def sp__law_stuck : DSp := sp1 fun a h q _ => ∃ g, a = eG g ∧ WF g ∧ ∀ L p, Ranked g L → Dead g L → L.length ≤ g.1 → h p = none → q (.loc p) (updD h p (.lst (L.map eN)))
/-- tokens on the edges among the nodes of L -/
def laid (L : List Nat) (e : Ed) : Ed := { e with t := max e.t (if e.a ∈ L ∧ e.b ∈ L then 1 else 0) }
def sp__law_live_graph : DSp := sp2 fun a c h q _ => ∃ dl sl ns d most, a = .loc dl ∧ c = .int (most : Nat) ∧ 0 < most ∧ most ≤ 300 ∧ IsDr h dl sl ns d ∧ ∀ g d', GrOk most g → (∃ rk, LiveG g rk) → 0 ≤ Dr.i d' → 0 ≤ Dr.b d' → q (eG g) (updD h dl (drL sl d'))
theorem laid_live {g : Gr} {L : List Nat} (hw : WF g) (r : Ranked g L) : ∃ rk, LiveG (g.1, g.2.map (laid L)) rk := by
  obtain ⟨hL, ρ, hρ⟩ := r
  have get : ∀ v, v < g.1 → ((List.range g.1).map fun v => some (ρ v : Int))[v]? = some (some (ρ v : Int)) := fun v hv => by
    rw [List.getElem?_map, List.getElem?_range hv]; rfl
  refine ⟨(List.range g.1).map fun v => some (ρ v : Int), ⟨by simp, fun v r hr => ?_, fun v hv hn => absurd (List.mem_range.mpr hn) hv, fun e he ht ha r hr => ?_⟩, fun v hv => ?_⟩
  · rw [List.getElem?_map] at hr
    cases hx : (List.range g.1)[v]? with
    | none => rw [hx] at hr; cases hr
    | some x =>
      rw [hx] at hr
      have : (ρ x : Int) = r := by simpa using hr
      omega
  · obtain ⟨e', he', rfl⟩ := List.mem_map.mp he
    have ho := hw.es e' he'
    have h1 : e'.t = 0 ∧ ¬ (e'.a ∈ L ∧ e'.b ∈ L) := by
      unfold laid at ht
      simp only at ht
      split at ht
      · omega
      · rename_i hn; exact ⟨by omega, hn⟩
    have h2 := hρ e' he' h1.1 h1.2
    have hb : ((List.range g.1).map fun v => some (ρ v : Int))[e'.b]? = some (some r) := hr
    rw [get _ ho.b] at hb
    refine ⟨(ρ e'.a : Int), get _ ho.a, ?_⟩
    have : (ρ e'.b : Int) = r := by simpa using hb
    omega
  · have hv := List.mem_range.mp hv
    show ((List.range g.1).map fun v => some (ρ v : Int))[v]? ≠ some none
    rw [get v hv]
    simp
theorem Sub.at' {h h1 : DH} {p : Addr} {u : DO} (s : DL.Sub h h1) (e : h1 p = some u) : DL.Sub (updD h p u) h1 := fun a w q => by
  unfold updD at q
  split at q
  · rename_i z; cases q; rw [z]; exact e
  · exact s a w q
theorem dmax2 {i j : Nat} {h : DH} {q : DK} (z : q (.int ((max i j : Nat) : Int)) h) : dMax [.int (i : Nat), .int (j : Nat)] h q := by
  show q (.int (if ((j : Nat) : Int) > (i : Nat) then ((j : Nat) : Int) else (i : Nat))) h
  have : (if ((j : Nat) : Int) > (i : Nat) then ((j : Nat) : Int) else (i : Nat)) = ((max i j : Nat) : Int) := by split <;> omega
  rw [this]; exact z
section
variable {P : Program} {w : World} {K : PySem.W.Frag} {mg : Str → Option Value} {base : Heap} {C_DelayError C_BadNet : Addr}
theorem h__law_stuck (T : Txt K mg C_DelayError C_BadNet) : Has P w K mg base "_law_stuck" (2) ["graph"] (sp__law_stuck) := by
  refine has_of T.a__law_stuck fun f fd F => okD F sc__law_stuck len1 fun cdv A outer s H E b ds q xx hr tk hsp => ?_
  refine ⟨_, (dss_cons (ds_set (i := 1) sc__law_stuck.nd rfl (Or.inr rfl) (de_new (dl_rg1 rfl (by rfl) T.m_list (by rfl) T.m_range (de_ix (hu_of hr) (de_var (pv 0)) de_int (fun _ _ => rfl)))))
  (dss_cons (ds_set (i := 2) sc__law_stuck.nd rfl (Or.inl rfl) de_bl)
  (dss_cons (ds_while (passes_of rfl) (dt_tru (de_var (pv 2))) (dss_cons (ds_set (i := 3) sc__law_stuck.nd rfl (Or.inr rfl) (de_new (dl_lc (own := [("v", 4)]) rfl sc__law_stuck.nd (di_seq (de_var (pv 1))) (blkOk_by (own := [("v", 4)]) (N := ["graph", "left", "going", "free", "v", "a", "b", "tokens", "delay"]) (sc := defScope st__law_stuck) (by decide +kernel)) (ownG_name (by decide)) (fun _ _ _ _ _ => pg_name (i := 4) sc__law_stuck.nd rfl (Or.inr rfl)) (fun _ _ _ _ _ => dts_one (dt_eq (de_cl (pe_callB call_lenU (by rfl) T.m_len bt_len (one_l (dl_lc (own := [("a", 5), ("b", 6), ("tokens", 7), ("delay", 8)]) rfl sc__law_stuck.nd (di_seq (de_ix (hu_of hr) (de_var (pv 0)) de_int (fun _ _ => rfl))) (blkOk_by (own := [("a", 5), ("b", 6), ("tokens", 7), ("delay", 8)]) (N := ["graph", "left", "going", "free", "v", "a", "b", "tokens", "delay"]) (by rfl)) (ownG_tup (is := [5, 6, 7, 8]) (by decide)) (fun _ _ _ _ _ => (pg_tup (by rfl) (pgs_cons (pg_name (i := 5) sc__law_stuck.nd rfl (Or.inl rfl)) (pgs_cons (pg_name (i := 6) sc__law_stuck.nd rfl (Or.inl rfl)) (pgs_cons (pg_name (i := 7) sc__law_stuck.nd rfl (Or.inl rfl)) (pgs_cons (pg_name (i := 8) sc__law_stuck.nd rfl (Or.inl rfl)) pgs_nil)))))) (fun _ _ _ _ _ => dts_one (dt_w (dw_and (dt_eq (de_var (pv 6)) (de_var (pv 4))) (dw_and (dt_eq (de_var (pv 7)) de_int) (dw_and1 (dt_in (hu_of hr) (de_var (pv 5)) (de_var (pv 1)) (by rfl))))))) (fun _ _ _ _ _ => de_int)))) rlLen) de_int)) (fun _ _ _ _ _ => (de_var (pv 4))))))
    (dss_cons (ds_set (i := 1) sc__law_stuck.nd rfl (Or.inr rfl) (de_new (dl_lc (own := [("v", 4)]) rfl sc__law_stuck.nd (di_seq (de_var (pv 1))) (blkOk_by (own := [("v", 4)]) (N := ["graph", "left", "going", "free", "v", "a", "b", "tokens", "delay"]) (sc := defScope st__law_stuck) (by decide +kernel)) (ownG_name (by decide)) (fun _ _ _ _ _ => pg_name (i := 4) sc__law_stuck.nd rfl (Or.inl rfl)) (fun _ _ _ _ _ => dts_one (dt_notIn (hu_of hr) (de_var (pv 4)) (de_var (pv 3)) (by rfl))) (fun _ _ _ _ _ => (de_var (pv 4))))))
    (dss_one (ds_set (i := 2) sc__law_stuck.nd rfl (Or.inl rfl) (de_gt (de_cb (pe_callB call_lenU (by rfl) T.m_len bt_len (da_cons (de_var (pv 3)) da_nil)) refLen) de_int))))))
  (dss_one (ds_ret (de_var (pv 1))))))), ?_⟩
  obtain ⟨d0, rfl, hsp⟩ := inv1 hsp
  obtain ⟨g, rfl, hw, hq⟩ := hsp
  have hn := hw.n
  have hm := hw.m
  unfold eG
  walk_at "d"
  refine ⟨by omega, by omega, fun p hp => ?_⟩
  rw [rg0]
  refine whileP (fun m s h' => ∃ (L : List Nat) (pl : Addr) (k : Bool) (x3 x4 x5 x6 x7 x8 : Option D) (ρ : Nat → Nat) (R : Nat), s = [some (.tup [.int (g.1 : Nat), .tup (g.2.map eE)]), some (.loc pl), some (.bl k), x3, x4, x5, x6, x7, x8] ∧
    DL.Sub b h' ∧ b pl = none ∧ h' pl = some (.lst (L.map eN)) ∧ (∀ v ∈ L, v < g.1) ∧ L.length ≤ g.1 ∧ (∀ v, v ∉ L → ρ v < R) ∧ (∀ e ∈ g.2, e.t = 0 → e.b ∉ L → e.a ∉ L ∧ ρ e.a < ρ e.b) ∧ (k = false → Dead g L) ∧ m = 2 * L.length + (if k then 1 else 0)) _
    ⟨List.range g.1, p, true, none, none, none, none, none, none, fun _ => 0, 1, rfl, Sub.new hp, hp, updD_same, (fun v hv => List.mem_range.mp hv), by simp, (fun _ _ => Nat.zero_lt_one), (fun e he _ hb => absurd (List.mem_range.mpr (hw.es e he).b) hb), (fun z => nomatch z), rfl⟩ ?_
  rintro m s h' ⟨L, pl, k, x3, x4, x5, x6, x7, x8, ρ, R, rfl, s1, bpl, l1, hlt, hll, hρ1, hρ2, hdead, rfl⟩
  refine ⟨k, fun q hq => ?_, fun hk => ?_, fun hk => ?_⟩
  · walk_at "d"
    exact hq
  · subst hk
    walk_at "d"
    refine lcE L eN (G := fun h => h pl = some (.lst (L.map eN))) (fun v => decide ((g.2.filter fun e => decide (e.b = v) && (decide (e.t = 0) && decide (e.a ∈ L))).length = 0)) eN (fun r hr => by (try simp only [startD, dSeq, dNext, dIfS, dRet, dRetN, dDrop, dAsg, pName, dOp, dUn, dVar, dC, dCons, dNil, dCB, dTest, dTru, truD, dAnd, dOr, dNot, dIf, dPar, dAug, dI0, dII, dI1, dAbs, dInt, dCall, dIx, dTup, dEqS, eqS, dNeS, dAndV, dOrV, dNotV, dIsi, dLen, lenD, dSl, dCut, dPart, dNoPart, dCL, dlLst, dNew, dLst, dAdd, dMul, dIsN, dNotN, nonD, dSet, dPut, eLen, eTuple, eAll, eAny, eSum, eMax, eMin, dTuple, dTupR1, dYes, dIxL, dlCatVL, dlCatLV, dlCatLL, dlRep, dIterL, dSeqI, dRng1, dRng2, dEnum, pTup, setAll, wipeD, dMt, dMt0, tyM, dAppend, dlRg1, dlRg2, dNewK, dNewT, dRev, dRaise, dDisp1, dZip, dTry, dTryAs, dBreak, dCont,   ty_int, ty_bl, ty_str, ty_non, ty_tup, mem_int, mem_bool, mem_str, mem_tuple, mem_list, isTy_self, isTy_bool_int, isTy_int_bool, isTy_int_tuple, isTy_int_list, isTy_int_str, isTy_bool_tuple, isTy_bool_list, isTy_bool_str, isTy_str_bool, isTy_str_int, isTy_str_tuple, isTy_str_list, isTy_non_tuple, isTy_non_list, isTy_non_str, isTy_non_int, isTy_non_bool, isTy_tup_list, isTy_tup_int, isTy_tup_str, isTy_tup_bool, isTy_list_tup, isTy_list_int, isTy_list_bool, isTy_list_str,   sp1, sp2, sp3, sp4, sp5, sp6, updD_same, updD_updD, List.map_cons, List.map_nil, List.length_cons, List.length_nil, List.set_cons_zero, List.set_cons_succ, List.getElem?_cons_zero, List.getElem?_cons_succ, List.cons_append, List.nil_append, Nat.reduceAdd, Nat.reduceSub, List.replicate, Nat.sub_self, decide_eq_true_eq, Bool.not_eq_true', decide_eq_false_iff_not, decide_true, decide_false, Bool.not_true, Bool.not_false, Bool.false_eq_true, Bool.true_eq_false, if_true, if_false, reduceIte, true_and, and_true, List.isEmpty_nil, List.isEmpty_cons, List.flatten_cons, List.flatten_nil, at_0, at_1, at_2, at_3, at_4, at_5, at_6, at_7, at_m1_1, at_m1_2, at_m1_3, at_m1_4, at_m1_5, at_m1_6, nc_0, nc_1, nc_2, nc_3, nc_4, nc_5, nc_6, nc_7, nc_8, nc_9, nc_10, nc_11, nc_12, len_map, not_true_eq_false, not_false_eq_true, ite_true, ite_false, Int.reduceEq, Int.reduceNe, Int.reduceLT, Int.reduceLE, Nat.reduceEqDiff, Option.some.injEq, true_implies, forall_const, sz_0, sz_1, sz_2, sz_3, sz_4, sz_5, sz_6, sz_7, sz_8, sz_9, sz_10, sz_11, sz_12, sz_13, sz_14, sz_15, sz_16, sz_17, sz_18, sz_19, sz_20, int_whole, ix_4_1, ix_4_2, ix_4_3, l1]); exact hr) l1 (accMax_big (by omega)) (fun v hv Y Z hY hZ => ?_) ?_
    · simp only [show eN v = D.int ((v : Nat) : Int) from rfl]
      walk_at "d"
      refine lcE g.2 eE (G := fun _ => True) (fun e => decide (e.b = v) && (decide (e.t = 0) && decide (e.a ∈ L))) (fun _ => .int 1) (fun r hr => by walk_at "d"; exact hr) trivial (accMax_big (by omega)) (fun e he Y' Z' hY' hZ' => ?_) ?_
      · simp only [eE_eq e]
        walk_at "d"
        simp only [dIn_N l1, nat_zero, nat_inj]
        by_cases c1 : e.b = v
        · by_cases c2 : e.t = 0
          · by_cases c3 : e.a ∈ L
            · simp only [c1, c2, c3]; walk_at "d"; exact hY' (by simp [c1, c2, c3])
            · simp only [c1, c2, c3]; walk_at "d"; exact hZ' (by simp [c3])
          · simp only [c1, c2]; walk_at "d"; exact hZ' (by simp [c2])
        · simp only [c1]; walk_at "d"; exact hZ' (by simp [c1])
      · rw [List.length_map]
        split
        · rename_i z; exact hY (decide_eq_true (by omega))
        · rename_i z; exact hZ (decide_eq_false (by omega))
    · intro pf hpf
      generalize hF : L.filter (fun v => decide ((g.2.filter fun e => decide (e.b = v) && (decide (e.t = 0) && decide (e.a ∈ L))).length = 0)) = F
      have memF : ∀ v, v ∈ F → v ∈ L ∧ ∀ e ∈ g.2, e.b = v → e.t = 0 → e.a ∉ L := fun v hv => by
        rw [← hF, List.mem_filter, decide_eq_true_eq, List.length_eq_zero_iff, List.filter_eq_nil_iff] at hv
        refine ⟨hv.1, fun e he h1 h2 h3 => hv.2 e he (by simp [h1, h2, h3])⟩
      have memF2 : ∀ v, v ∈ L → v ∉ F → ∃ e ∈ g.2, e.b = v ∧ e.t = 0 ∧ e.a ∈ L := fun v hv hn => by
        rw [← hF, List.mem_filter, decide_eq_true_eq, List.length_eq_zero_iff, List.filter_eq_nil_iff] at hn
        refine Classical.byContradiction fun hno => hn ⟨hv, fun e he z => hno ⟨e, he, ?_⟩⟩
        simpa using z
      have lenF : F.length ≤ L.length := by rw [← hF]; exact List.length_filter_le _ _
      have npf : pl ≠ pf := fun z => by rw [← z, l1] at hpf; cases hpf
      have l2 : updD h' pf (.lst (F.map eN)) pl = some (.lst (L.map eN)) := by rw [updD_ne npf, l1]
      have l3 : updD h' pf (.lst (F.map eN)) pf = some (.lst (F.map eN)) := updD_same
      refine lcE L eN (G := fun h => h pl = some (.lst (L.map eN))) (fun v => decide (v ∉ F)) eN (fun r hr => by (try simp only [startD, dSeq, dNext, dIfS, dRet, dRetN, dDrop, dAsg, pName, dOp, dUn, dVar, dC, dCons, dNil, dCB, dTest, dTru, truD, dAnd, dOr, dNot, dIf, dPar, dAug, dI0, dII, dI1, dAbs, dInt, dCall, dIx, dTup, dEqS, eqS, dNeS, dAndV, dOrV, dNotV, dIsi, dLen, lenD, dSl, dCut, dPart, dNoPart, dCL, dlLst, dNew, dLst, dAdd, dMul, dIsN, dNotN, nonD, dSet, dPut, eLen, eTuple, eAll, eAny, eSum, eMax, eMin, dTuple, dTupR1, dYes, dIxL, dlCatVL, dlCatLV, dlCatLL, dlRep, dIterL, dSeqI, dRng1, dRng2, dEnum, pTup, setAll, wipeD, dMt, dMt0, tyM, dAppend, dlRg1, dlRg2, dNewK, dNewT, dRev, dRaise, dDisp1, dZip, dTry, dTryAs, dBreak, dCont,   ty_int, ty_bl, ty_str, ty_non, ty_tup, mem_int, mem_bool, mem_str, mem_tuple, mem_list, isTy_self, isTy_bool_int, isTy_int_bool, isTy_int_tuple, isTy_int_list, isTy_int_str, isTy_bool_tuple, isTy_bool_list, isTy_bool_str, isTy_str_bool, isTy_str_int, isTy_str_tuple, isTy_str_list, isTy_non_tuple, isTy_non_list, isTy_non_str, isTy_non_int, isTy_non_bool, isTy_tup_list, isTy_tup_int, isTy_tup_str, isTy_tup_bool, isTy_list_tup, isTy_list_int, isTy_list_bool, isTy_list_str,   sp1, sp2, sp3, sp4, sp5, sp6, updD_same, updD_updD, List.map_cons, List.map_nil, List.length_cons, List.length_nil, List.set_cons_zero, List.set_cons_succ, List.getElem?_cons_zero, List.getElem?_cons_succ, List.cons_append, List.nil_append, Nat.reduceAdd, Nat.reduceSub, List.replicate, Nat.sub_self, decide_eq_true_eq, Bool.not_eq_true', decide_eq_false_iff_not, decide_true, decide_false, Bool.not_true, Bool.not_false, Bool.false_eq_true, Bool.true_eq_false, if_true, if_false, reduceIte, true_and, and_true, List.isEmpty_nil, List.isEmpty_cons, List.flatten_cons, List.flatten_nil, at_0, at_1, at_2, at_3, at_4, at_5, at_6, at_7, at_m1_1, at_m1_2, at_m1_3, at_m1_4, at_m1_5, at_m1_6, nc_0, nc_1, nc_2, nc_3, nc_4, nc_5, nc_6, nc_7, nc_8, nc_9, nc_10, nc_11, nc_12, len_map, not_true_eq_false, not_false_eq_true, ite_true, ite_false, Int.reduceEq, Int.reduceNe, Int.reduceLT, Int.reduceLE, Nat.reduceEqDiff, Option.some.injEq, true_implies, forall_const, sz_0, sz_1, sz_2, sz_3, sz_4, sz_5, sz_6, sz_7, sz_8, sz_9, sz_10, sz_11, sz_12, sz_13, sz_14, sz_15, sz_16, sz_17, sz_18, sz_19, sz_20, int_whole, ix_4_1, ix_4_2, ix_4_3, l2]); exact hr) l2 (accMax_big (by omega)) (fun v hv Y Z hY hZ => ?_) ?_
      · simp only [show eN v = D.int ((v : Nat) : Int) from rfl]
        walk_at "d"
        simp only [dIn_N l3]
        by_cases c : v ∈ F
        · simp only [c]; walk_at "d"; exact hZ (by simp [c])
        · simp only [c]; walk_at "d"; exact hY (by simp [c])
      · intro pn hpn
        have npn : pf ≠ pn := fun z => by rw [← z, l3] at hpn; cases hpn
        have bpn : b pn = none := (s1.trans (Sub.new hpf)).none hpn
        simp only [updD_ne npn, l3, len_map]
        have mem' : ∀ v, v ∈ L.filter (fun v => decide (v ∉ F)) ↔ v ∈ L ∧ v ∉ F := fun v => by rw [List.mem_filter, decide_eq_true_eq]
        refine ⟨_, ?_, L.filter (fun v => decide (v ∉ F)), pn, decide ((0 : Int) < (F.length : Nat)), _, _, _, _, _, _, fun v => if v ∈ F then R else ρ v, R + 1, rfl, (s1.trans (Sub.new hpf)).trans (Sub.new hpn), bpn, updD_same, fun v hv => hlt v ((mem' v).mp hv).1, Nat.le_trans (List.length_filter_le _ _) hll, fun v hv => ?_, fun e he ht hb => ?_, fun hk => ?_, rfl⟩
        · by_cases c : 0 < F.length
          · have hF0 : F ≠ [] := List.ne_nil_of_length_pos c
            obtain ⟨u, hu⟩ := List.exists_mem_of_ne_nil F hF0
            have := filter_lt (l := L) (p := fun _ => true) (q := fun v => decide (v ∉ F)) (fun _ _ => rfl) (memF u hu).1 rfl (by simp [hu])
            rw [List.filter_eq_self.mpr (fun _ _ => rfl)] at this
            have c' : (0 : Int) < (F.length : Nat) := by omega
            simp only [c', decide_true, if_true]
            omega
          · have := List.length_filter_le (fun v => decide (v ∉ F)) L
            have c' : ¬ (0 : Int) < (F.length : Nat) := by omega
            simp only [c', decide_false, if_false, Bool.false_eq_true]
            omega
        · show (if v ∈ F then R else ρ v) < R + 1
          split
          · omega
          · rename_i c
            have := hρ1 v fun z => hv ((mem' v).mpr ⟨z, c⟩)
            omega
        · show e.a ∉ L.filter (fun v => decide (v ∉ F)) ∧ (if e.a ∈ F then R else ρ e.a) < (if e.b ∈ F then R else ρ e.b)
          rw [mem']
          by_cases c : e.b ∈ F
          · have h1 := (memF _ c).2 e he rfl ht
            have h2 := hρ1 _ h1
            refine ⟨fun z => h1 z.1, ?_⟩
            rw [if_pos c, if_neg (fun z => h1 (memF _ z).1)]
            exact h2
          · have hbL : e.b ∉ L := fun z => hb ((mem' _).mpr ⟨z, c⟩)
            obtain ⟨h1, h2⟩ := hρ2 e he ht hbL
            refine ⟨fun z => h1 z.1, ?_⟩
            rw [if_neg c, if_neg (fun z => h1 (memF _ z).1)]
            exact h2
        · have c : F = [] := List.eq_nil_of_length_eq_zero (by have := of_decide_eq_false hk; omega)
          intro v hv
          obtain ⟨h1, h2⟩ := (mem' v).mp hv
          obtain ⟨e, he, e1, e2, e3⟩ := memF2 v h1 h2
          exact ⟨e, he, e1, e2, (mem' _).mpr ⟨e3, by rw [c]; simp⟩⟩
  · subst hk
    walk_at "d"
    refine ⟨_, Sub.at' s1 l1, hq L pl ⟨hlt, fun v => if v ∈ L then R else ρ v, fun e he ht hno => ?_⟩ (hdead rfl) hll bpl⟩
    by_cases c : e.b ∈ L
    · have ha : e.a ∉ L := fun z => hno ⟨z, c⟩
      show (if e.a ∈ L then R else ρ e.a) < (if e.b ∈ L then R else ρ e.b)
      rw [if_pos c, if_neg ha]
      exact hρ1 _ ha
    · obtain ⟨h1, h2⟩ := hρ2 e he ht c
      show (if e.a ∈ L then R else ρ e.a) < (if e.b ∈ L then R else ρ e.b)
      rw [if_neg c, if_neg h1]
      exact h2
theorem h__law_live_graph (T : Txt K mg C_DelayError C_BadNet) (H__law_stuck : Has P w K mg base "_law_stuck" 2 ["graph"] sp__law_stuck) (H__law_graph : Has P w K mg base "_law_graph" 4 ["draws", "most"] sp__law_graph) : Has P w K mg base "_law_live_graph" (5) ["draws", "most"] (sp__law_live_graph) := by
  refine has_of T.a__law_live_graph fun f fd F => okD F sc__law_live_graph len2 fun cdv A outer s H E b ds q xx hr tk hsp => ?_
  have hr__law_stuck := hr.mono (show 2 ≤ 4 by decide)
  have hr__law_graph := hr.mono (show 4 ≤ 4 by decide)
  refine ⟨_, (dss_cons (ds_set (i := 2) sc__law_live_graph.nd rfl (Or.inl rfl) (de_callH H__law_graph hr__law_graph (by rfl) tk (da_cons (de_var (pv 0)) (da_cons (de_var (pv 1)) da_nil))))
  (dss_cons (ds_set (i := 3) sc__law_live_graph.nd rfl (Or.inr rfl) (de_callH H__law_stuck hr__law_stuck (by rfl) tk (da_cons (de_var (pv 2)) da_nil)))
  (dss_one (ds_ret (de_tup (da_cons (de_ix (hu_of hr) (de_var (pv 2)) de_int (fun _ _ => rfl)) (da_cons (de_cl (pe_callTy call_tuple_of (by rfl) T.m_tuple bt_tuple (one_l (dl_lc (own := [("a", 4), ("b", 5), ("tokens", 6), ("delay", 7)]) rfl sc__law_live_graph.nd (di_seq (de_ix (hu_of hr) (de_var (pv 2)) de_int (fun _ _ => rfl))) (blkOk_by (own := [("a", 4), ("b", 5), ("tokens", 6), ("delay", 7)]) (N := ["draws", "most", "graph", "stuck", "a", "b", "tokens", "delay"]) (sc := defScope st__law_live_graph) (by decide +kernel)) (ownG_tup (is := [4, 5, 6, 7]) (by decide)) (fun _ _ _ _ _ => (pg_tup (by rfl) (pgs_cons (pg_name (i := 4) sc__law_live_graph.nd rfl (Or.inl rfl)) (pgs_cons (pg_name (i := 5) sc__law_live_graph.nd rfl (Or.inl rfl)) (pgs_cons (pg_name (i := 6) sc__law_live_graph.nd rfl (Or.inl rfl)) (pgs_cons (pg_name (i := 7) sc__law_live_graph.nd rfl (Or.inl rfl)) pgs_nil)))))) (fun _ _ _ _ _ => dts_nil) (fun _ _ _ _ _ => (de_tup (da_cons (de_var (pv 4)) (da_cons (de_var (pv 5)) (da_cons (de_cb (pe_callB ((cr_max rfl).or (call_max2 rfl)) (by rfl) T.m_max bt_max (da_cons (de_var (pv 6)) (da_cons (de_cb (pe_callTy call_int1 (by rfl) T.m_int bt_int (da_cons (de_and (de_in (hu_of hr) (de_var (pv 4)) (de_var (pv 3)) (by rfl)) (de_one (de_in (hu_of hr) (de_var (pv 5)) (de_var (pv 3)) (by rfl)))) da_nil)) refInt) da_nil))) refMax) (da_cons (de_var (pv 7)) da_nil))))))))) rlTuple) da_nil))))))), ?_⟩
  obtain ⟨d0, d1, rfl, hsp⟩ := inv2 hsp
  obtain ⟨dl, sl, ns, d, most, rfl, rfl, h0, h1, dr, hq⟩ := hsp
  have dw := Dw.init dr
  walk_at "d"
  refine ⟨dl, sl, ns, d, most, rfl, rfl, h0, h1, dr, fun g d' ok i0 b0 => ?_⟩
  have hw := ok.wf h1
  have hn := hw.n
  have hm := hw.m
  walk_at "d"
  refine ⟨g, rfl, hw, fun L p rkd _ hL hp => ?_⟩
  unfold eG
  walk_at "d"
  refine lcEM g.2 eE (G := fun _ => True) (fun e => eE (laid L e)) (fun r hr => by walk_at "d"; exact hr) trivial (accMax_big (by omega)) (fun e he Y hY => ?_) ?_
  · have lp : updD (updD b dl (drL sl d')) p (.lst (L.map eN)) p = some (.lst (L.map eN)) := updD_same
    simp only [eE_eq e]
    walk_at "d"
    simp only [dIn_N lp]
    have key : ∀ (m : Nat), m = (if e.a ∈ L ∧ e.b ∈ L then 1 else 0) → Y (.tup [.int (e.a : Nat), .int (e.b : Nat), .int ((max e.t m : Nat) : Int), eR e.d]) (updD (updD b dl (drL sl d')) p (.lst (L.map eN))) := fun m hm => by
      subst hm; exact hY
    by_cases c1 : e.a ∈ L
    · simp only [c1]
      walk_at "d"
      by_cases c2 : e.b ∈ L
      · simp only [c2]; walk_at "d"
        refine dmax2 (j := 1) (key 1 ?_)
        rw [if_pos ⟨c1, c2⟩]
      · simp only [c2]; walk_at "d"
        refine dmax2 (j := 0) (key 0 ?_)
        rw [if_neg fun z => c2 z.2]
    · simp only [c1]; walk_at "d"
      refine dmax2 (j := 0) (key 0 ?_)
      rw [if_neg fun z => c1 z.1]
  · refine ⟨_, Sub.new hp, ?_⟩
    have := hq (g.1, g.2.map (laid L)) d' ⟨ok.pos, ok.n, by rw [List.length_map]; exact ok.m, fun e he => ?_, fun e he => ?_⟩ (laid_live hw rkd) i0 b0
    · unfold eG at this
      simp only [List.map_map] at this
      exact this
    · obtain ⟨e', he', rfl⟩ := List.mem_map.mp he
      have := hw.es e' he'
      exact ⟨this.a, this.b, this.d⟩
    · obtain ⟨e', he', rfl⟩ := List.mem_map.mp he
      have := ok.t e' he'
      show max e'.t (if e'.a ∈ L ∧ e'.b ∈ L then 1 else 0) ≤ 7
      split <;> omega
end
end K

set_option Elab.async false
set_option linter.all false
set_option maxRecDepth 100000
set_option maxHeartbeats 4000000
namespace K
open PySem PySem.Spec PyProof.Rows L2 DL
local macro_rules | `(tactic| walk_at "d") => `(tactic| (try simp only [startD, dSeq, dNext, dIfS, dRet, dRetN, dDrop, dAsg, pName, dOp, dUn, dVar, dC, dCons, dNil, dCB, dTest, dTru, truD, dAnd, dOr, dNot, dIf, dPar, dAug, dI0, dII, dI1, dAbs, dInt, dCall, dIx, dTup, dEqS, eqS, dNeS, dAndV, dOrV, dNotV, dIsi, dLen, lenD, dSl, dCut, dPart, dNoPart, dCL, dlLst, dNew, dLst, dAdd, dMul, dIsN, dNotN, nonD, dSet, dPut, eLen, eTuple, eAll, eAny, eSum, eMax, eMin, dTuple, dTupR1, dYes, dIxL, dlCatVL, dlCatLV, dlCatLL, dlRep, dIterL, dSeqI, dRng1, dRng2, dEnum, pTup, setAll, wipeD, dMt, dMt0, tyM, dAppend, dlRg1, dlRg2, dNewK, dNewT, dRev, dRaise, dDisp1, dZip, dTry, dTryAs, dBreak, dCont,
  ty_int, ty_bl, ty_str, ty_non, ty_tup, mem_int, mem_bool, mem_str, mem_tuple, mem_list, isTy_self, isTy_bool_int, isTy_int_bool, isTy_int_tuple, isTy_int_list, isTy_int_str, isTy_bool_tuple, isTy_bool_list, isTy_bool_str, isTy_str_bool, isTy_str_int, isTy_str_tuple, isTy_str_list, isTy_non_tuple, isTy_non_list, isTy_non_str, isTy_non_int, isTy_non_bool, isTy_tup_list, isTy_tup_int, isTy_tup_str, isTy_tup_bool, isTy_list_tup, isTy_list_int, isTy_list_bool, isTy_list_str,
  sp1, sp2, sp3, sp4, sp5, sp6, updD_same, updD_updD, List.map_cons, List.map_nil, List.length_cons, List.length_nil, List.set_cons_zero, List.set_cons_succ, List.getElem?_cons_zero, List.getElem?_cons_succ, List.cons_append, List.nil_append, Nat.reduceAdd, Nat.reduceSub, List.replicate, Nat.sub_self, decide_eq_true_eq, Bool.not_eq_true', decide_eq_false_iff_not, decide_true, decide_false, Bool.not_true, Bool.not_false, Bool.false_eq_true, Bool.true_eq_false, if_true, if_false, reduceIte, true_and, and_true, List.isEmpty_nil, List.isEmpty_cons, List.flatten_cons, List.flatten_nil, at_0, at_1, at_2, at_3, at_4, at_5, at_6, at_7, at_m1_1, at_m1_2, at_m1_3, at_m1_4, at_m1_5, at_m1_6, nc_0, nc_1, nc_2, nc_3, nc_4, nc_5, nc_6, nc_7, nc_8, nc_9, nc_10, nc_11, nc_12, len_map, not_true_eq_false, not_false_eq_true, ite_true, ite_false, Int.reduceEq, Int.reduceNe, Int.reduceLT, Int.reduceLE, Nat.reduceEqDiff, Option.some.injEq, true_implies, forall_const, sz_0, sz_1, sz_2, sz_3, sz_4, sz_5, sz_6, sz_7, sz_8, sz_9, sz_10, sz_11, sz_12, sz_13, sz_14, sz_15, sz_16, sz_17, sz_18, sz_19, sz_20, int_whole, ix_4_1, ix_4_2, ix_4_3]))
structure ErrF (K : PySem.W.Frag) (B D : Addr) : Prop where
  exc : ExcC K B
  bb : PySem.W.exmOne K (.ref B) (.ref B) = some true
  bd : PySem.W.kitOne K (.ref B) (.ref D) = some true
end K

set_option Elab.async false
set_option linter.all false
set_option maxRecDepth 100000
set_option maxHeartbeats 4000000
namespace K
open PySem PySem.Spec PyProof.Rows L2 DL
local macro_rules | `(tactic| walk_at "d") => `(tactic| (try simp only [startD, dSeq, dNext, dIfS, dRet, dRetN, dDrop, dAsg, pName, dOp, dUn, dVar, dC, dCons, dNil, dCB, dTest, dTru, truD, dAnd, dOr, dNot, dIf, dPar, dAug, dI0, dII, dI1, dAbs, dInt, dCall, dIx, dTup, dEqS, eqS, dNeS, dAndV, dOrV, dNotV, dIsi, dLen, lenD, dSl, dCut, dPart, dNoPart, dCL, dlLst, dNew, dLst, dAdd, dMul, dIsN, dNotN, nonD, dSet, dPut, eLen, eTuple, eAll, eAny, eSum, eMax, eMin, dTuple, dTupR1, dYes, dIxL, dlCatVL, dlCatLV, dlCatLL, dlRep, dIterL, dSeqI, dRng1, dRng2, dEnum, pTup, setAll, wipeD, dMt, dMt0, tyM, dAppend, dlRg1, dlRg2, dNewK, dNewT, dRev, dRaise, dDisp1, dZip, dTry, dTryAs, dBreak, dCont,
  ty_int, ty_bl, ty_str, ty_non, ty_tup, mem_int, mem_bool, mem_str, mem_tuple, mem_list, isTy_self, isTy_bool_int, isTy_int_bool, isTy_int_tuple, isTy_int_list, isTy_int_str, isTy_bool_tuple, isTy_bool_list, isTy_bool_str, isTy_str_bool, isTy_str_int, isTy_str_tuple, isTy_str_list, isTy_non_tuple, isTy_non_list, isTy_non_str, isTy_non_int, isTy_non_bool, isTy_tup_list, isTy_tup_int, isTy_tup_str, isTy_tup_bool, isTy_list_tup, isTy_list_int, isTy_list_bool, isTy_list_str,
  sp1, sp2, sp3, sp4, sp5, sp6, updD_same, updD_updD, List.map_cons, List.map_nil, List.length_cons, List.length_nil, List.set_cons_zero, List.set_cons_succ, List.getElem?_cons_zero, List.getElem?_cons_succ, List.cons_append, List.nil_append, Nat.reduceAdd, Nat.reduceSub, List.replicate, Nat.sub_self, decide_eq_true_eq, Bool.not_eq_true', decide_eq_false_iff_not, decide_true, decide_false, Bool.not_true, Bool.not_false, Bool.false_eq_true, Bool.true_eq_false, if_true, if_false, reduceIte, true_and, and_true, List.isEmpty_nil, List.isEmpty_cons, List.flatten_cons, List.flatten_nil, at_0, at_1, at_2, at_3, at_4, at_5, at_6, at_7, at_m1_1, at_m1_2, at_m1_3, at_m1_4, at_m1_5, at_m1_6, nc_0, nc_1, nc_2, nc_3, nc_4, nc_5, nc_6, nc_7, nc_8, nc_9, nc_10, nc_11, nc_12, len_map, not_true_eq_false, not_false_eq_true, ite_true, ite_false, Int.reduceEq, Int.reduceNe, Int.reduceLT, Int.reduceLE, Nat.reduceEqDiff, Option.some.injEq, true_implies, forall_const, sz_0, sz_1, sz_2, sz_3, sz_4, sz_5, sz_6, sz_7, sz_8, sz_9, sz_10, sz_11, sz_12, sz_13, sz_14, sz_15, sz_16, sz_17, sz_18, sz_19, sz_20, int_whole, ix_4_1, ix_4_2, ix_4_3]))
abbrev Rt := Int × Int
/-! ### the law's own play: lists at addresses of their own -/
def Cells (h : DH) (cs : List Addr) (F : Nat → List Rt) : Prop := ∀ i a, cs[i]? = some a → h a = some (.lst ((F i).map eR))
def setF (F : Nat → List Rt) (i : Nat) (x : List Rt) : Nat → List Rt := fun j => if j = i then x else F j
theorem nodup_inj {α : Type} {l : List α} (nd : l.Nodup) {i j : Nat} {x : α} (hi : l[i]? = some x) (hj : l[j]? = some x) : i = j := by
  obtain ⟨h1, h2⟩ := List.getElem?_eq_some_iff.mp hi
  obtain ⟨h3, h4⟩ := List.getElem?_eq_some_iff.mp hj
  have p := List.pairwise_iff_getElem.mp nd
  rcases Nat.lt_trichotomy i j with h | h | h
  · exact absurd (h2.trans h4.symm) (p i j h1 h3 h)
  · exact h
  · exact absurd (h4.trans h2.symm) (p j i h3 h1 h)
theorem Cells.put {h : DH} {cs : List Addr} {F : Nat → List Rt} (z : Cells h cs F) (nd : cs.Nodup) {i : Nat} {a : Addr} (e : cs[i]? = some a) (x : List Rt) : Cells (updD h a (.lst (x.map eR))) cs (setF F i x) := fun j c e' => by
  unfold setF
  by_cases hj : j = i
  · subst hj
    rw [e] at e'; cases e'
    rw [updD_same, if_pos rfl]
  · rw [if_neg hj, updD_ne]
    · exact z j c e'
    · intro hc
      subst hc
      exact hj (nodup_inj nd e' e)
theorem Cells.other {h : DH} {cs : List Addr} {F : Nat → List Rt} (z : Cells h cs F) {a : Addr} (na : a ∉ cs) (o : DO) : Cells (updD h a o) cs F := fun j c e => by
  rw [updD_ne (fun hc => na (by rw [← hc]; exact List.mem_of_getElem? e))]
  exact z j c e
theorem Cells.ext {h : DH} {cs : List Addr} {F G : Nat → List Rt} (z : Cells h cs F) (e : ∀ i, i < cs.length → F i = G i) : Cells h cs G := fun i a ha => by
  rw [← e i (List.getElem?_eq_some_iff.mp ha).1]
  exact z i a ha
structure PlI (b : DH) (rs ts : List Addr) (pr pt : Addr) (h : DH) (Qs Ts : Nat → List Rt) : Prop where
  sub : DL.Sub b h
  hr : h pr = some (.lst (rs.map D.loc))
  ht : h pt = some (.lst (ts.map D.loc))
  q : Cells h rs Qs
  t : Cells h ts Ts
  ndr : rs.Nodup
  ndt : ts.Nodup
  dis : ∀ a ∈ rs, a ∉ ts
  npr : pr ∉ rs ∧ pr ∉ ts
  npt : pt ∉ rs ∧ pt ∉ ts
  fr : ∀ a, a ∈ rs ∨ a ∈ ts → b a = none
section
variable {b : DH} {rs ts : List Addr} {pr pt : Addr} {h : DH} {Qs Ts : Nat → List Rt}
theorem PlI.qput (z : PlI b rs ts pr pt h Qs Ts) {i : Nat} {a : Addr} (e : rs[i]? = some a) (x : List Rt) : PlI b rs ts pr pt (updD h a (.lst (x.map eR))) (setF Qs i x) Ts :=
  have ha := List.mem_of_getElem? e
  ⟨z.sub.mut (z.fr a (.inl ha)), by rw [updD_ne (fun hc => z.npr.1 (by rw [hc]; exact ha))]; exact z.hr, by rw [updD_ne (fun hc => z.npt.1 (by rw [hc]; exact ha))]; exact z.ht,
    z.q.put z.ndr e x, z.t.other (z.dis a ha) _, z.ndr, z.ndt, z.dis, z.npr, z.npt, z.fr⟩
theorem PlI.tput (z : PlI b rs ts pr pt h Qs Ts) {i : Nat} {a : Addr} (e : ts[i]? = some a) (x : List Rt) : PlI b rs ts pr pt (updD h a (.lst (x.map eR))) Qs (setF Ts i x) :=
  have ha := List.mem_of_getElem? e
  ⟨z.sub.mut (z.fr a (.inr ha)), by rw [updD_ne (fun hc => z.npr.2 (by rw [hc]; exact ha))]; exact z.hr, by rw [updD_ne (fun hc => z.npt.2 (by rw [hc]; exact ha))]; exact z.ht,
    z.q.other (fun hc => z.dis a hc ha) _, z.t.put z.ndt e x, z.ndr, z.ndt, z.dis, z.npr, z.npt, z.fr⟩
theorem PlI.fresh (z : PlI b rs ts pr pt h Qs Ts) {p : Addr} (hp : h p = none) : p ∉ rs ∧ p ∉ ts ∧ p ≠ pr ∧ p ≠ pt := by
  refine ⟨fun hm => ?_, fun hm => ?_, fun hm => ?_, fun hm => ?_⟩
  · obtain ⟨i, hi⟩ := List.mem_iff_getElem?.mp hm
    rw [z.q i p hi] at hp; cases hp
  · obtain ⟨i, hi⟩ := List.mem_iff_getElem?.mp hm
    rw [z.t i p hi] at hp; cases hp
  · rw [hm, z.hr] at hp; cases hp
  · rw [hm, z.ht] at hp; cases hp
theorem PlI.new (z : PlI b rs ts pr pt h Qs Ts) {p : Addr} (hp : h p = none) (o : DO) : PlI b rs ts pr pt (updD h p o) Qs Ts :=
  have ⟨f1, f2, f3, f4⟩ := z.fresh hp
  ⟨z.sub.trans (Sub.new hp), by rw [updD_ne f3.symm]; exact z.hr, by rw [updD_ne f4.symm]; exact z.ht, z.q.other f1 _, z.t.other f2 _, z.ndr, z.ndt, z.dis, z.npr, z.npt, z.fr⟩
theorem PlI.ext (z : PlI b rs ts pr pt h Qs Ts) {Qs' Ts' : Nat → List Rt} (e1 : ∀ i, i < rs.length → Qs i = Qs' i) (e2 : ∀ i, i < ts.length → Ts i = Ts' i) : PlI b rs ts pr pt h Qs' Ts' :=
  ⟨z.sub, z.hr, z.ht, z.q.ext e1, z.t.ext e2, z.ndr, z.ndt, z.dis, z.npr, z.npt, z.fr⟩
end
/-! ### what the play does -/
def gE (g : Gr) (i : Nat) : Ed := g.2.getD i ⟨0, 0, 0, (0, 1)⟩
theorem gE_eq {g : Gr} {i : Nat} {e : Ed} (h : g.2[i]? = some e) : gE g i = e := by
  unfold gE; rw [List.getD_eq_getElem?_getD, h]; rfl
theorem gE_get {g : Gr} {i : Nat} (h : i < g.2.length) : g.2[i]? = some (gE g i) := by
  rw [gE_eq (List.getElem?_eq_getElem h), List.getElem?_eq_getElem h]
def fullq (τ : Tm) (e : Ed) (n : Nat) : List Rt := List.replicate e.t (0, 1) ++ (List.range n).map fun j => plusR (τ e.a (j + 1)) e.d
def Qc (g : Gr) (τ : Tm) (c : Nat → Nat) (i : Nat) : List Rt := (fullq τ (gE g i) (c (gE g i).a)).drop (c (gE g i).b)
def Tc (τ : Tm) (c : Nat → Nat) (v : Nat) : List Rt := (List.range (c v)).map fun j => τ v (j + 1)
def inc (c : Nat → Nat) (v : Nat) : Nat → Nat := fun u => if u = v then c v + 1 else c u
theorem fullq_len {τ : Tm} {e : Ed} {n : Nat} : (fullq τ e n).length = e.t + n := by unfold fullq; simp
theorem fullq_succ {τ : Tm} {e : Ed} {n : Nat} : fullq τ e (n + 1) = fullq τ e n ++ [plusR (τ e.a (n + 1)) e.d] := by
  unfold fullq
  rw [List.range_succ, List.map_append, List.append_assoc]; rfl
theorem Qc_len {g : Gr} {τ : Tm} {c : Nat → Nat} {i : Nat} : (Qc g τ c i).length = (gE g i).t + c (gE g i).a - c (gE g i).b := by unfold Qc; rw [List.length_drop, fullq_len]
structure Bal (g : Gr) (M : Nat) (c : Nat → Nat) : Prop where
  top : ∀ v, v < g.1 → c v ≤ M
  ed : ∀ e ∈ g.2, c e.b ≤ e.t + c e.a
/-- v can fire -/
def Fire (g : Gr) (M : Nat) (c : Nat → Nat) (v : Nat) : Prop := c v < M ∧ ∀ e ∈ g.2, e.b = v → c v < e.t + c e.a
theorem bal_inc {g : Gr} {M : Nat} {c : Nat → Nat} {v : Nat} (z : Bal g M c) (f : Fire g M c v) : Bal g M (inc c v) := by
  refine ⟨fun u hu => ?_, fun e he => ?_⟩
  · unfold inc
    split
    · exact f.1
    · exact z.top u hu
  · have h1 := z.ed e he
    have h2 := f.2 e he
    unfold inc
    by_cases hb : e.b = v
    · rw [if_pos hb]
      have := h2 hb
      split
      · rename_i ha; rw [ha] at this; omega
      · omega
    · rw [if_neg hb]
      split
      · rename_i ha; rw [ha] at h1; omega
      · exact h1
theorem some_fire {g : Gr} {M : Nat} {c : Nat → Nat} {rk : Rk} (hw : WF g) (lv : LiveG g rk) (z : Bal g M c) (no : ∀ v, v < g.1 → ¬ Fire g M c v) : ∀ v, v < g.1 → c v = M := by
  intro u hu
  refine Decidable.byContradiction fun hne => ?_
  have hlt : c u < M := by have := z.top u hu; omega
  -- the least of those that are not done
  obtain ⟨B, hB⟩ : ∃ B, ∀ v, v < g.1 → rkOf rk v < B := by
    have : ∀ n, ∃ B, ∀ v, v < n → rkOf rk v < B := by
      intro n
      induction n with
      | zero => exact ⟨0, fun v hv => absurd hv (Nat.not_lt_zero _)⟩
      | succ n ih =>
        obtain ⟨B, hB⟩ := ih
        refine ⟨max B (rkOf rk n + 1), fun v hv => ?_⟩
        rcases Nat.lt_or_eq_of_le (Nat.le_of_lt_succ hv) with h | h
        · have := hB v h; omega
        · subst h; omega
    exact this g.1
  obtain ⟨v, hv, hmin⟩ := least_rk (fun v => c v * B + rkOf rk v) (L := (List.range g.1).filter fun v => decide (c v < M)) (List.ne_nil_of_mem (List.mem_filter.mpr ⟨List.mem_range.mpr hu, decide_eq_true hlt⟩))
  rw [List.mem_filter, List.mem_range, decide_eq_true_eq] at hv
  refine no v hv.1 ⟨hv.2, fun e he hb => ?_⟩
  have h1 := z.ed e he
  have ho := hw.es e he
  refine Decidable.byContradiction fun hn => ?_
  have heq : c v = e.t + c e.a := by rw [hb] at h1; omega
  have ha : c e.a < M := by omega
  have h2 := hmin e.a (List.mem_filter.mpr ⟨List.mem_range.mpr ho.a, decide_eq_true ha⟩)
  have h2 : c v * B + rkOf rk v ≤ c e.a * B + rkOf rk e.a := h2
  have h3 := hB e.a ho.a
  by_cases ht : e.t = 0
  · have h4 := rk_up hw lv he ht
    rw [hb] at h4
    have : c v = c e.a := by omega
    rw [this] at h2
    omega
  · have h5 : c e.a + 1 ≤ c v := by omega
    have h6 : (c e.a + 1) * B ≤ c v * B := Nat.mul_le_mul_right B h5
    rw [Nat.succ_mul] at h6
    omega
def tot (M : Nat) (c : Nat → Nat) : Nat → Nat
  | 0 => 0
  | n + 1 => tot M c n + (M - c n)
theorem tot_out {M : Nat} {c : Nat → Nat} {v : Nat} : ∀ {n : Nat}, n ≤ v → tot M (inc c v) n = tot M c n
  | 0, _ => rfl
  | n + 1, h => by
    unfold tot
    rw [tot_out (by omega)]
    unfold inc
    rw [if_neg (by omega)]
theorem tot_inc {M : Nat} {c : Nat → Nat} {v : Nat} (hc : c v < M) : ∀ {n : Nat}, v < n → tot M (inc c v) n + 1 = tot M c n
  | n + 1, h => by
    unfold tot
    by_cases hv : v = n
    · subst hv
      rw [tot_out (Nat.le_refl _)]
      unfold inc
      rw [if_pos rfl]
      omega
    · have ih := tot_inc hc (n := n) (by omega)
      have : inc c v n = c n := by unfold inc; rw [if_neg (fun z => hv z.symm)]
      rw [this]
      omega
/-- the edges into v, by their places -/
def inL (g : Gr) (v : Nat) : List Nat := (List.range g.2.length).filter fun i => decide ((gE g i).b = v)
theorem inL_map {g : Gr} {v : Nat} {α : Type} (f : Ed → α) : (inL g v).map (fun i => f (gE g i)) = (g.2.filter fun e => decide (e.b = v)).map f := by
  have h : (List.range g.2.length).map (gE g) = g.2 := by
    apply List.ext_getElem?
    intro i
    by_cases hi : i < g.2.length
    · rw [List.getElem?_map, List.getElem?_range hi, gE_get hi]; rfl
    · rw [List.getElem?_eq_none (by simp; omega), List.getElem?_eq_none (by omega)]
  have h2 : g.2.filter (fun e => decide (e.b = v)) = (inL g v).map (gE g) := by
    conv => lhs; rw [← h, List.filter_map]
    rfl
  rw [h2, List.map_map]; rfl
/-- the time at which the next token of an edge into v is there -/
def hd (τ : Tm) (c : Nat → Nat) (e : Ed) : Rt := if c e.b < e.t then (0, 1) else plusR (τ e.a (c e.b + 1 - e.t)) e.d
theorem Qc_cons {g : Gr} {τ : Tm} {c : Nat → Nat} {i : Nat} (h : c (gE g i).b < (gE g i).t + c (gE g i).a) : Qc g τ c i = hd τ c (gE g i) :: (Qc g τ c i).tail := by
  unfold Qc
  generalize gE g i = e at *
  have hl : c e.b < (fullq τ e (c e.a)).length := by rw [fullq_len]; exact h
  rw [List.drop_eq_getElem_cons hl, List.tail_cons]
  have : (fullq τ e (c e.a))[c e.b]? = some (hd τ c e) := by
    unfold hd fullq
    split
    · rename_i hc
      rw [List.getElem?_append_left (by simp; exact hc), List.getElem?_replicate, if_pos hc]
    · rename_i hc
      rw [List.getElem?_append_right (by simp; omega), List.length_replicate, List.getElem?_map, List.getElem?_range (by omega)]
      show some (plusR (τ e.a (c e.b - e.t + 1)) e.d) = _
      rw [show c e.b - e.t + 1 = c e.b + 1 - e.t by omega]
  rw [(List.getElem?_eq_some_iff.mp this).2]
theorem lat_zero {l : List Ed} {f : Ed → Rt} {p : Ed → Bool} (hf : ∀ e ∈ l, p e = false → f e = (0, 1)) (ho : ∀ e ∈ l, OkR (f e)) : ∀ a : Rt, OkR a → (l.map f).foldl (fun told one => if told.1 * one.2 < one.1 * told.2 then one else told) a = ((l.filter p).map f).foldl (fun told one => if told.1 * one.2 < one.1 * told.2 then one else told) a := by
  induction l with
  | nil => intro a _; rfl
  | cons e r ih =>
    intro a oa
    have ihr := ih (fun e he => hf e (List.mem_cons_of_mem _ he)) (fun e he => ho e (List.mem_cons_of_mem _ he))
    rw [List.filter_cons, List.map_cons, List.foldl_cons]
    by_cases hp : p e = true
    · rw [if_pos hp, List.map_cons, List.foldl_cons]
      refine ihr _ ?_
      split
      · exact ho e List.mem_cons_self
      · exact oa
    · rw [if_neg hp, hf e List.mem_cons_self (by simpa using hp)]
      have := oa.n0
      rw [if_neg (by simp; omega)]
      exact ihr a oa
theorem now_ok {g : Gr} {M : Nat} {τ : Tm} {c : Nat → Nat} {v : Nat} (hw : WF g) (ev : Eqs g M τ) (z : Bal g M c) (hv : v < g.1) (f : Fire g M c v) :
    lat ((inL g v).map fun i => hd τ c (gE g i)) = τ v (c v + 1) ∧ ∀ e ∈ g.2, e.b = v → OkR (hd τ c e) := by
  have ok : ∀ e ∈ g.2, e.b = v → OkR (hd τ c e) := fun e he hb => by
    have ho := hw.es e he
    have hf := f.2 e he hb
    have ht := z.top e.a ho.a
    unfold hd
    split
    · exact ok01
    · rename_i hc
      rw [hb] at hc ⊢
      exact ok_plus (ev.ok _ _ ho.a (by omega) (by omega)) ho.d
  refine ⟨?_, ok⟩
  rw [inL_map (fun e => hd τ c e)]
  have h1 := ev.eq v (c v + 1) hv (by omega) f.1
  rw [h1]
  unfold lat
  rw [lat_zero (p := fun e => decide (e.t < c v + 1)) (fun e he hp => ?_) (fun e he => ?_) _ ok01]
  · rw [List.filter_filter]
    unfold ins
    have e1 : (g.2.filter fun a => decide (a.t < c v + 1) && decide (a.b = v)) = g.2.filter fun e => decide (e.b = v) && decide (e.t < c v + 1) := by
      apply List.filter_congr
      intro e _
      rw [Bool.and_comm]
    rw [e1]
    congr 1
    apply List.map_congr_left
    intro e he
    rw [List.mem_filter, Bool.and_eq_true, decide_eq_true_eq, decide_eq_true_eq] at he
    unfold hd
    rw [he.2.1, if_neg (by omega)]
  · have he := List.mem_filter.mp he
    have hb : e.b = v := of_decide_eq_true he.2
    have hp : ¬ e.t < c v + 1 := of_decide_eq_false hp
    unfold hd
    rw [hb, if_pos (by omega)]
  · have he := List.mem_filter.mp he
    exact ok e he.1 (of_decide_eq_true he.2)
/-- the lists behind a firing -/
theorem Qc_inc {g : Gr} {M : Nat} {τ : Tm} {c : Nat → Nat} {v i : Nat} (z : Bal g M c) (f : Fire g M c v) (hi : i < g.2.length) :
    Qc g τ (inc c v) i = (if (gE g i).b = v then (Qc g τ c i).tail else Qc g τ c i) ++ (if (gE g i).a = v then [plusR (τ v (c v + 1)) (gE g i).d] else []) := by
  have he : gE g i ∈ g.2 := List.mem_of_getElem? (gE_get hi)
  have h1 := z.ed _ he
  have h2 := f.2 _ he
  unfold Qc
  generalize gE g i = e at *
  unfold inc
  by_cases hb : e.b = v
  · have h3 := h2 hb
    by_cases ha : e.a = v
    · simp only [if_pos hb, if_pos ha]
      rw [ha] at h3
      rw [fullq_succ, List.drop_append_of_le_length (by rw [fullq_len]; omega), List.tail_drop, ha, hb]
    · simp only [if_pos hb, if_neg ha]
      rw [List.tail_drop, List.append_nil, hb]
  · by_cases ha : e.a = v
    · simp only [if_neg hb, if_pos ha]
      rw [ha] at h1
      rw [fullq_succ, List.drop_append_of_le_length (by rw [fullq_len]; omega), ha]
    · simp only [if_neg hb, if_neg ha, List.append_nil]
theorem Tc_inc {τ : Tm} {c : Nat → Nat} {v u : Nat} : Tc τ (inc c v) u = if u = v then Tc τ c v ++ [τ v (c v + 1)] else Tc τ c u := by
  unfold Tc inc
  split
  · rename_i h
    subst h
    rw [List.range_succ, List.map_append]; rfl
  · rfl
end K

set_option Elab.async false
set_option linter.all false
set_option maxRecDepth 100000
set_option maxHeartbeats 4000000
namespace K
open PySem PySem.Spec PyProof.Rows L2 DL
local macro_rules | `(tactic| walk_at "d") => `(tactic| (try simp only [startD, dSeq, dNext, dIfS, dRet, dRetN, dDrop, dAsg, pName, dOp, dUn, dVar, dC, dCons, dNil, dCB, dTest, dTru, truD, dAnd, dOr, dNot, dIf, dPar, dAug, dI0, dII, dI1, dAbs, dInt, dCall, dIx, dTup, dEqS, eqS, dNeS, dAndV, dOrV, dNotV, dIsi, dLen, lenD, dSl, dCut, dPart, dNoPart, dCL, dlLst, dNew, dLst, dAdd, dMul, dIsN, dNotN, nonD, dSet, dPut, eLen, eTuple, eAll, eAny, eSum, eMax, eMin, dTuple, dTupR1, dYes, dIxL, dlCatVL, dlCatLV, dlCatLL, dlRep, dIterL, dSeqI, dRng1, dRng2, dEnum, pTup, setAll, wipeD, dMt, dMt0, tyM, dAppend, dlRg1, dlRg2, dNewK, dNewT, dRev, dRaise, dDisp1, dZip, dTry, dTryAs, dBreak, dCont,
  ty_int, ty_bl, ty_str, ty_non, ty_tup, mem_int, mem_bool, mem_str, mem_tuple, mem_list, isTy_self, isTy_bool_int, isTy_int_bool, isTy_int_tuple, isTy_int_list, isTy_int_str, isTy_bool_tuple, isTy_bool_list, isTy_bool_str, isTy_str_bool, isTy_str_int, isTy_str_tuple, isTy_str_list, isTy_non_tuple, isTy_non_list, isTy_non_str, isTy_non_int, isTy_non_bool, isTy_tup_list, isTy_tup_int, isTy_tup_str, isTy_tup_bool, isTy_list_tup, isTy_list_int, isTy_list_bool, isTy_list_str,
  sp1, sp2, sp3, sp4, sp5, sp6, updD_same, updD_updD, List.map_cons, List.map_nil, List.length_cons, List.length_nil, List.set_cons_zero, List.set_cons_succ, List.getElem?_cons_zero, List.getElem?_cons_succ, List.cons_append, List.nil_append, Nat.reduceAdd, Nat.reduceSub, List.replicate, Nat.sub_self, decide_eq_true_eq, Bool.not_eq_true', decide_eq_false_iff_not, decide_true, decide_false, Bool.not_true, Bool.not_false, Bool.false_eq_true, Bool.true_eq_false, if_true, if_false, reduceIte, true_and, and_true, List.isEmpty_nil, List.isEmpty_cons, List.flatten_cons, List.flatten_nil, at_0, at_1, at_2, at_3, at_4, at_5, at_6, at_7, at_m1_1, at_m1_2, at_m1_3, at_m1_4, at_m1_5, at_m1_6, nc_0, nc_1, nc_2, nc_3, nc_4, nc_5, nc_6, nc_7, nc_8, nc_9, nc_10, nc_11, nc_12, len_map, not_true_eq_false, not_false_eq_true, ite_true, ite_false, Int.reduceEq, Int.reduceNe, Int.reduceLT, Int.reduceLE, Nat.reduceEqDiff, Option.some.injEq, true_implies, forall_const, sz_0, sz_1, sz_2, sz_3, sz_4, sz_5, sz_6, sz_7, sz_8, sz_9, sz_10, sz_11, sz_12, sz_13, sz_14, sz_15, sz_16, sz_17, sz_18, sz_19, sz_20, ix_4_1, ix_4_2, ix_4_3]))
/-! ### ranks that are told -/
def getI (rs : List Int) (v : Nat) : Int := rs.getD v 0
structure RankL (g : Gr) (rs : List Int) : Prop where
  len : rs.length = g.1
  up : ∀ e ∈ g.2, e.t = 0 → getI rs e.a < getI rs e.b
def RankP (g : Gr) (d : D) : Prop := ∃ rs : List Int, d = .tup (rs.map D.int) ∧ RankL g rs
/-- a value of which all is known that is asked -/
inductive Vl (h : DH) : D → Prop
  | tup {ds} : ds.length ≤ 100000 → (∀ d ∈ ds, ∃ t, tyD d h = some t) → Vl h (.tup ds)
  | oth {d t} : tyD d h = some t → t ≠ "tuple" → t ∈ kTys → Vl h d
def sp_proves_live : DSp := sp2 fun a v h q _ => ∃ g, a = eG g ∧ WF g ∧ Vl h v ∧ ∀ k : Bool, (k = true ↔ RankP g v) → q (.bl k) h
def sp_live : DSp := sp1 fun a h q _ => ∃ g, a = eG g ∧ WF g ∧ (∀ rs, RankL g rs → q (.tup [.str (Str.ofString "live"), .tup (rs.map D.int)]) h) ∧ (∀ ring, Ring g ring → q (.tup [.str (Str.ofString "ring"), .tup (ring.map eN)]) h)
theorem int_ty {d : D} {h : DH} (e : tyD d h = some "int") : ∃ i, d = .int i := by
  unfold tyD at e
  split at e <;> first | exact ⟨_, rfl⟩ | (simp at e) | skip
  split at e <;> simp at e
theorem dead_live {g : Gr} {S : Nat → Prop} {rk : Rk} (hw : WF g) (lv : LiveG g rk) (hd : ∀ v, S v → ∃ e ∈ g.2, e.b = v ∧ e.t = 0 ∧ S e.a) : ∀ v, ¬ S v := by
  have : ∀ n v, rkOf rk v = n → ¬ S v := by
    intro n
    induction n using Nat.strongRecOn with
    | ind n ih =>
      intro v hv hs
      obtain ⟨e, he, e1, e2, e3⟩ := hd v hs
      have := rk_up hw lv he e2
      rw [e1, hv] at this
      exact ih _ this e.a rfl e3
  exact fun v => this _ v rfl
theorem all_int {h : DH} : ∀ {ds : List D}, (∀ d ∈ ds, tyD d h = some "int") → ∃ rs : List Int, ds = rs.map D.int
  | [], _ => ⟨[], rfl⟩
  | d :: r, hd => by
    obtain ⟨i, rfl⟩ := int_ty (hd d List.mem_cons_self)
    obtain ⟨rs, rfl⟩ := all_int fun d h => hd d (List.mem_cons_of_mem _ h)
    exact ⟨i :: rs, rfl⟩
theorem isTy_tupO {t : String} (h : t ∈ kTys) (hn : t ≠ "tuple") : isTy t "tuple" = false := by
  have z : kTys.all (fun t => !isTy t "tuple" || decide (t = "tuple")) = true := by decide +kernel
  rw [List.all_eq_true] at z
  have z := z t h
  simp only [Bool.or_eq_true, Bool.not_eq_true', decide_eq_true_eq] at z
  exact z.resolve_right hn
theorem rank_not {g : Gr} {h : DH} {d : D} {t : String} (e : tyD d h = some t) (hn : t ≠ "tuple") : ¬ RankP g d := fun ⟨rs, z, _⟩ => by
  subst z
  exact hn (Option.some.inj e).symm
theorem rank_len {g : Gr} {ds : List D} (hn : ds.length ≠ g.1) : ¬ RankP g (.tup ds) := fun ⟨rs, z, r⟩ => hn (by
  have z : ds = rs.map D.int := by injection z
  rw [z, List.length_map]; exact r.len)
theorem rank_int {g : Gr} {h : DH} {ds : List D} (hn : ¬ ∀ d ∈ ds, tyD d h = some "int") : ¬ RankP g (.tup ds) := fun ⟨rs, z, r⟩ => hn fun d hd => by
  have z : ds = rs.map D.int := by injection z
  rw [z] at hd
  obtain ⟨i, _, rfl⟩ := List.mem_map.mp hd
  rfl
theorem map_int_inj : ∀ {a b : List Int}, a.map D.int = b.map D.int → a = b
  | [], [], _ => rfl
  | [], _ :: _, h => nomatch h
  | _ :: _, [], h => nomatch h
  | x :: a, y :: b, h => by
    rw [List.map_cons, List.map_cons] at h
    injection h with h1 h2
    injection h1 with h1
    rw [h1, map_int_inj h2]
theorem rank_iff {g : Gr} {rs : List Int} (hl : rs.length = g.1) : RankP g (.tup (rs.map D.int)) ↔ ∀ e ∈ g.2, e.t = 0 → getI rs e.a < getI rs e.b := by
  constructor
  · rintro ⟨rs', z, r⟩
    injection z with z
    rw [map_int_inj z]
    exact r.up
  · exact fun h => ⟨rs, rfl, hl, h⟩
theorem getI_at {rs : List Int} {v : Nat} (h : v < rs.length) : atI (rs.map D.int) (v : Int) = some (.int (getI rs v)) := atI_nat (by
  unfold getI
  rw [List.getElem?_map, List.getD_eq_getElem?_getD, List.getElem?_eq_getElem h]; rfl)
section
variable {P : Program} {w : World} {K : PySem.W.Frag} {mg : Str → Option Value} {base : Heap} {C_DelayError C_BadNet : Addr}
theorem h__law_is_whole (T : Txt K mg C_DelayError C_BadNet) : Has P w K mg base "_law_is_whole" (2) ["value"] (sp_is_integer) := by
  refine has_of T.a__law_is_whole fun f fd F => okD F sc__law_is_whole len1 fun cdv A outer s H E b ds q xx hr tk hsp => ?_
  refine ⟨_, (dss_one (ds_ret (de_and (de_cb (pe_callB call_isi (by rfl) T.m_isinstance bt_isinstance (da_cons (de_var (pv 0)) (da_cons (de_ty (by rfl) T.m_int bt_int) da_nil))) refIsi) (de_one (de_not (de_cb (pe_callB call_isi (by rfl) T.m_isinstance bt_isinstance (da_cons (de_var (pv 0)) (da_cons (de_ty (by rfl) T.m_bool bt_bool) da_nil))) refIsi)))))), ?_⟩
  obtain ⟨d0, rfl, hsp⟩ := inv1 hsp
  obtain ⟨t, ht, hq⟩ := hsp
  have hm := isTy_whole (tyD_mem ht)
  walk_at "d"
  simp only [ht]
  split
  · rename_i hi
    refine ⟨b, Sub.refl, ?_⟩
    rw [hm.1 hi]; exact hq
  · rename_i hi
    refine ⟨b, Sub.refl, ?_⟩
    rw [hm.2 hi]; exact hq
end
end K

set_option Elab.async false
set_option linter.all false
set_option maxRecDepth 100000
set_option maxHeartbeats 4000000
namespace K
open PySem PySem.Spec PyProof.Rows L2 DL
local macro_rules | `(tactic| walk_at "d") => `(tactic| (try simp only [startD, dSeq, dNext, dIfS, dRet, dRetN, dDrop, dAsg, pName, dOp, dUn, dVar, dC, dCons, dNil, dCB, dTest, dTru, truD, dAnd, dOr, dNot, dIf, dPar, dAug, dI0, dII, dI1, dAbs, dInt, dCall, dIx, dTup, dEqS, eqS, dNeS, dAndV, dOrV, dNotV, dIsi, dLen, lenD, dSl, dCut, dPart, dNoPart, dCL, dlLst, dNew, dLst, dAdd, dMul, dIsN, dNotN, nonD, dSet, dPut, eLen, eTuple, eAll, eAny, eSum, eMax, eMin, dTuple, dTupR1, dYes, dIxL, dlCatVL, dlCatLV, dlCatLL, dlRep, dIterL, dSeqI, dRng1, dRng2, dEnum, pTup, setAll, wipeD, dMt, dMt0, tyM, dAppend, dlRg1, dlRg2, dNewK, dNewT, dRev, dRaise, dDisp1, dZip, dTry, dTryAs, dBreak, dCont,
  ty_int, ty_bl, ty_str, ty_non, ty_tup, mem_int, mem_bool, mem_str, mem_tuple, mem_list, isTy_self, isTy_bool_int, isTy_int_bool, isTy_int_tuple, isTy_int_list, isTy_int_str, isTy_bool_tuple, isTy_bool_list, isTy_bool_str, isTy_str_bool, isTy_str_int, isTy_str_tuple, isTy_str_list, isTy_non_tuple, isTy_non_list, isTy_non_str, isTy_non_int, isTy_non_bool, isTy_tup_list, isTy_tup_int, isTy_tup_str, isTy_tup_bool, isTy_list_tup, isTy_list_int, isTy_list_bool, isTy_list_str,
  sp1, sp2, sp3, sp4, sp5, sp6, updD_same, updD_updD, List.map_cons, List.map_nil, List.length_cons, List.length_nil, List.set_cons_zero, List.set_cons_succ, List.getElem?_cons_zero, List.getElem?_cons_succ, List.cons_append, List.nil_append, Nat.reduceAdd, Nat.reduceSub, List.replicate, Nat.sub_self, decide_eq_true_eq, Bool.not_eq_true', decide_eq_false_iff_not, decide_true, decide_false, Bool.not_true, Bool.not_false, Bool.false_eq_true, Bool.true_eq_false, if_true, if_false, reduceIte, true_and, and_true, List.isEmpty_nil, List.isEmpty_cons, List.flatten_cons, List.flatten_nil, at_0, at_1, at_2, at_3, at_4, at_5, at_6, at_7, at_m1_1, at_m1_2, at_m1_3, at_m1_4, at_m1_5, at_m1_6, nc_0, nc_1, nc_2, nc_3, nc_4, nc_5, nc_6, nc_7, nc_8, nc_9, nc_10, nc_11, nc_12, len_map, not_true_eq_false, not_false_eq_true, ite_true, ite_false, Int.reduceEq, Int.reduceNe, Int.reduceLT, Int.reduceLE, Nat.reduceEqDiff, Option.some.injEq, true_implies, forall_const, sz_0, sz_1, sz_2, sz_3, sz_4, sz_5, sz_6, sz_7, sz_8, sz_9, sz_10, sz_11, sz_12, sz_13, sz_14, sz_15, sz_16, sz_17, sz_18, sz_19, sz_20, ix_4_1, ix_4_2, ix_4_3]))
/-! ### markings by counts -/
def mk (c : Nat → Nat) (e : Ed) : Nat := e.t + c e.a - c e.b
def eM (g : Gr) (c : Nat → Nat) : D := .tup (g.2.map fun e => eN (mk c e))
def Bal0 (g : Gr) (c : Nat → Nat) : Prop := ∀ e ∈ g.2, c e.b ≤ e.t + c e.a
def Fed (g : Gr) (c : Nat → Nat) (v : Nat) : Prop := ∀ e ∈ g.2, e.b = v → 0 < mk c e
theorem bal0_inc {g : Gr} {c : Nat → Nat} {v : Nat} (z : Bal0 g c) (f : Fed g c v) : Bal0 g (inc c v) := fun e he => by
  have h1 := z e he
  have h2 := f e he
  unfold mk at h2
  unfold inc
  by_cases hb : e.b = v
  · rw [if_pos hb]
    have := h2 hb
    rw [hb] at this
    split
    · rename_i ha; rw [ha] at this; omega
    · omega
  · rw [if_neg hb]
    split
    · rename_i ha; rw [ha] at h1; omega
    · exact h1
theorem mk_inc {g : Gr} {c : Nat → Nat} {v : Nat} (z : Bal0 g c) (f : Fed g c v) {e : Ed} (he : e ∈ g.2) : ((mk (inc c v) e : Nat) : Int) = (mk c e : Nat) - (if e.b = v then 1 else 0) + (if e.a = v then 1 else 0) := by
  have h1 := z e he
  have h2 := f e he
  unfold mk at h2 ⊢
  unfold inc
  by_cases hb : e.b = v <;> by_cases ha : e.a = v
  · have := h2 hb
    simp only [hb, ha, if_true] at *
    omega
  · have := h2 hb
    simp only [hb, ha, if_true, if_false] at *
    omega
  · simp only [hb, ha, if_true, if_false] at *
    omega
  · simp only [hb, ha, if_true, if_false] at *
    omega
def sp__law_first : DSp := sp1 fun a h q _ => ∃ g, a = eG g ∧ WF g ∧ q (eM g fun _ => 0) h
def sp__law_fed : DSp := sp3 fun a m v h q _ => ∃ g c u, a = eG g ∧ m = eM g c ∧ v = eN u ∧ WF g ∧ ∀ k : Bool, (k = true ↔ Fed g c u) → q (.bl k) h
def sp__law_fired : DSp := sp3 fun a m v h q _ => ∃ g c u, a = eG g ∧ m = eM g c ∧ v = eN u ∧ WF g ∧ Bal0 g c ∧ Fed g c u ∧ q (eM g (inc c u)) h
theorem sum_zero : ∀ l : List Nat, ((l.map fun _ => (0 : Int))).sum = 0
  | [] => rfl
  | _ :: r => by rw [List.map_cons, List.sum_cons, sum_zero r]; rfl
section
variable {P : Program} {w : World} {K : PySem.W.Frag} {mg : Str → Option Value} {base : Heap} {C_DelayError C_BadNet : Addr}
theorem h__law_first (T : Txt K mg C_DelayError C_BadNet) : Has P w K mg base "_law_first" (2) ["graph"] (sp__law_first) := by
  refine has_of T.a__law_first fun f fd F => okD F sc__law_first len1 fun cdv A outer s H E b ds q xx hr tk hsp => ?_
  refine ⟨_, (dss_one (ds_ret (de_cl (pe_callTy call_tuple_of (by rfl) T.m_tuple bt_tuple (one_l (dl_lc (own := [("edge", 1)]) rfl sc__law_first.nd (di_seq (de_ix (hu_of hr) (de_var (pv 0)) de_int (fun _ _ => rfl))) (blkOk_by (own := [("edge", 1)]) (N := ["graph", "edge"]) (sc := defScope st__law_first) (by decide +kernel)) (ownG_name (by decide)) (fun _ _ _ _ _ => pg_name (i := 1) sc__law_first.nd rfl (Or.inl rfl)) (fun _ _ _ _ _ => dts_nil) (fun _ _ _ _ _ => (de_ix (hu_of hr) (de_var (pv 1)) de_int (fun _ _ => rfl)))))) rlTuple))), ?_⟩
  obtain ⟨d0, rfl, hsp⟩ := inv1 hsp
  obtain ⟨g, rfl, hw, hq⟩ := hsp
  have hm := hw.m
  unfold eG
  walk_at "d"
  refine lcEM g.2 eE (G := fun _ => True) (fun e => eN (mk (fun _ => 0) e)) (fun r hr => by walk_at "d"; exact hr) trivial (accMax_big (by omega)) (fun e he Y hY => ?_) ?_
  · simp only [eE_eq e]
    walk_at "d"
    exact hY
  · exact ⟨b, Sub.refl, hq⟩
theorem h__law_fed (T : Txt K mg C_DelayError C_BadNet) : Has P w K mg base "_law_fed" (2) ["graph", "marking", "v"] (sp__law_fed) := by
  refine has_of T.a__law_fed fun f fd F => okD F sc__law_fed len3 fun cdv A outer s H E b ds q xx hr tk hsp => ?_
  refine ⟨_, (dss_one (ds_ret (de_eq (de_cl (pe_callB call_lenU (by rfl) T.m_len bt_len (one_l (dl_lc (own := [("e", 3)]) rfl sc__law_fed.nd (di_rng1 (by rfl) T.m_range (da_cons (de_cb (pe_callB call_lenU (by rfl) T.m_len bt_len (da_cons (de_var (pv 1)) da_nil)) refLen) da_nil)) (blkOk_by (own := [("e", 3)]) (N := ["graph", "marking", "v", "e"]) (sc := defScope st__law_fed) (by decide +kernel)) (ownG_name (by decide)) (fun _ _ _ _ _ => pg_name (i := 3) sc__law_fed.nd rfl (Or.inl rfl)) (fun _ _ _ _ _ => dts_one (dt_w (dw_and (dt_eq (de_ix (hu_of hr) (de_ix (hu_of hr) (de_ix (hu_of hr) (de_var (pv 0)) de_int (fun _ _ => rfl)) (de_var (pv 3)) (fun _ _ => rfl)) de_int (fun _ _ => rfl)) (de_var (pv 2))) (dw_and1 (dt_eq (de_ix (hu_of hr) (de_var (pv 1)) (de_var (pv 3)) (fun _ _ => rfl)) de_int))))) (fun _ _ _ _ _ => (de_var (pv 3)))))) rlLen) de_int))), ?_⟩
  obtain ⟨d0, d1, d2, rfl, hsp⟩ := inv3 hsp
  obtain ⟨g, c, u, rfl, rfl, rfl, hw, hq⟩ := hsp
  have hm := hw.m
  unfold eG eM
  simp only [show eN u = D.int ((u : Nat) : Int) from rfl]
  walk_at "d"
  refine lcE (List.range g.2.length) eN (G := fun _ => True) (fun i => decide ((gE g i).b = u) && decide (mk c (gE g i) = 0)) eN (fun r hr => by walk_at "d"; rw [rg0]; exact ⟨by omega, by omega, hr⟩) trivial (accMax_big (by rw [List.length_range]; omega)) (fun i hi Y Z hY hZ => ?_) ?_
  · have hi := List.mem_range.mp hi
    have g1 : atI (g.2.map eE) (i : Int) = some (eE (gE g i)) := atI_nat (by rw [List.getElem?_map, gE_get hi]; rfl)
    have g2 : atI (g.2.map fun e => eN (mk c e)) (i : Int) = some (eN (mk c (gE g i))) := atI_nat (by rw [List.getElem?_map, gE_get hi]; rfl)
    simp only [show eN i = D.int ((i : Nat) : Int) from rfl]
    (try simp only [startD, dSeq, dNext, dIfS, dRet, dRetN, dDrop, dAsg, pName, dOp, dUn, dVar, dC, dCons, dNil, dCB, dTest, dTru, truD, dAnd, dOr, dNot, dIf, dPar, dAug, dI0, dII, dI1, dAbs, dInt, dCall, dIx, dTup, dEqS, eqS, dNeS, dAndV, dOrV, dNotV, dIsi, dLen, lenD, dSl, dCut, dPart, dNoPart, dCL, dlLst, dNew, dLst, dAdd, dMul, dIsN, dNotN, nonD, dSet, dPut, eLen, eTuple, eAll, eAny, eSum, eMax, eMin, dTuple, dTupR1, dYes, dIxL, dlCatVL, dlCatLV, dlCatLL, dlRep, dIterL, dSeqI, dRng1, dRng2, dEnum, pTup, setAll, wipeD, dMt, dMt0, tyM, dAppend, dlRg1, dlRg2, dNewK, dNewT, dRev, dRaise, dDisp1, dZip, dTry, dTryAs, dBreak, dCont,   ty_int, ty_bl, ty_str, ty_non, ty_tup, mem_int, mem_bool, mem_str, mem_tuple, mem_list, isTy_self, isTy_bool_int, isTy_int_bool, isTy_int_tuple, isTy_int_list, isTy_int_str, isTy_bool_tuple, isTy_bool_list, isTy_bool_str, isTy_str_bool, isTy_str_int, isTy_str_tuple, isTy_str_list, isTy_non_tuple, isTy_non_list, isTy_non_str, isTy_non_int, isTy_non_bool, isTy_tup_list, isTy_tup_int, isTy_tup_str, isTy_tup_bool, isTy_list_tup, isTy_list_int, isTy_list_bool, isTy_list_str,   sp1, sp2, sp3, sp4, sp5, sp6, updD_same, updD_updD, List.map_cons, List.map_nil, List.length_cons, List.length_nil, List.set_cons_zero, List.set_cons_succ, List.getElem?_cons_zero, List.getElem?_cons_succ, List.cons_append, List.nil_append, Nat.reduceAdd, Nat.reduceSub, List.replicate, Nat.sub_self, decide_eq_true_eq, Bool.not_eq_true', decide_eq_false_iff_not, decide_true, decide_false, Bool.not_true, Bool.not_false, Bool.false_eq_true, Bool.true_eq_false, if_true, if_false, reduceIte, true_and, and_true, List.isEmpty_nil, List.isEmpty_cons, List.flatten_cons, List.flatten_nil, at_0, at_1, at_2, at_3, at_4, at_5, at_6, at_7, at_m1_1, at_m1_2, at_m1_3, at_m1_4, at_m1_5, at_m1_6, nc_0, nc_1, nc_2, nc_3, nc_4, nc_5, nc_6, nc_7, nc_8, nc_9, nc_10, nc_11, nc_12, len_map, not_true_eq_false, not_false_eq_true, ite_true, ite_false, Int.reduceEq, Int.reduceNe, Int.reduceLT, Int.reduceLE, Nat.reduceEqDiff, Option.some.injEq, true_implies, forall_const, sz_0, sz_1, sz_2, sz_3, sz_4, sz_5, sz_6, sz_7, sz_8, sz_9, sz_10, sz_11, sz_12, sz_13, sz_14, sz_15, sz_16, sz_17, sz_18, sz_19, sz_20, ix_4_1, ix_4_2, ix_4_3, g1, g2, eE_eq (gE g i)])
    simp only [show eN (mk c (gE g i)) = D.int ((mk c (gE g i) : Nat) : Int) from rfl]
    (try simp only [startD, dSeq, dNext, dIfS, dRet, dRetN, dDrop, dAsg, pName, dOp, dUn, dVar, dC, dCons, dNil, dCB, dTest, dTru, truD, dAnd, dOr, dNot, dIf, dPar, dAug, dI0, dII, dI1, dAbs, dInt, dCall, dIx, dTup, dEqS, eqS, dNeS, dAndV, dOrV, dNotV, dIsi, dLen, lenD, dSl, dCut, dPart, dNoPart, dCL, dlLst, dNew, dLst, dAdd, dMul, dIsN, dNotN, nonD, dSet, dPut, eLen, eTuple, eAll, eAny, eSum, eMax, eMin, dTuple, dTupR1, dYes, dIxL, dlCatVL, dlCatLV, dlCatLL, dlRep, dIterL, dSeqI, dRng1, dRng2, dEnum, pTup, setAll, wipeD, dMt, dMt0, tyM, dAppend, dlRg1, dlRg2, dNewK, dNewT, dRev, dRaise, dDisp1, dZip, dTry, dTryAs, dBreak, dCont,   ty_int, ty_bl, ty_str, ty_non, ty_tup, mem_int, mem_bool, mem_str, mem_tuple, mem_list, isTy_self, isTy_bool_int, isTy_int_bool, isTy_int_tuple, isTy_int_list, isTy_int_str, isTy_bool_tuple, isTy_bool_list, isTy_bool_str, isTy_str_bool, isTy_str_int, isTy_str_tuple, isTy_str_list, isTy_non_tuple, isTy_non_list, isTy_non_str, isTy_non_int, isTy_non_bool, isTy_tup_list, isTy_tup_int, isTy_tup_str, isTy_tup_bool, isTy_list_tup, isTy_list_int, isTy_list_bool, isTy_list_str,   sp1, sp2, sp3, sp4, sp5, sp6, updD_same, updD_updD, List.map_cons, List.map_nil, List.length_cons, List.length_nil, List.set_cons_zero, List.set_cons_succ, List.getElem?_cons_zero, List.getElem?_cons_succ, List.cons_append, List.nil_append, Nat.reduceAdd, Nat.reduceSub, List.replicate, Nat.sub_self, decide_eq_true_eq, Bool.not_eq_true', decide_eq_false_iff_not, decide_true, decide_false, Bool.not_true, Bool.not_false, Bool.false_eq_true, Bool.true_eq_false, if_true, if_false, reduceIte, true_and, and_true, List.isEmpty_nil, List.isEmpty_cons, List.flatten_cons, List.flatten_nil, at_0, at_1, at_2, at_3, at_4, at_5, at_6, at_7, at_m1_1, at_m1_2, at_m1_3, at_m1_4, at_m1_5, at_m1_6, nc_0, nc_1, nc_2, nc_3, nc_4, nc_5, nc_6, nc_7, nc_8, nc_9, nc_10, nc_11, nc_12, len_map, not_true_eq_false, not_false_eq_true, ite_true, ite_false, Int.reduceEq, Int.reduceNe, Int.reduceLT, Int.reduceLE, Nat.reduceEqDiff, Option.some.injEq, true_implies, forall_const, sz_0, sz_1, sz_2, sz_3, sz_4, sz_5, sz_6, sz_7, sz_8, sz_9, sz_10, sz_11, sz_12, sz_13, sz_14, sz_15, sz_16, sz_17, sz_18, sz_19, sz_20, ix_4_1, ix_4_2, ix_4_3, nat_inj, nat_zero])
    split
    · rename_i c1
      split
      · rename_i c2; exact hY (by simp [c1, c2])
      · rename_i c2; exact hZ (by simp [c2])
    · rename_i c1; exact hZ (by simp [c1])
  · rw [List.length_map]
    refine ⟨b, Sub.refl, hq _ ?_⟩
    rw [decide_eq_true_eq, nat_zero, List.length_eq_zero_iff, List.filter_eq_nil_iff]
    constructor
    · intro h e he hb
      obtain ⟨i, hi⟩ := List.mem_iff_getElem?.mp he
      have := h i (List.mem_range.mpr (List.getElem?_eq_some_iff.mp hi).1)
      rw [gE_eq hi] at this
      simp only [Bool.and_eq_true, decide_eq_true_eq, not_and] at this
      have := this hb
      omega
    · intro f i hi
      have hi := List.mem_range.mp hi
      simp only [Bool.and_eq_true, decide_eq_true_eq, not_and]
      intro hb
      have := f (gE g i) (List.mem_of_getElem? (gE_get hi)) hb
      omega
end
end K

set_option Elab.async false
set_option linter.all false
set_option maxRecDepth 100000
set_option maxHeartbeats 4000000
namespace K
open PySem PySem.Spec PyProof.Rows L2 DL
local macro_rules | `(tactic| walk_at "d") => `(tactic| (try simp only [startD, dSeq, dNext, dIfS, dRet, dRetN, dDrop, dAsg, pName, dOp, dUn, dVar, dC, dCons, dNil, dCB, dTest, dTru, truD, dAnd, dOr, dNot, dIf, dPar, dAug, dI0, dII, dI1, dAbs, dInt, dCall, dIx, dTup, dEqS, eqS, dNeS, dAndV, dOrV, dNotV, dIsi, dLen, lenD, dSl, dCut, dPart, dNoPart, dCL, dlLst, dNew, dLst, dAdd, dMul, dIsN, dNotN, nonD, dSet, dPut, eLen, eTuple, eAll, eAny, eSum, eMax, eMin, dTuple, dTupR1, dYes, dIxL, dlCatVL, dlCatLV, dlCatLL, dlRep, dIterL, dSeqI, dRng1, dRng2, dEnum, pTup, setAll, wipeD, dMt, dMt0, tyM, dAppend, dlRg1, dlRg2, dNewK, dNewT, dRev, dRaise, dDisp1, dZip, dTry, dTryAs, dBreak, dCont,
  ty_int, ty_bl, ty_str, ty_non, ty_tup, mem_int, mem_bool, mem_str, mem_tuple, mem_list, isTy_self, isTy_bool_int, isTy_int_bool, isTy_int_tuple, isTy_int_list, isTy_int_str, isTy_bool_tuple, isTy_bool_list, isTy_bool_str, isTy_str_bool, isTy_str_int, isTy_str_tuple, isTy_str_list, isTy_non_tuple, isTy_non_list, isTy_non_str, isTy_non_int, isTy_non_bool, isTy_tup_list, isTy_tup_int, isTy_tup_str, isTy_tup_bool, isTy_list_tup, isTy_list_int, isTy_list_bool, isTy_list_str,
  sp1, sp2, sp3, sp4, sp5, sp6, updD_same, updD_updD, List.map_cons, List.map_nil, List.length_cons, List.length_nil, List.set_cons_zero, List.set_cons_succ, List.getElem?_cons_zero, List.getElem?_cons_succ, List.cons_append, List.nil_append, Nat.reduceAdd, Nat.reduceSub, List.replicate, Nat.sub_self, decide_eq_true_eq, Bool.not_eq_true', decide_eq_false_iff_not, decide_true, decide_false, Bool.not_true, Bool.not_false, Bool.false_eq_true, Bool.true_eq_false, if_true, if_false, reduceIte, true_and, and_true, List.isEmpty_nil, List.isEmpty_cons, List.flatten_cons, List.flatten_nil, at_0, at_1, at_2, at_3, at_4, at_5, at_6, at_7, at_m1_1, at_m1_2, at_m1_3, at_m1_4, at_m1_5, at_m1_6, nc_0, nc_1, nc_2, nc_3, nc_4, nc_5, nc_6, nc_7, nc_8, nc_9, nc_10, nc_11, nc_12, len_map, not_true_eq_false, not_false_eq_true, ite_true, ite_false, Int.reduceEq, Int.reduceNe, Int.reduceLT, Int.reduceLE, Nat.reduceEqDiff, Option.some.injEq, true_implies, forall_const, sz_0, sz_1, sz_2, sz_3, sz_4, sz_5, sz_6, sz_7, sz_8, sz_9, sz_10, sz_11, sz_12, sz_13, sz_14, sz_15, sz_16, sz_17, sz_18, sz_19, sz_20, ix_4_1, ix_4_2, ix_4_3]))
theorem ifif {α : Type} {p : Prop} [Decidable p] {a c d : α} : (if p then a else if p then c else d) = if p then a else d := by split <;> rfl
theorem rangeG {α : Type} (g : Gr) (f : Ed → α) : g.2.map f = (List.range g.2.length).map fun i => f (gE g i) := by
  apply List.ext_getElem?
  intro i
  by_cases hi : i < g.2.length
  · rw [List.getElem?_map, List.getElem?_map, gE_get hi, List.getElem?_range hi]; rfl
  · rw [List.getElem?_eq_none (by rw [List.length_map]; omega), List.getElem?_eq_none (by rw [List.length_map, List.length_range]; omega)]
theorem set_range {α : Type} {m i : Nat} (f : Nat → α) (x : α) : ((List.range m).map f).set i x = (List.range m).map fun k => if k = i then x else f k := by
  apply List.ext_getElem?
  intro j
  rw [List.getElem?_set, List.getElem?_map, List.getElem?_map, List.length_map, List.length_range]
  by_cases hj : j < m
  · rw [List.getElem?_range hj]
    by_cases h : i = j
    · subst h
      rw [if_pos rfl, if_pos hj]; simp
    · rw [if_neg h]
      have : ¬ j = i := fun z => h z.symm
      simp [this]
  · have hn : (List.range m)[j]? = none := List.getElem?_eq_none (by rw [List.length_range]; omega)
    rw [hn]
    split
    · rename_i h; subst h; rw [if_neg hj]; rfl
    · rfl
theorem at_range {m i : Nat} (f : Nat → D) (hi : i < m) : atI ((List.range m).map f) (i : Int) = some (f i) := atI_nat (by rw [List.getElem?_map, List.getElem?_range hi]; rfl)
section
variable {P : Program} {w : World} {K : PySem.W.Frag} {mg : Str → Option Value} {base : Heap} {C_DelayError C_BadNet : Addr}
theorem h__law_fired (T : Txt K mg C_DelayError C_BadNet) : Has P w K mg base "_law_fired" (2) ["graph", "marking", "v"] (sp__law_fired) := by
  refine has_of T.a__law_fired fun f fd F => okD F sc__law_fired len3 fun cdv A outer s H E b ds q xx hr tk hsp => ?_
  refine ⟨_, (dss_cons (ds_set (i := 3) sc__law_fired.nd rfl (Or.inl rfl) (de_cb (pe_callTy (call_listU rfl) (by rfl) T.m_list bt_list (da_cons (de_var (pv 1)) da_nil)) refList))
  (dss_cons (ds_for (passes_of rfl) rfl (di_rng1 (by rfl) T.m_range (da_cons (de_cb (pe_callB call_lenU (by rfl) T.m_len bt_len (da_cons (de_var (pv 3)) da_nil)) refLen) da_nil)) (pg_name (i := 4) sc__law_fired.nd rfl (Or.inl rfl)) (refG_name 4) (dss_cons (ds_if (dt_eq (de_ix (hu_of hr) (de_ix (hu_of hr) (de_ix (hu_of hr) (de_var (pv 0)) de_int (fun _ _ => rfl)) (de_var (pv 4)) (fun _ _ => rfl)) de_int (fun _ _ => rfl)) (de_var (pv 2))) (dss_one (ds_setItem (de_sub (de_ix (hu_of hr) (de_var (pv 3)) (de_var (pv 4)) (fun _ _ => rfl)) de_int) (de_var (pv 3)) (de_var (pv 4)) (set_u (hu_of hr)) refPut)) dss_nil)
    (dss_one (ds_if (dt_eq (de_ix (hu_of hr) (de_ix (hu_of hr) (de_ix (hu_of hr) (de_var (pv 0)) de_int (fun _ _ => rfl)) (de_var (pv 4)) (fun _ _ => rfl)) de_int (fun _ _ => rfl)) (de_var (pv 2))) (dss_one (ds_setItem (de_add (de_ix (hu_of hr) (de_var (pv 3)) (de_var (pv 4)) (fun _ _ => rfl)) de_int) (de_var (pv 3)) (de_var (pv 4)) (set_u (hu_of hr)) refPut)) dss_nil))))
  (dss_one (ds_ret (de_cb (pe_callTy call_tuple_of (by rfl) T.m_tuple bt_tuple (da_cons (de_var (pv 3)) da_nil)) refTuple))))), ?_⟩
  obtain ⟨d0, d1, d2, rfl, hsp⟩ := inv3 hsp
  obtain ⟨g, c, u, rfl, rfl, rfl, hw, bal, fed, hq⟩ := hsp
  have hm := hw.m
  unfold eG eM
  simp only [show eN u = D.int ((u : Nat) : Int) from rfl]
  walk_at "d"
  intro p hp
  walk_at "d"
  refine forE (List.range g.2.length) eN (G := fun _ => True) (fun j s h => ∃ x4, s = [some (.tup [.int (g.1 : Nat), .tup (g.2.map eE)]), some (.tup (g.2.map fun e => eN (mk c e))), some (.int (u : Nat)), some (.loc p), x4] ∧ DL.Sub b h ∧ h p = some (.lst ((List.range g.2.length).map fun i => eN (if i < j then mk (inc c u) (gE g i) else mk c (gE g i))))) (fun r hr => by
    walk_at "d"
    rw [rg0]
    exact ⟨by omega, by omega, hr⟩) ⟨none, rfl, Sub.new hp, ?_⟩ (fun _ _ _ _ _ => trivial) ?_ ?_
  · rw [updD_same, rangeG g fun e => eN (mk c e)]
    simp
  · rintro j i s h hj ⟨x4, rfl, s1, l1⟩
    have hij : i = j ∧ i < g.2.length := by
      obtain ⟨h5, h6⟩ := List.getElem?_eq_some_iff.mp hj
      rw [List.getElem_range] at h6
      rw [List.length_range] at h5
      omega
    obtain ⟨rfl, hi⟩ := hij
    have g1 : atI (g.2.map eE) (i : Int) = some (eE (gE g i)) := atI_nat (by rw [List.getElem?_map, gE_get hi]; rfl)
    simp only [show eN i = D.int ((i : Nat) : Int) from rfl]
    have fin : ∀ (z : D), z = eN (mk (inc c u) (gE g i)) → ∃ x4, [some (D.tup [.int (g.1 : Nat), .tup (g.2.map eE)]), some (.tup (g.2.map fun e => eN (mk c e))), some (.int (u : Nat)), some (.loc p), some (.int (i : Nat))] = [some (D.tup [.int (g.1 : Nat), .tup (g.2.map eE)]), some (.tup (g.2.map fun e => eN (mk c e))), some (.int (u : Nat)), some (.loc p), x4] ∧
        DL.Sub b (updD h p (.lst ((List.range g.2.length).map fun k => if k = i then z else eN (if k < i then mk (inc c u) (gE g k) else mk c (gE g k))))) ∧
        DO.lst ((List.range g.2.length).map fun k => if k = i then z else eN (if k < i then mk (inc c u) (gE g k) else mk c (gE g k))) = DO.lst ((List.range g.2.length).map fun k => eN (if k < i + 1 then mk (inc c u) (gE g k) else mk c (gE g k))) := fun z hz => by
      refine ⟨_, rfl, s1.mut hp, ?_⟩
      congr 1
      apply List.map_congr_left
      intro k _
      by_cases hk : k = i
      · subst hk; simp [hz]
      · rw [if_neg hk]
        have : k < i + 1 ↔ k < i := by omega
        simp only [this]
    have mki := mk_inc bal fed (e := gE g i) (List.mem_of_getElem? (gE_get hi))
    have gp := at_range (m := g.2.length) (fun k => eN (if k < i then mk (inc c u) (gE g k) else mk c (gE g k))) hi
    simp only [Nat.lt_irrefl, if_false] at gp
    rw [show eN (mk c (gE g i)) = D.int ((mk c (gE g i) : Nat) : Int) from rfl] at gp
    have gq : ∀ z : D, atI ((List.range g.2.length).map fun k => if k = i then z else eN (if k < i then mk (inc c u) (gE g k) else mk c (gE g k))) (i : Int) = some z := fun z => by rw [at_range _ hi, if_pos rfl]
    have ix : ixN g.2.length (i : Int) = some i := ixN_nat hi
    (try simp only [startD, dSeq, dNext, dIfS, dRet, dRetN, dDrop, dAsg, pName, dOp, dUn, dVar, dC, dCons, dNil, dCB, dTest, dTru, truD, dAnd, dOr, dNot, dIf, dPar, dAug, dI0, dII, dI1, dAbs, dInt, dCall, dIx, dTup, dEqS, eqS, dNeS, dAndV, dOrV, dNotV, dIsi, dLen, lenD, dSl, dCut, dPart, dNoPart, dCL, dlLst, dNew, dLst, dAdd, dMul, dIsN, dNotN, nonD, dSet, dPut, eLen, eTuple, eAll, eAny, eSum, eMax, eMin, dTuple, dTupR1, dYes, dIxL, dlCatVL, dlCatLV, dlCatLL, dlRep, dIterL, dSeqI, dRng1, dRng2, dEnum, pTup, setAll, wipeD, dMt, dMt0, tyM, dAppend, dlRg1, dlRg2, dNewK, dNewT, dRev, dRaise, dDisp1, dZip, dTry, dTryAs, dBreak, dCont,   ty_int, ty_bl, ty_str, ty_non, ty_tup, mem_int, mem_bool, mem_str, mem_tuple, mem_list, isTy_self, isTy_bool_int, isTy_int_bool, isTy_int_tuple, isTy_int_list, isTy_int_str, isTy_bool_tuple, isTy_bool_list, isTy_bool_str, isTy_str_bool, isTy_str_int, isTy_str_tuple, isTy_str_list, isTy_non_tuple, isTy_non_list, isTy_non_str, isTy_non_int, isTy_non_bool, isTy_tup_list, isTy_tup_int, isTy_tup_str, isTy_tup_bool, isTy_list_tup, isTy_list_int, isTy_list_bool, isTy_list_str,   sp1, sp2, sp3, sp4, sp5, sp6, updD_same, updD_updD, List.map_cons, List.map_nil, List.length_cons, List.length_nil, List.set_cons_zero, List.set_cons_succ, List.getElem?_cons_zero, List.getElem?_cons_succ, List.cons_append, List.nil_append, Nat.reduceAdd, Nat.reduceSub, List.replicate, Nat.sub_self, decide_eq_true_eq, Bool.not_eq_true', decide_eq_false_iff_not, decide_true, decide_false, Bool.not_true, Bool.not_false, Bool.false_eq_true, Bool.true_eq_false, if_true, if_false, reduceIte, true_and, and_true, List.isEmpty_nil, List.isEmpty_cons, List.flatten_cons, List.flatten_nil, at_0, at_1, at_2, at_3, at_4, at_5, at_6, at_7, at_m1_1, at_m1_2, at_m1_3, at_m1_4, at_m1_5, at_m1_6, nc_0, nc_1, nc_2, nc_3, nc_4, nc_5, nc_6, nc_7, nc_8, nc_9, nc_10, nc_11, nc_12, len_map, not_true_eq_false, not_false_eq_true, ite_true, ite_false, Int.reduceEq, Int.reduceNe, Int.reduceLT, Int.reduceLE, Nat.reduceEqDiff, Option.some.injEq, true_implies, forall_const, sz_0, sz_1, sz_2, sz_3, sz_4, sz_5, sz_6, sz_7, sz_8, sz_9, sz_10, sz_11, sz_12, sz_13, sz_14, sz_15, sz_16, sz_17, sz_18, sz_19, sz_20, ix_4_1, ix_4_2, ix_4_3, g1, eE_eq (gE g i), nat_inj, l1])
    by_cases c1 : (gE g i).b = u <;> by_cases c2 : (gE g i).a = u
    · simp only [c1, c2, if_true]
      (try simp only [startD, dSeq, dNext, dIfS, dRet, dRetN, dDrop, dAsg, pName, dOp, dUn, dVar, dC, dCons, dNil, dCB, dTest, dTru, truD, dAnd, dOr, dNot, dIf, dPar, dAug, dI0, dII, dI1, dAbs, dInt, dCall, dIx, dTup, dEqS, eqS, dNeS, dAndV, dOrV, dNotV, dIsi, dLen, lenD, dSl, dCut, dPart, dNoPart, dCL, dlLst, dNew, dLst, dAdd, dMul, dIsN, dNotN, nonD, dSet, dPut, eLen, eTuple, eAll, eAny, eSum, eMax, eMin, dTuple, dTupR1, dYes, dIxL, dlCatVL, dlCatLV, dlCatLL, dlRep, dIterL, dSeqI, dRng1, dRng2, dEnum, pTup, setAll, wipeD, dMt, dMt0, tyM, dAppend, dlRg1, dlRg2, dNewK, dNewT, dRev, dRaise, dDisp1, dZip, dTry, dTryAs, dBreak, dCont,   ty_int, ty_bl, ty_str, ty_non, ty_tup, mem_int, mem_bool, mem_str, mem_tuple, mem_list, isTy_self, isTy_bool_int, isTy_int_bool, isTy_int_tuple, isTy_int_list, isTy_int_str, isTy_bool_tuple, isTy_bool_list, isTy_bool_str, isTy_str_bool, isTy_str_int, isTy_str_tuple, isTy_str_list, isTy_non_tuple, isTy_non_list, isTy_non_str, isTy_non_int, isTy_non_bool, isTy_tup_list, isTy_tup_int, isTy_tup_str, isTy_tup_bool, isTy_list_tup, isTy_list_int, isTy_list_bool, isTy_list_str,   sp1, sp2, sp3, sp4, sp5, sp6, updD_same, updD_updD, List.map_cons, List.map_nil, List.length_cons, List.length_nil, List.set_cons_zero, List.set_cons_succ, List.getElem?_cons_zero, List.getElem?_cons_succ, List.cons_append, List.nil_append, Nat.reduceAdd, Nat.reduceSub, List.replicate, Nat.sub_self, decide_eq_true_eq, Bool.not_eq_true', decide_eq_false_iff_not, decide_true, decide_false, Bool.not_true, Bool.not_false, Bool.false_eq_true, Bool.true_eq_false, if_true, if_false, reduceIte, true_and, and_true, List.isEmpty_nil, List.isEmpty_cons, List.flatten_cons, List.flatten_nil, at_0, at_1, at_2, at_3, at_4, at_5, at_6, at_7, at_m1_1, at_m1_2, at_m1_3, at_m1_4, at_m1_5, at_m1_6, nc_0, nc_1, nc_2, nc_3, nc_4, nc_5, nc_6, nc_7, nc_8, nc_9, nc_10, nc_11, nc_12, len_map, not_true_eq_false, not_false_eq_true, ite_true, ite_false, Int.reduceEq, Int.reduceNe, Int.reduceLT, Int.reduceLE, Nat.reduceEqDiff, Option.some.injEq, true_implies, forall_const, sz_0, sz_1, sz_2, sz_3, sz_4, sz_5, sz_6, sz_7, sz_8, sz_9, sz_10, sz_11, sz_12, sz_13, sz_14, sz_15, sz_16, sz_17, sz_18, sz_19, sz_20, ix_4_1, ix_4_2, ix_4_3, l1, gp, ix, List.length_range, set_range, gq, ifif])
      exact fin _ (by unfold eN; rw [mki, if_pos c1, if_pos c2])
    · simp only [c1, c2, if_true, if_false]
      (try simp only [startD, dSeq, dNext, dIfS, dRet, dRetN, dDrop, dAsg, pName, dOp, dUn, dVar, dC, dCons, dNil, dCB, dTest, dTru, truD, dAnd, dOr, dNot, dIf, dPar, dAug, dI0, dII, dI1, dAbs, dInt, dCall, dIx, dTup, dEqS, eqS, dNeS, dAndV, dOrV, dNotV, dIsi, dLen, lenD, dSl, dCut, dPart, dNoPart, dCL, dlLst, dNew, dLst, dAdd, dMul, dIsN, dNotN, nonD, dSet, dPut, eLen, eTuple, eAll, eAny, eSum, eMax, eMin, dTuple, dTupR1, dYes, dIxL, dlCatVL, dlCatLV, dlCatLL, dlRep, dIterL, dSeqI, dRng1, dRng2, dEnum, pTup, setAll, wipeD, dMt, dMt0, tyM, dAppend, dlRg1, dlRg2, dNewK, dNewT, dRev, dRaise, dDisp1, dZip, dTry, dTryAs, dBreak, dCont,   ty_int, ty_bl, ty_str, ty_non, ty_tup, mem_int, mem_bool, mem_str, mem_tuple, mem_list, isTy_self, isTy_bool_int, isTy_int_bool, isTy_int_tuple, isTy_int_list, isTy_int_str, isTy_bool_tuple, isTy_bool_list, isTy_bool_str, isTy_str_bool, isTy_str_int, isTy_str_tuple, isTy_str_list, isTy_non_tuple, isTy_non_list, isTy_non_str, isTy_non_int, isTy_non_bool, isTy_tup_list, isTy_tup_int, isTy_tup_str, isTy_tup_bool, isTy_list_tup, isTy_list_int, isTy_list_bool, isTy_list_str,   sp1, sp2, sp3, sp4, sp5, sp6, updD_same, updD_updD, List.map_cons, List.map_nil, List.length_cons, List.length_nil, List.set_cons_zero, List.set_cons_succ, List.getElem?_cons_zero, List.getElem?_cons_succ, List.cons_append, List.nil_append, Nat.reduceAdd, Nat.reduceSub, List.replicate, Nat.sub_self, decide_eq_true_eq, Bool.not_eq_true', decide_eq_false_iff_not, decide_true, decide_false, Bool.not_true, Bool.not_false, Bool.false_eq_true, Bool.true_eq_false, if_true, if_false, reduceIte, true_and, and_true, List.isEmpty_nil, List.isEmpty_cons, List.flatten_cons, List.flatten_nil, at_0, at_1, at_2, at_3, at_4, at_5, at_6, at_7, at_m1_1, at_m1_2, at_m1_3, at_m1_4, at_m1_5, at_m1_6, nc_0, nc_1, nc_2, nc_3, nc_4, nc_5, nc_6, nc_7, nc_8, nc_9, nc_10, nc_11, nc_12, len_map, not_true_eq_false, not_false_eq_true, ite_true, ite_false, Int.reduceEq, Int.reduceNe, Int.reduceLT, Int.reduceLE, Nat.reduceEqDiff, Option.some.injEq, true_implies, forall_const, sz_0, sz_1, sz_2, sz_3, sz_4, sz_5, sz_6, sz_7, sz_8, sz_9, sz_10, sz_11, sz_12, sz_13, sz_14, sz_15, sz_16, sz_17, sz_18, sz_19, sz_20, ix_4_1, ix_4_2, ix_4_3, l1, gp, ix, List.length_range, set_range, gq])
      exact fin _ (by unfold eN; rw [mki, if_pos c1, if_neg c2]; congr 1 <;> omega)
    · simp only [c1, c2, if_true, if_false]
      (try simp only [startD, dSeq, dNext, dIfS, dRet, dRetN, dDrop, dAsg, pName, dOp, dUn, dVar, dC, dCons, dNil, dCB, dTest, dTru, truD, dAnd, dOr, dNot, dIf, dPar, dAug, dI0, dII, dI1, dAbs, dInt, dCall, dIx, dTup, dEqS, eqS, dNeS, dAndV, dOrV, dNotV, dIsi, dLen, lenD, dSl, dCut, dPart, dNoPart, dCL, dlLst, dNew, dLst, dAdd, dMul, dIsN, dNotN, nonD, dSet, dPut, eLen, eTuple, eAll, eAny, eSum, eMax, eMin, dTuple, dTupR1, dYes, dIxL, dlCatVL, dlCatLV, dlCatLL, dlRep, dIterL, dSeqI, dRng1, dRng2, dEnum, pTup, setAll, wipeD, dMt, dMt0, tyM, dAppend, dlRg1, dlRg2, dNewK, dNewT, dRev, dRaise, dDisp1, dZip, dTry, dTryAs, dBreak, dCont,   ty_int, ty_bl, ty_str, ty_non, ty_tup, mem_int, mem_bool, mem_str, mem_tuple, mem_list, isTy_self, isTy_bool_int, isTy_int_bool, isTy_int_tuple, isTy_int_list, isTy_int_str, isTy_bool_tuple, isTy_bool_list, isTy_bool_str, isTy_str_bool, isTy_str_int, isTy_str_tuple, isTy_str_list, isTy_non_tuple, isTy_non_list, isTy_non_str, isTy_non_int, isTy_non_bool, isTy_tup_list, isTy_tup_int, isTy_tup_str, isTy_tup_bool, isTy_list_tup, isTy_list_int, isTy_list_bool, isTy_list_str,   sp1, sp2, sp3, sp4, sp5, sp6, updD_same, updD_updD, List.map_cons, List.map_nil, List.length_cons, List.length_nil, List.set_cons_zero, List.set_cons_succ, List.getElem?_cons_zero, List.getElem?_cons_succ, List.cons_append, List.nil_append, Nat.reduceAdd, Nat.reduceSub, List.replicate, Nat.sub_self, decide_eq_true_eq, Bool.not_eq_true', decide_eq_false_iff_not, decide_true, decide_false, Bool.not_true, Bool.not_false, Bool.false_eq_true, Bool.true_eq_false, if_true, if_false, reduceIte, true_and, and_true, List.isEmpty_nil, List.isEmpty_cons, List.flatten_cons, List.flatten_nil, at_0, at_1, at_2, at_3, at_4, at_5, at_6, at_7, at_m1_1, at_m1_2, at_m1_3, at_m1_4, at_m1_5, at_m1_6, nc_0, nc_1, nc_2, nc_3, nc_4, nc_5, nc_6, nc_7, nc_8, nc_9, nc_10, nc_11, nc_12, len_map, not_true_eq_false, not_false_eq_true, ite_true, ite_false, Int.reduceEq, Int.reduceNe, Int.reduceLT, Int.reduceLE, Nat.reduceEqDiff, Option.some.injEq, true_implies, forall_const, sz_0, sz_1, sz_2, sz_3, sz_4, sz_5, sz_6, sz_7, sz_8, sz_9, sz_10, sz_11, sz_12, sz_13, sz_14, sz_15, sz_16, sz_17, sz_18, sz_19, sz_20, ix_4_1, ix_4_2, ix_4_3, l1, gp, ix, List.length_range, set_range, gq])
      exact fin _ (by unfold eN; rw [mki, if_neg c1, if_pos c2]; congr 1 <;> omega)
    · simp only [c1, c2, if_false]
      refine ⟨_, rfl, s1, ?_⟩
      congr 1
      apply List.map_congr_left
      intro k _
      by_cases hk : k = i
      · subst hk
        rw [if_neg c1, if_neg c2] at mki
        rw [if_neg (Nat.lt_irrefl _), if_pos (Nat.lt_succ_self _), show mk (inc c u) (gE g k) = mk c (gE g k) by omega]
      · have : k < i + 1 ↔ k < i := by omega
        simp only [this]
  · rintro s h ⟨x4, rfl, s1, l1⟩
    rw [List.length_range] at l1
    (try simp only [startD, dSeq, dNext, dIfS, dRet, dRetN, dDrop, dAsg, pName, dOp, dUn, dVar, dC, dCons, dNil, dCB, dTest, dTru, truD, dAnd, dOr, dNot, dIf, dPar, dAug, dI0, dII, dI1, dAbs, dInt, dCall, dIx, dTup, dEqS, eqS, dNeS, dAndV, dOrV, dNotV, dIsi, dLen, lenD, dSl, dCut, dPart, dNoPart, dCL, dlLst, dNew, dLst, dAdd, dMul, dIsN, dNotN, nonD, dSet, dPut, eLen, eTuple, eAll, eAny, eSum, eMax, eMin, dTuple, dTupR1, dYes, dIxL, dlCatVL, dlCatLV, dlCatLL, dlRep, dIterL, dSeqI, dRng1, dRng2, dEnum, pTup, setAll, wipeD, dMt, dMt0, tyM, dAppend, dlRg1, dlRg2, dNewK, dNewT, dRev, dRaise, dDisp1, dZip, dTry, dTryAs, dBreak, dCont,   ty_int, ty_bl, ty_str, ty_non, ty_tup, mem_int, mem_bool, mem_str, mem_tuple, mem_list, isTy_self, isTy_bool_int, isTy_int_bool, isTy_int_tuple, isTy_int_list, isTy_int_str, isTy_bool_tuple, isTy_bool_list, isTy_bool_str, isTy_str_bool, isTy_str_int, isTy_str_tuple, isTy_str_list, isTy_non_tuple, isTy_non_list, isTy_non_str, isTy_non_int, isTy_non_bool, isTy_tup_list, isTy_tup_int, isTy_tup_str, isTy_tup_bool, isTy_list_tup, isTy_list_int, isTy_list_bool, isTy_list_str,   sp1, sp2, sp3, sp4, sp5, sp6, updD_same, updD_updD, List.map_cons, List.map_nil, List.length_cons, List.length_nil, List.set_cons_zero, List.set_cons_succ, List.getElem?_cons_zero, List.getElem?_cons_succ, List.cons_append, List.nil_append, Nat.reduceAdd, Nat.reduceSub, List.replicate, Nat.sub_self, decide_eq_true_eq, Bool.not_eq_true', decide_eq_false_iff_not, decide_true, decide_false, Bool.not_true, Bool.not_false, Bool.false_eq_true, Bool.true_eq_false, if_true, if_false, reduceIte, true_and, and_true, List.isEmpty_nil, List.isEmpty_cons, List.flatten_cons, List.flatten_nil, at_0, at_1, at_2, at_3, at_4, at_5, at_6, at_7, at_m1_1, at_m1_2, at_m1_3, at_m1_4, at_m1_5, at_m1_6, nc_0, nc_1, nc_2, nc_3, nc_4, nc_5, nc_6, nc_7, nc_8, nc_9, nc_10, nc_11, nc_12, len_map, not_true_eq_false, not_false_eq_true, ite_true, ite_false, Int.reduceEq, Int.reduceNe, Int.reduceLT, Int.reduceLE, Nat.reduceEqDiff, Option.some.injEq, true_implies, forall_const, sz_0, sz_1, sz_2, sz_3, sz_4, sz_5, sz_6, sz_7, sz_8, sz_9, sz_10, sz_11, sz_12, sz_13, sz_14, sz_15, sz_16, sz_17, sz_18, sz_19, sz_20, ix_4_1, ix_4_2, ix_4_3, l1])
    refine ⟨b, s1, ?_⟩
    have : ((List.range g.2.length).map fun i => eN (if i < g.2.length then mk (inc c u) (gE g i) else mk c (gE g i))) = g.2.map fun e => eN (mk (inc c u) e) := by
      rw [rangeG g fun e => eN (mk (inc c u) e)]
      apply List.map_congr_left
      intro i hi
      rw [if_pos (List.mem_range.mp hi)]
    rw [this]
    exact hq
end
end K

set_option Elab.async false
set_option linter.all false
set_option maxRecDepth 100000
set_option maxHeartbeats 4000000
namespace K
open PySem PySem.Spec PyProof.Rows L2 DL
local macro_rules | `(tactic| walk_at "d") => `(tactic| (try simp only [startD, dSeq, dNext, dIfS, dRet, dRetN, dDrop, dAsg, pName, dOp, dUn, dVar, dC, dCons, dNil, dCB, dTest, dTru, truD, dAnd, dOr, dNot, dIf, dPar, dAug, dI0, dII, dI1, dAbs, dInt, dCall, dIx, dTup, dEqS, eqS, dNeS, dAndV, dOrV, dNotV, dIsi, dLen, lenD, dSl, dCut, dPart, dNoPart, dCL, dlLst, dNew, dLst, dAdd, dMul, dIsN, dNotN, nonD, dSet, dPut, eLen, eTuple, eAll, eAny, eSum, eMax, eMin, dTuple, dTupR1, dYes, dIxL, dlCatVL, dlCatLV, dlCatLL, dlRep, dIterL, dSeqI, dRng1, dRng2, dEnum, pTup, setAll, wipeD, dMt, dMt0, tyM, dAppend, dlRg1, dlRg2, dNewK, dNewT, dRev, dRaise, dDisp1, dZip, dTry, dTryAs, dBreak, dCont,
  ty_int, ty_bl, ty_str, ty_non, ty_tup, mem_int, mem_bool, mem_str, mem_tuple, mem_list, isTy_self, isTy_bool_int, isTy_int_bool, isTy_int_tuple, isTy_int_list, isTy_int_str, isTy_bool_tuple, isTy_bool_list, isTy_bool_str, isTy_str_bool, isTy_str_int, isTy_str_tuple, isTy_str_list, isTy_non_tuple, isTy_non_list, isTy_non_str, isTy_non_int, isTy_non_bool, isTy_tup_list, isTy_tup_int, isTy_tup_str, isTy_tup_bool, isTy_list_tup, isTy_list_int, isTy_list_bool, isTy_list_str,
  sp1, sp2, sp3, sp4, sp5, sp6, updD_same, updD_updD, List.map_cons, List.map_nil, List.length_cons, List.length_nil, List.set_cons_zero, List.set_cons_succ, List.getElem?_cons_zero, List.getElem?_cons_succ, List.cons_append, List.nil_append, Nat.reduceAdd, Nat.reduceSub, List.replicate, Nat.sub_self, decide_eq_true_eq, Bool.not_eq_true', decide_eq_false_iff_not, decide_true, decide_false, Bool.not_true, Bool.not_false, Bool.false_eq_true, Bool.true_eq_false, if_true, if_false, reduceIte, true_and, and_true, List.isEmpty_nil, List.isEmpty_cons, List.flatten_cons, List.flatten_nil, at_0, at_1, at_2, at_3, at_4, at_5, at_6, at_7, at_m1_1, at_m1_2, at_m1_3, at_m1_4, at_m1_5, at_m1_6, nc_0, nc_1, nc_2, nc_3, nc_4, nc_5, nc_6, nc_7, nc_8, nc_9, nc_10, nc_11, nc_12, len_map, not_true_eq_false, not_false_eq_true, ite_true, ite_false, Int.reduceEq, Int.reduceNe, Int.reduceLT, Int.reduceLE, Nat.reduceEqDiff, Option.some.injEq, true_implies, forall_const, sz_0, sz_1, sz_2, sz_3, sz_4, sz_5, sz_6, sz_7, sz_8, sz_9, sz_10, sz_11, sz_12, sz_13, sz_14, sz_15, sz_16, sz_17, sz_18, sz_19, sz_20, ix_4_1, ix_4_2, ix_4_3]))
/-- runs, by the counts of firings -/
inductive Run (g : Gr) : (Nat → Nat) → Prop
  | zero : Run g fun _ => 0
  | step {c v} : Run g c → v < g.1 → Fed g c v → Run g (inc c v)
theorem Run.bal {g : Gr} {c : Nat → Nat} (r : Run g c) : Bal0 g c := by
  induction r with
  | zero => exact fun e _ => Nat.zero_le _
  | step _ _ f ih => exact bal0_inc ih f
theorem Run.dead {g : Gr} {c : Nat → Nat} {L : List Nat} (r : Run g c) (hd : Dead g L) : ∀ v ∈ L, c v = 0 := by
  induction r with
  | zero => exact fun _ _ => rfl
  | @step c v _ _ f ih =>
    intro u hu
    unfold inc
    split
    · rename_i e
      subst e
      obtain ⟨e, he, e1, e2, e3⟩ := hd u hu
      have := f e he e1
      unfold mk at this
      rw [e2, ih _ e3] at this
      omega
    · exact ih u hu
instance {g : Gr} {c : Nat → Nat} {v : Nat} : Decidable (Fed g c v) := by unfold Fed; infer_instance
def cntD (g : Gr) (c : Nat → Nat) : DO := .lst ((List.range g.1).map fun v => eN (c v))
def sp__law_strolled : DSp := sp3 fun a gr m h q _ => ∃ dl sl ns d g M, a = .loc dl ∧ gr = eG g ∧ m = .int (M : Nat) ∧ M ≤ 1000 ∧ WF g ∧ IsDr h dl sl ns d ∧
  ∀ c d' p, Run g c → 0 ≤ Dr.i d' → 0 ≤ Dr.b d' → h p = none → p ≠ dl → q (.tup [eM g c, .loc p]) (updD (updD h dl (drL sl d')) p (cntD g c))
theorem at_last {ds : List D} {d : D} (h : ds[ds.length - 1]? = some d) : atI ds (-1) = some d := by
  unfold atI
  have h0 := (List.getElem?_eq_some_iff.mp h).1
  have : ixN ds.length (-1) = some (ds.length - 1) := by
    unfold ixN
    rw [if_neg (by omega)]
    simp
    omega
  rw [this]; exact h
section
variable {P : Program} {w : World} {K : PySem.W.Frag} {mg : Str → Option Value} {base : Heap} {C_DelayError C_BadNet : Addr}
theorem h__law_strolled (T : Txt K mg C_DelayError C_BadNet) (H__law_fired : Has P w K mg base "_law_fired" 2 ["graph", "marking", "v"] sp__law_fired) (H__law_draw : Has P w K mg base "_law_draw" 2 ["draws", "limit"] sp__law_draw) (H__law_fed : Has P w K mg base "_law_fed" 2 ["graph", "marking", "v"] sp__law_fed) (H__law_first : Has P w K mg base "_law_first" 2 ["graph"] sp__law_first) : Has P w K mg base "_law_strolled" (3) ["draws", "graph", "many"] (sp__law_strolled) := by
  refine has_of T.a__law_strolled fun f fd F => okD F sc__law_strolled len3 fun cdv A outer s H E b ds q xx hr tk hsp => ?_
  have hr__law_fired := hr.mono (show 2 ≤ 2 by decide)
  have hr__law_draw := hr.mono (show 2 ≤ 2 by decide)
  have hr__law_fed := hr.mono (show 2 ≤ 2 by decide)
  have hr__law_first := hr.mono (show 2 ≤ 2 by decide)
  refine ⟨_, (dss_cons (ds_set (i := 3) sc__law_strolled.nd rfl (Or.inr rfl) (de_callH H__law_first hr__law_first (by rfl) tk (da_cons (de_var (pv 1)) da_nil)))
  (dss_cons (ds_set (i := 4) sc__law_strolled.nd rfl (Or.inl rfl) (de_new (dl_rep (dl_lst (da_cons de_int da_nil)) (de_ix (hu_of hr) (de_var (pv 1)) de_int (fun _ _ => rfl)))))
  (dss_cons (ds_for (passes_of rfl) rfl (di_rng1 (by rfl) T.m_range (da_cons (de_var (pv 2)) da_nil)) (pg_name (i := 5) sc__law_strolled.nd rfl (Or.inl rfl)) (refG_name 5) (dss_cons (ds_setLcL (i := 6) (hyl := rfl) (hsw := sw_true rfl rfl rfl (by decide +kernel)) (hy := rfl) (own := [("v", 7)]) rfl sc__law_strolled.nd (di_rng1 (by rfl) T.m_range (da_cons (de_ix (hu_of hr) (de_var (pv 1)) de_int (fun _ _ => rfl)) da_nil)) (blkOk_by (own := [("v", 7)]) (N := ["draws", "graph", "many", "marking", "counts", "k", "ready", "v"]) (sc := defScope st__law_strolled) (by decide +kernel)) (ownG_name (by decide)) (fun _ _ _ _ _ => pg_name (i := 7) sc__law_strolled.nd rfl (Or.inl rfl)) (fun _ _ _ _ _ => dts_one (dt_tru (de_callH H__law_fed hr__law_fed (by rfl) takes_none (da_cons (de_var (pv 1)) (da_cons (de_var (pv 3)) (da_cons (de_var (pv 7)) da_nil)))))) (fun _ _ _ _ _ => (de_var (pv 7))))
    (dss_one (ds_if (dt_gt (de_cb (pe_callB call_lenU (by rfl) T.m_len bt_len (da_cons (de_var (pv 6)) da_nil)) refLen) de_int) (dss_cons (ds_set (i := 7) sc__law_strolled.nd rfl (Or.inl rfl) (de_ix (hu_of hr) (de_var (pv 6)) (de_callH H__law_draw hr__law_draw (by rfl) tk (da_cons (de_var (pv 0)) (da_cons (de_cb (pe_callB call_lenU (by rfl) T.m_len bt_len (da_cons (de_var (pv 6)) da_nil)) refLen) da_nil))) (fun _ _ => rfl)))
      (dss_cons (ds_set (i := 3) sc__law_strolled.nd rfl (Or.inr rfl) (de_callH H__law_fired hr__law_fired (by rfl) tk (da_cons (de_var (pv 1)) (da_cons (de_var (pv 3)) (da_cons (de_var (pv 7)) da_nil)))))
      (dss_one (ds_setItem (de_add (de_ix (hu_of hr) (de_var (pv 4)) (de_var (pv 7)) (fun _ _ => rfl)) de_int) (de_var (pv 4)) (de_var (pv 7)) (set_u (hu_of hr)) refPut)))) dss_nil))))
  (dss_one (ds_ret (de_tup (da_cons (de_var (pv 3)) (da_cons (de_var (pv 4)) da_nil)))))))), ?_⟩
  obtain ⟨d0, d1, d2, rfl, hsp⟩ := inv3 hsp
  obtain ⟨dl, sl, ns, d, g, M, rfl, rfl, rfl, hM, hw, dr, hq⟩ := hsp
  have dw := Dw.init dr
  have hn := hw.n
  walk_at "d"
  refine ⟨g, rfl, hw, ?_⟩
  unfold eG
  walk_at "d"
  refine ⟨by omega, by omega, sz_big (by omega), fun p hp => ?_⟩
  have npd : p ≠ dl := (dw.free hp).2
  have l0 : (List.replicate ((g.1 : Nat) : Int).toNat [D.int 0]).flatten = (List.range g.1).map fun v => eN 0 := by
    simp only [eN, List.flatten_replicate_singleton, Int.toNat_natCast, nc_0]
    apply List.ext_getElem?
    intro i
    rw [List.getElem?_replicate, List.getElem?_map]
    by_cases hi : i < g.1
    · rw [if_pos hi, List.getElem?_range hi]; rfl
    · rw [if_neg hi, List.getElem?_eq_none (by rw [List.length_range]; omega)]; rfl
  rw [l0]
  refine forG (xs := rgD 0 (M : Nat)) (G := fun _ => True) (fun i s h => ∃ (c : Nat → Nat) (x5 x6 x7 : Option D), s = [some (.loc dl), some (.tup [.int (g.1 : Nat), .tup (g.2.map eE)]), some (.int (M : Nat)), some (eM g c), some (.loc p), x5, x6, x7] ∧ Dw b dl sl ns h ∧ Run g c ∧ h p = some (cntD g c)) (fun r hr => by walk_at "d"; exact ⟨by omega, by omega, hr⟩) ⟨_, none, none, none, rfl, dw.new hp, .zero, updD_same⟩ (fun _ _ _ _ _ => trivial) ?_ ?_
  · rintro i x s h hx ⟨c, x5, x6, x7, rfl, dw1, run, l1⟩
    walk_at "d"
    refine lcE (List.range g.1) eN (G := fun _ => True) (fun v => decide (Fed g c v)) eN (fun r hr => by walk_at "d"; rw [rg0]; exact ⟨by omega, by omega, hr⟩) trivial (accMax_big (by rw [List.length_range]; omega)) (fun v hv Y Z hY hZ => ?_) ?_
    · walk_at "d"
      refine ⟨g, c, v, rfl, rfl, rfl, hw, fun k hk => ?_⟩
      cases k with
      | true => walk_at "d"; exact hY (decide_eq_true (hk.mp rfl))
      | false => walk_at "d"; exact hZ (decide_eq_false fun z => nomatch hk.mpr z)
    · intro pr hpr
      generalize hR : (List.range g.1).filter (fun v => decide (Fed g c v)) = R
      have memR : ∀ v ∈ R, v < g.1 ∧ Fed g c v := fun v hv => by
        rw [← hR, List.mem_filter, List.mem_range, decide_eq_true_eq] at hv
        exact hv
      have lenR : R.length ≤ g.1 := by
        rw [← hR]
        exact Nat.le_trans (List.length_filter_le _ _) (by rw [List.length_range]; exact Nat.le_refl _)
      have nppr : p ≠ pr := fun z => by rw [← z, l1] at hpr; cases hpr
      obtain ⟨bpr, nprd⟩ := dw1.free hpr
      have dw2 := dw1.new (o := .lst (R.map eN)) hpr
      have l2 : updD h pr (.lst (R.map eN)) p = some (cntD g c) := by rw [updD_ne nppr, l1]
      have l3 : updD h pr (.lst (R.map eN)) pr = some (.lst (R.map eN)) := updD_same
      walk_at "d"
      split
      · refine draw_use dw2 R.length (by omega) (by omega) fun j H2 hj dw3 keep => ?_
        have l4 : H2 pr = some (.lst (R.map eN)) := by rw [keep _ nprd, l3]
        have l5 : H2 p = some (cntD g c) := by rw [keep _ npd, l2]
        have g1 : atI (R.map eN) ((j : Nat) : Int) = some (eN R[j]) := atI_nat (by rw [List.getElem?_map, List.getElem?_eq_getElem hj]; rfl)
        obtain ⟨hv, fed⟩ := memR _ (List.getElem_mem hj)
        simp only [show eN j = D.int ((j : Nat) : Int) from rfl]
        (try simp only [startD, dSeq, dNext, dIfS, dRet, dRetN, dDrop, dAsg, pName, dOp, dUn, dVar, dC, dCons, dNil, dCB, dTest, dTru, truD, dAnd, dOr, dNot, dIf, dPar, dAug, dI0, dII, dI1, dAbs, dInt, dCall, dIx, dTup, dEqS, eqS, dNeS, dAndV, dOrV, dNotV, dIsi, dLen, lenD, dSl, dCut, dPart, dNoPart, dCL, dlLst, dNew, dLst, dAdd, dMul, dIsN, dNotN, nonD, dSet, dPut, eLen, eTuple, eAll, eAny, eSum, eMax, eMin, dTuple, dTupR1, dYes, dIxL, dlCatVL, dlCatLV, dlCatLL, dlRep, dIterL, dSeqI, dRng1, dRng2, dEnum, pTup, setAll, wipeD, dMt, dMt0, tyM, dAppend, dlRg1, dlRg2, dNewK, dNewT, dRev, dRaise, dDisp1, dZip, dTry, dTryAs, dBreak, dCont,   ty_int, ty_bl, ty_str, ty_non, ty_tup, mem_int, mem_bool, mem_str, mem_tuple, mem_list, isTy_self, isTy_bool_int, isTy_int_bool, isTy_int_tuple, isTy_int_list, isTy_int_str, isTy_bool_tuple, isTy_bool_list, isTy_bool_str, isTy_str_bool, isTy_str_int, isTy_str_tuple, isTy_str_list, isTy_non_tuple, isTy_non_list, isTy_non_str, isTy_non_int, isTy_non_bool, isTy_tup_list, isTy_tup_int, isTy_tup_str, isTy_tup_bool, isTy_list_tup, isTy_list_int, isTy_list_bool, isTy_list_str,   sp1, sp2, sp3, sp4, sp5, sp6, updD_same, updD_updD, List.map_cons, List.map_nil, List.length_cons, List.length_nil, List.set_cons_zero, List.set_cons_succ, List.getElem?_cons_zero, List.getElem?_cons_succ, List.cons_append, List.nil_append, Nat.reduceAdd, Nat.reduceSub, List.replicate, Nat.sub_self, decide_eq_true_eq, Bool.not_eq_true', decide_eq_false_iff_not, decide_true, decide_false, Bool.not_true, Bool.not_false, Bool.false_eq_true, Bool.true_eq_false, if_true, if_false, reduceIte, true_and, and_true, List.isEmpty_nil, List.isEmpty_cons, List.flatten_cons, List.flatten_nil, at_0, at_1, at_2, at_3, at_4, at_5, at_6, at_7, at_m1_1, at_m1_2, at_m1_3, at_m1_4, at_m1_5, at_m1_6, nc_0, nc_1, nc_2, nc_3, nc_4, nc_5, nc_6, nc_7, nc_8, nc_9, nc_10, nc_11, nc_12, len_map, not_true_eq_false, not_false_eq_true, ite_true, ite_false, Int.reduceEq, Int.reduceNe, Int.reduceLT, Int.reduceLE, Nat.reduceEqDiff, Option.some.injEq, true_implies, forall_const, sz_0, sz_1, sz_2, sz_3, sz_4, sz_5, sz_6, sz_7, sz_8, sz_9, sz_10, sz_11, sz_12, sz_13, sz_14, sz_15, sz_16, sz_17, sz_18, sz_19, sz_20, ix_4_1, ix_4_2, ix_4_3, l4, g1])
        refine ⟨g, c, R[j], rfl, rfl, rfl, hw, run.bal, fed, ?_⟩
        unfold cntD at l5
        have g2 := at_range (m := g.1) (fun v => eN (c v)) hv
        have ix : ixN g.1 ((R[j] : Nat) : Int) = some R[j] := ixN_nat hv
        rw [show eN (c R[j]) = D.int ((c R[j] : Nat) : Int) from rfl] at g2
        simp only [show eN R[j] = D.int ((R[j] : Nat) : Int) from rfl]
        (try simp only [startD, dSeq, dNext, dIfS, dRet, dRetN, dDrop, dAsg, pName, dOp, dUn, dVar, dC, dCons, dNil, dCB, dTest, dTru, truD, dAnd, dOr, dNot, dIf, dPar, dAug, dI0, dII, dI1, dAbs, dInt, dCall, dIx, dTup, dEqS, eqS, dNeS, dAndV, dOrV, dNotV, dIsi, dLen, lenD, dSl, dCut, dPart, dNoPart, dCL, dlLst, dNew, dLst, dAdd, dMul, dIsN, dNotN, nonD, dSet, dPut, eLen, eTuple, eAll, eAny, eSum, eMax, eMin, dTuple, dTupR1, dYes, dIxL, dlCatVL, dlCatLV, dlCatLL, dlRep, dIterL, dSeqI, dRng1, dRng2, dEnum, pTup, setAll, wipeD, dMt, dMt0, tyM, dAppend, dlRg1, dlRg2, dNewK, dNewT, dRev, dRaise, dDisp1, dZip, dTry, dTryAs, dBreak, dCont,   ty_int, ty_bl, ty_str, ty_non, ty_tup, mem_int, mem_bool, mem_str, mem_tuple, mem_list, isTy_self, isTy_bool_int, isTy_int_bool, isTy_int_tuple, isTy_int_list, isTy_int_str, isTy_bool_tuple, isTy_bool_list, isTy_bool_str, isTy_str_bool, isTy_str_int, isTy_str_tuple, isTy_str_list, isTy_non_tuple, isTy_non_list, isTy_non_str, isTy_non_int, isTy_non_bool, isTy_tup_list, isTy_tup_int, isTy_tup_str, isTy_tup_bool, isTy_list_tup, isTy_list_int, isTy_list_bool, isTy_list_str,   sp1, sp2, sp3, sp4, sp5, sp6, updD_same, updD_updD, List.map_cons, List.map_nil, List.length_cons, List.length_nil, List.set_cons_zero, List.set_cons_succ, List.getElem?_cons_zero, List.getElem?_cons_succ, List.cons_append, List.nil_append, Nat.reduceAdd, Nat.reduceSub, List.replicate, Nat.sub_self, decide_eq_true_eq, Bool.not_eq_true', decide_eq_false_iff_not, decide_true, decide_false, Bool.not_true, Bool.not_false, Bool.false_eq_true, Bool.true_eq_false, if_true, if_false, reduceIte, true_and, and_true, List.isEmpty_nil, List.isEmpty_cons, List.flatten_cons, List.flatten_nil, at_0, at_1, at_2, at_3, at_4, at_5, at_6, at_7, at_m1_1, at_m1_2, at_m1_3, at_m1_4, at_m1_5, at_m1_6, nc_0, nc_1, nc_2, nc_3, nc_4, nc_5, nc_6, nc_7, nc_8, nc_9, nc_10, nc_11, nc_12, len_map, not_true_eq_false, not_false_eq_true, ite_true, ite_false, Int.reduceEq, Int.reduceNe, Int.reduceLT, Int.reduceLE, Nat.reduceEqDiff, Option.some.injEq, true_implies, forall_const, sz_0, sz_1, sz_2, sz_3, sz_4, sz_5, sz_6, sz_7, sz_8, sz_9, sz_10, sz_11, sz_12, sz_13, sz_14, sz_15, sz_16, sz_17, sz_18, sz_19, sz_20, ix_4_1, ix_4_2, ix_4_3, l5, g2, ix, List.length_range, set_range])
        refine ⟨inc c R[j], _, _, _, rfl, dw3.mut hp npd, run.step hv fed, ?_⟩
        unfold cntD
        congr 1
        apply List.map_congr_left
        intro k _
        unfold inc
        split
        · first | rfl | (unfold eN; congr 1 <;> omega)
        · rfl
      · exact ⟨c, _, _, _, rfl, dw2, run, l2⟩
  · rintro s h ⟨c, x5, x6, x7, rfl, dw1, run, l1⟩
    walk_at "d"
    obtain ⟨_, _, d', i0, b0, sb⟩ := dw1
    exact ⟨_, Sub.at' sb l1, hq c d' p run i0 b0 hp npd⟩
end
end K

set_option Elab.async false
set_option linter.all false
set_option maxRecDepth 100000
set_option maxHeartbeats 4000000
namespace K
open PySem PySem.Spec PyProof.Rows L2 DL
local macro_rules | `(tactic| walk_at "d") => `(tactic| (try simp only [startD, dSeq, dNext, dIfS, dRet, dRetN, dDrop, dAsg, pName, dOp, dUn, dVar, dC, dCons, dNil, dCB, dTest, dTru, truD, dAnd, dOr, dNot, dIf, dPar, dAug, dI0, dII, dI1, dAbs, dInt, dCall, dIx, dTup, dEqS, eqS, dNeS, dAndV, dOrV, dNotV, dIsi, dLen, lenD, dSl, dCut, dPart, dNoPart, dCL, dlLst, dNew, dLst, dAdd, dMul, dIsN, dNotN, nonD, dSet, dPut, eLen, eTuple, eAll, eAny, eSum, eMax, eMin, dTuple, dTupR1, dYes, dIxL, dlCatVL, dlCatLV, dlCatLL, dlRep, dIterL, dSeqI, dRng1, dRng2, dEnum, pTup, setAll, wipeD, dMt, dMt0, tyM, dAppend, dlRg1, dlRg2, dNewK, dNewT, dRev, dRaise, dDisp1, dZip, dTry, dTryAs, dBreak, dCont,
  ty_int, ty_bl, ty_str, ty_non, ty_tup, mem_int, mem_bool, mem_str, mem_tuple, mem_list, isTy_self, isTy_bool_int, isTy_int_bool, isTy_int_tuple, isTy_int_list, isTy_int_str, isTy_bool_tuple, isTy_bool_list, isTy_bool_str, isTy_str_bool, isTy_str_int, isTy_str_tuple, isTy_str_list, isTy_non_tuple, isTy_non_list, isTy_non_str, isTy_non_int, isTy_non_bool, isTy_tup_list, isTy_tup_int, isTy_tup_str, isTy_tup_bool, isTy_list_tup, isTy_list_int, isTy_list_bool, isTy_list_str,
  sp1, sp2, sp3, sp4, sp5, sp6, updD_same, updD_updD, List.map_cons, List.map_nil, List.length_cons, List.length_nil, List.set_cons_zero, List.set_cons_succ, List.getElem?_cons_zero, List.getElem?_cons_succ, List.cons_append, List.nil_append, Nat.reduceAdd, Nat.reduceSub, List.replicate, Nat.sub_self, decide_eq_true_eq, Bool.not_eq_true', decide_eq_false_iff_not, decide_true, decide_false, Bool.not_true, Bool.not_false, Bool.false_eq_true, Bool.true_eq_false, if_true, if_false, reduceIte, true_and, and_true, List.isEmpty_nil, List.isEmpty_cons, List.flatten_cons, List.flatten_nil, at_0, at_1, at_2, at_3, at_4, at_5, at_6, at_7, at_m1_1, at_m1_2, at_m1_3, at_m1_4, at_m1_5, at_m1_6, nc_0, nc_1, nc_2, nc_3, nc_4, nc_5, nc_6, nc_7, nc_8, nc_9, nc_10, nc_11, nc_12, len_map, not_true_eq_false, not_false_eq_true, ite_true, ite_false, Int.reduceEq, Int.reduceNe, Int.reduceLT, Int.reduceLE, Nat.reduceEqDiff, Option.some.injEq, true_implies, forall_const, sz_0, sz_1, sz_2, sz_3, sz_4, sz_5, sz_6, sz_7, sz_8, sz_9, sz_10, sz_11, sz_12, sz_13, sz_14, sz_15, sz_16, sz_17, sz_18, sz_19, sz_20, ix_4_1, ix_4_2, ix_4_3]))
/-! ### firing again -/
inductive Back (g : Gr) (c : Nat → Nat) (v : Nat) : Nat → Prop
  | here : Back g c v v
  | step {e} : e ∈ g.2 → mk c e = 0 → Back g c v e.b → Back g c v e.a
def incL (c : Nat → Nat) (R : List Nat) : Nat → Nat := fun u => if u ∈ R then c u + 1 else c u
theorem rk_top {g : Gr} (rk : Rk) : ∃ B, ∀ v, v < g.1 → rkOf rk v < B := by
  have : ∀ n, ∃ B, ∀ v, v < n → rkOf rk v < B := by
    intro n
    induction n with
    | zero => exact ⟨0, fun v hv => absurd hv (Nat.not_lt_zero _)⟩
    | succ n ih =>
      obtain ⟨B, hB⟩ := ih
      refine ⟨max B (rkOf rk n + 1), fun v hv => ?_⟩
      rcases Nat.lt_or_eq_of_le (Nat.le_of_lt_succ hv) with h | h
      · have := hB v h; omega
      · subst h; omega
  exact this g.1
theorem fed_min {g : Gr} {c : Nat → Nat} {rk : Rk} (hw : WF g) (lv : LiveG g rk) (bal : Bal0 g c) {W : List Nat} (hne : W ≠ []) (cl : ∀ e ∈ g.2, mk c e = 0 → e.b ∈ W → e.a ∈ W) : ∃ u ∈ W, Fed g c u := by
  obtain ⟨B, hB⟩ := rk_top (g := g) rk
  obtain ⟨u, hu, hmin⟩ := least_rk (fun v => c v * B + rkOf rk v) hne
  refine ⟨u, hu, fun e he hb => Nat.pos_of_ne_zero fun hz => ?_⟩
  have h1 := bal e he
  have ho := hw.es e he
  have ha := cl e he hz (by rw [hb]; exact hu)
  have h2 : c u * B + rkOf rk u ≤ c e.a * B + rkOf rk e.a := hmin e.a ha
  have h3 := hB e.a ho.a
  unfold mk at hz
  have heq : c u = e.t + c e.a := by rw [hb] at h1 hz; omega
  by_cases ht : e.t = 0
  · have h4 := rk_up hw lv he ht
    rw [hb] at h4
    have : c u = c e.a := by omega
    rw [this] at h2
    omega
  · have h5 : c e.a + 1 ≤ c u := by omega
    have h6 : (c e.a + 1) * B ≤ c u * B := Nat.mul_le_mul_right B h5
    rw [Nat.succ_mul] at h6
    omega
theorem back_fired {g : Gr} {c : Nat → Nat} {v : Nat} {R : List Nat} (bal : Bal0 g c) (hv : v ∉ R) {u : Nat} (h : Back g (incL c R) v u) : Back g c v u ∧ u ∉ R := by
  induction h with
  | here => exact ⟨.here, hv⟩
  | @step e he hz _ ih =>
    obtain ⟨h1, h2⟩ := ih
    have hb := bal e he
    unfold mk incL at hz
    rw [if_neg h2] at hz
    by_cases ha : e.a ∈ R
    · rw [if_pos ha] at hz; omega
    · rw [if_neg ha] at hz
      exact ⟨.step he (by unfold mk; exact hz) h1, ha⟩
theorem fed_inc {g : Gr} {c : Nat → Nat} {u w : Nat} (ne : u ≠ w) (f : Fed g c u) : Fed g (inc c w) u := fun e he hb => by
  have := f e he hb
  unfold mk inc at *
  rw [hb] at this ⊢
  rw [if_neg ne]
  split
  · rename_i h; rw [← h]; omega
  · exact this
theorem fed_incL {g : Gr} {c : Nat → Nat} {u : Nat} {L : List Nat} (ne : u ∉ L) (f : Fed g c u) : Fed g (incL c L) u := fun e he hb => by
  have := f e he hb
  unfold mk incL at *
  rw [hb] at this ⊢
  rw [if_neg ne]
  split <;> omega
theorem incL_snoc {c : Nat → Nat} {R : List Nat} {w : Nat} (h : w ∉ R) : inc (incL c R) w = incL c (R ++ [w]) := by
  funext u
  unfold inc incL
  by_cases hu : u = w
  · subst hu; simp [h]
  · simp [hu]
theorem nodup_sub : ∀ {l l' : List Nat}, l.Nodup → (∀ x ∈ l, x ∈ l') → l.length ≤ l'.length
  | [], _, _, _ => Nat.zero_le _
  | x :: r, l', nd, h => by
    rw [List.nodup_cons] at nd
    have hx := h x List.mem_cons_self
    have := nodup_sub (l' := l'.erase x) nd.2 fun y hy => (List.mem_erase_of_ne (fun z => nd.1 (by rw [← z]; exact hy))).mpr (h y (List.mem_cons_of_mem _ hy))
    rw [List.length_erase_of_mem hx] at this
    have h0 := List.length_pos_of_mem hx
    rw [List.length_cons]; omega
def Closed (g : Gr) (c : Nat → Nat) (W : List Nat) : Prop := ∀ e ∈ g.2, mk c e = 0 → e.b ∈ W → e.a ∈ W
theorem back_lt {g : Gr} {c : Nat → Nat} {v : Nat} (hw : WF g) (hv : v < g.1) {u : Nat} (h : Back g c v u) : u < g.1 := by
  induction h with
  | here => exact hv
  | step he _ _ _ => exact (hw.es _ he).a
theorem closed_back {g : Gr} {c : Nat → Nat} {v : Nat} {W : List Nat} (cl : Closed g c W) (hv : v ∈ W) {u : Nat} (h : Back g c v u) : u ∈ W := by
  induction h with
  | here => exact hv
  | step he hz _ ih => exact cl _ he hz ih
/-- one more round -/
theorem round {g : Gr} {c : Nat → Nat} {v : Nat} {W : List Nat} {ns : List Int} {A : List Nat} {k : Nat} (nd : W.Nodup) (hv : v ∈ W) (hb : ∀ u ∈ W, Back g c v u) (hk : Closed g c W ∨ k + 1 ≤ W.length)
    (hA : ∀ u, u ∈ A ↔ ∃ e ∈ g.2, mk c e = 0 ∧ e.b ∈ W ∧ e.a = u) (pw : ns.Pairwise (· < ·)) (mem : ∀ x : Int, x ∈ ns ↔ x ∈ (W ++ A).map fun (n : Nat) => (n : Int)) :
    ∃ W' : List Nat, ns = W'.map (fun (n : Nat) => (n : Int)) ∧ W'.Nodup ∧ v ∈ W' ∧ (∀ u ∈ W', Back g c v u) ∧ (Closed g c W' ∨ k + 1 + 1 ≤ W'.length) := by
  have e1 : ns = (ns.map Int.toNat).map (fun (n : Nat) => (n : Int)) := by
    rw [List.map_map]
    conv => lhs; rw [← List.map_id ns]
    apply List.map_congr_left
    intro x hx
    obtain ⟨n, _, rfl⟩ := List.mem_map.mp ((mem x).mp hx)
    simp
  have m' : ∀ u, u ∈ ns.map Int.toNat ↔ u ∈ W ∨ u ∈ A := fun u => by
    have h1 : u ∈ ns.map Int.toNat ↔ (u : Int) ∈ ns := by
      rw [e1, List.map_map, List.mem_map, List.mem_map]
      constructor
      · rintro ⟨x, hx, rfl⟩; exact ⟨x, by simpa using hx, by simp⟩
      · rintro ⟨x, hx, e⟩; exact ⟨x, by simpa using hx, by simp; omega⟩
    rw [h1, mem, List.mem_map]
    constructor
    · rintro ⟨n, hn, e⟩
      have : n = u := by omega
      subst this
      exact List.mem_append.mp hn
    · exact fun h => ⟨u, List.mem_append.mpr h, rfl⟩
  refine ⟨ns.map Int.toNat, e1, ?_, (m' v).mpr (.inl hv), fun u hu => ?_, ?_⟩
  · rw [e1] at pw
    rw [List.pairwise_map] at pw
    exact pw.imp fun h => by omega
  · rcases (m' u).mp hu with h | h
    · exact hb u h
    · obtain ⟨e, he, hz, h1, rfl⟩ := (hA u).mp h
      exact .step he hz (hb _ h1)
  · by_cases cl : Closed g c W
    · left
      have same : ∀ u, u ∈ ns.map Int.toNat ↔ u ∈ W := fun u => by
        rw [m']
        constructor
        · rintro (h | h)
          · exact h
          · obtain ⟨e, he, hz, h1, rfl⟩ := (hA u).mp h
            exact cl e he hz h1
        · exact .inl
      exact fun e he hz h => (same _).mpr (cl e he hz ((same _).mp h))
    · right
      have hk := hk.resolve_left cl
      obtain ⟨e, he, hz, h1, h2⟩ : ∃ e ∈ g.2, mk c e = 0 ∧ e.b ∈ W ∧ e.a ∉ W := Classical.byContradiction fun hno => cl fun e he hz h => Classical.byContradiction fun h2 => hno ⟨e, he, hz, h, h2⟩
      have := nodup_sub (l := e.a :: W) (l' := ns.map Int.toNat) (List.nodup_cons.mpr ⟨h2, nd⟩) fun x hx => by
        rcases List.mem_cons.mp hx with rfl | hx
        · exact (m' _).mpr (.inr ((hA _).mpr ⟨e, he, hz, h1, rfl⟩))
        · exact (m' _).mpr (.inl hx)
      rw [List.length_cons] at this
      omega
def sp__law_again : DSp := sp3 fun a m v h q _ => ∃ g c u, a = eG g ∧ m = eM g c ∧ v = eN u ∧ WF g ∧ u < g.1 ∧ g.1 ≤ 20 ∧ g.2.length ≤ 40 ∧ (∃ rk, LiveG g rk) ∧ Bal0 g c ∧ q (.bl true) h
section
variable {P : Program} {w : World} {K : PySem.W.Frag} {mg : Str → Option Value} {base : Heap} {C_DelayError C_BadNet : Addr}
end
end K

set_option Elab.async false
set_option linter.all false
set_option maxRecDepth 100000
set_option maxHeartbeats 4000000
namespace K
open PySem PySem.Spec PyProof.Rows L2 DL
local macro_rules | `(tactic| walk_at "d") => `(tactic| (try simp only [startD, dSeq, dNext, dIfS, dRet, dRetN, dDrop, dAsg, pName, dOp, dUn, dVar, dC, dCons, dNil, dCB, dTest, dTru, truD, dAnd, dOr, dNot, dIf, dPar, dAug, dI0, dII, dI1, dAbs, dInt, dCall, dIx, dTup, dEqS, eqS, dNeS, dAndV, dOrV, dNotV, dIsi, dLen, lenD, dSl, dCut, dPart, dNoPart, dCL, dlLst, dNew, dLst, dAdd, dMul, dIsN, dNotN, nonD, dSet, dPut, eLen, eTuple, eAll, eAny, eSum, eMax, eMin, dTuple, dTupR1, dYes, dIxL, dlCatVL, dlCatLV, dlCatLL, dlRep, dIterL, dSeqI, dRng1, dRng2, dEnum, pTup, setAll, wipeD, dMt, dMt0, tyM, dAppend, dlRg1, dlRg2, dNewK, dNewT, dRev, dRaise, dDisp1, dZip, dTry, dTryAs, dBreak, dCont,
  ty_int, ty_bl, ty_str, ty_non, ty_tup, mem_int, mem_bool, mem_str, mem_tuple, mem_list, isTy_self, isTy_bool_int, isTy_int_bool, isTy_int_tuple, isTy_int_list, isTy_int_str, isTy_bool_tuple, isTy_bool_list, isTy_bool_str, isTy_str_bool, isTy_str_int, isTy_str_tuple, isTy_str_list, isTy_non_tuple, isTy_non_list, isTy_non_str, isTy_non_int, isTy_non_bool, isTy_tup_list, isTy_tup_int, isTy_tup_str, isTy_tup_bool, isTy_list_tup, isTy_list_int, isTy_list_bool, isTy_list_str,
  sp1, sp2, sp3, sp4, sp5, sp6, updD_same, updD_updD, List.map_cons, List.map_nil, List.length_cons, List.length_nil, List.set_cons_zero, List.set_cons_succ, List.getElem?_cons_zero, List.getElem?_cons_succ, List.cons_append, List.nil_append, Nat.reduceAdd, Nat.reduceSub, List.replicate, Nat.sub_self, decide_eq_true_eq, Bool.not_eq_true', decide_eq_false_iff_not, decide_true, decide_false, Bool.not_true, Bool.not_false, Bool.false_eq_true, Bool.true_eq_false, if_true, if_false, reduceIte, true_and, and_true, List.isEmpty_nil, List.isEmpty_cons, List.flatten_cons, List.flatten_nil, at_0, at_1, at_2, at_3, at_4, at_5, at_6, at_7, at_m1_1, at_m1_2, at_m1_3, at_m1_4, at_m1_5, at_m1_6, nc_0, nc_1, nc_2, nc_3, nc_4, nc_5, nc_6, nc_7, nc_8, nc_9, nc_10, nc_11, nc_12, len_map, not_true_eq_false, not_false_eq_true, ite_true, ite_false, Int.reduceEq, Int.reduceNe, Int.reduceLT, Int.reduceLE, Nat.reduceEqDiff, Option.some.injEq, true_implies, forall_const, sz_0, sz_1, sz_2, sz_3, sz_4, sz_5, sz_6, sz_7, sz_8, sz_9, sz_10, sz_11, sz_12, sz_13, sz_14, sz_15, sz_16, sz_17, sz_18, sz_19, sz_20, ix_4_1, ix_4_2, ix_4_3]))
theorem Dw.trans {b h1 h2 : DH} {dl sl : Addr} {ns : List Int} (z : Dw b dl sl ns h1) (y : Dw h1 dl sl ns h2) : Dw b dl sl ns h2 := by
  obtain ⟨a1, a2, d, a3, a4, a5⟩ := z
  obtain ⟨_, _, d2, b3, b4, b5⟩ := y
  exact ⟨a1, a2, d2, b3, b4, (Sub.put a5).trans b5⟩
theorem Dw.lists {b h : DH} {dl sl : Addr} {ns : List Int} (z : Dw b dl sl ns h) : ∀ p xs, b p = some (.lst xs) → ∃ ys, h p = some (.lst ys) := fun p xs e => by
  obtain ⟨a1, a2, d, a3, a4, a5⟩ := z
  by_cases hp : p = dl
  · subst hp; exact ⟨_, a5 _ _ updD_same⟩
  · exact ⟨xs, a5 _ _ (by rw [updD_ne hp]; exact e)⟩
theorem int_items {rs : List Int} : ∀ d ∈ rs.map D.int, ∀ h' : DH, ∃ t, tyD d h' = some t := fun d hd h' => by
  obtain ⟨i, _, rfl⟩ := List.mem_map.mp hd
  exact ⟨_, rfl⟩
end K

set_option Elab.async false
set_option linter.all false
set_option maxRecDepth 100000
set_option maxHeartbeats 4000000
set_option pp.maxSteps 2500
namespace K
open PySem PySem.Spec PyProof.Rows L2 DL
local macro_rules | `(tactic| walk_at "d") => `(tactic| (try simp only [startD, dSeq, dNext, dIfS, dRet, dRetN, dDrop, dAsg, pName, dOp, dUn, dVar, dC, dCons, dNil, dCB, dTest, dTru, truD, dAnd, dOr, dNot, dIf, dPar, dAug, dI0, dII, dI1, dAbs, dInt, dCall, dIx, dTup, dEqS, eqS, dNeS, dAndV, dOrV, dNotV, dIsi, dLen, lenD, dSl, dCut, dPart, dNoPart, dCL, dlLst, dNew, dLst, dAdd, dMul, dIsN, dNotN, nonD, dSet, dPut, eLen, eTuple, eAll, eAny, eSum, eMax, eMin, dTuple, dTupR1, dYes, dIxL, dlCatVL, dlCatLV, dlCatLL, dlRep, dIterL, dSeqI, dRng1, dRng2, dEnum, pTup, setAll, wipeD, dMt, dMt0, tyM, dAppend, dlRg1, dlRg2, dNewK, dNewT, dRev, dRaise, dDisp1, dZip, dTry, dTryAs, dBreak, dCont,
  ty_int, ty_bl, ty_str, ty_non, ty_tup, mem_int, mem_bool, mem_str, mem_tuple, mem_list, isTy_self, isTy_bool_int, isTy_int_bool, isTy_int_tuple, isTy_int_list, isTy_int_str, isTy_bool_tuple, isTy_bool_list, isTy_bool_str, isTy_str_bool, isTy_str_int, isTy_str_tuple, isTy_str_list, isTy_non_tuple, isTy_non_list, isTy_non_str, isTy_non_int, isTy_non_bool, isTy_tup_list, isTy_tup_int, isTy_tup_str, isTy_tup_bool, isTy_list_tup, isTy_list_int, isTy_list_bool, isTy_list_str,
  sp1, sp2, sp3, sp4, sp5, sp6, updD_same, updD_updD, List.map_cons, List.map_nil, List.length_cons, List.length_nil, List.set_cons_zero, List.set_cons_succ, List.getElem?_cons_zero, List.getElem?_cons_succ, List.cons_append, List.nil_append, Nat.reduceAdd, Nat.reduceSub, List.replicate, Nat.sub_self, decide_eq_true_eq, Bool.not_eq_true', decide_eq_false_iff_not, decide_true, decide_false, Bool.not_true, Bool.not_false, Bool.false_eq_true, Bool.true_eq_false, if_true, if_false, reduceIte, true_and, and_true, List.isEmpty_nil, List.isEmpty_cons, List.flatten_cons, List.flatten_nil, at_0, at_1, at_2, at_3, at_4, at_5, at_6, at_7, at_m1_1, at_m1_2, at_m1_3, at_m1_4, at_m1_5, at_m1_6, nc_0, nc_1, nc_2, nc_3, nc_4, nc_5, nc_6, nc_7, nc_8, nc_9, nc_10, nc_11, nc_12, len_map, not_true_eq_false, not_false_eq_true, ite_true, ite_false, Int.reduceEq, Int.reduceNe, Int.reduceLT, Int.reduceLE, Nat.reduceEqDiff, Option.some.injEq, true_implies, forall_const, sz_0, sz_1, sz_2, sz_3, sz_4, sz_5, sz_6, sz_7, sz_8, sz_9, sz_10, sz_11, sz_12, sz_13, sz_14, sz_15, sz_16, sz_17, sz_18, sz_19, sz_20, ix_4_1, ix_4_2, ix_4_3]))
/-! ### ways and rings, of any value -/
theorem no_iff {P : Prop} (h : ¬ P) : (false = true ↔ P) := ⟨fun z => (nomatch z), fun z => absurd z h⟩
theorem yes_iff {P : Prop} (h : P) : (true = true ↔ P) := ⟨fun _ => h, fun _ => rfl⟩
theorem dec_iff {P Q : Prop} [Decidable P] (h : P ↔ Q) : (decide P = true ↔ Q) := by rw [decide_eq_true_eq]; exact h
def tok (g : Gr) (ks : List Nat) : Nat := (ks.map fun k => (gE g k).t).sum
structure WayL (g : Gr) (ks : List Nat) : Prop where
  lt : ∀ k ∈ ks, k < g.2.length
  next : ∀ (i k l : Nat), ks[i]? = some k → ks[i + 1]? = some l → (gE g k).b = (gE g l).a
def WayP (g : Gr) (d : D) : Prop := ∃ ks : List Nat, d = .tup (ks.map eN) ∧ ks ≠ [] ∧ WayL g ks
def lastN (ks : List Nat) : Nat := ks.getD (ks.length - 1) 0
def headN (ks : List Nat) : Nat := ks.getD 0 0
def RingL (g : Gr) (ks : List Nat) : Prop := ks ≠ [] ∧ WayL g ks ∧ (gE g (lastN ks)).b = (gE g (headN ks)).a
def RingP (g : Gr) (d : D) : Prop := ∃ ks : List Nat, d = .tup (ks.map eN) ∧ RingL g ks
def sp_is_way : DSp := sp2 fun a v h q _ => ∃ g, a = eG g ∧ WF g ∧ Vl h v ∧ ∀ k : Bool, (k = true ↔ WayP g v) → q (.bl k) h
def sp_is_ring : DSp := sp2 fun a v h q _ => ∃ g, a = eG g ∧ WF g ∧ Vl h v ∧ ∀ k : Bool, (k = true ↔ RingP g v) → q (.bl k) h
def sp__law_tokens : DSp := sp2 fun a r h q _ => ∃ g ring, a = eG g ∧ r = .tup (ring.map eN) ∧ WF g ∧ (∀ k ∈ ring, k < g.2.length) ∧ ring.length ≤ 100000 ∧ q (.int (tok g ring : Nat)) h
theorem lastN_get {ks : List Nat} (h : ks ≠ []) : ks[ks.length - 1]? = some (lastN ks) := by
  have : 0 < ks.length := List.length_pos_iff.mpr h
  unfold lastN
  rw [List.getD_eq_getElem?_getD, List.getElem?_eq_getElem (by omega)]; rfl
theorem headN_get {ks : List Nat} (h : ks ≠ []) : ks[0]? = some (headN ks) := by
  have : 0 < ks.length := List.length_pos_iff.mpr h
  unfold headN
  rw [List.getD_eq_getElem?_getD, List.getElem?_eq_getElem (by omega)]; rfl
theorem tup_inj {a b : List D} (h : D.tup a = D.tup b) : a = b := by injection h
theorem way_not {g : Gr} {h : DH} {d : D} {t : String} (e : tyD d h = some t) (hn : t ≠ "tuple") : ¬ WayP g d := fun ⟨ks, z, _⟩ => by
  subst z
  exact hn (Option.some.inj e).symm
theorem way_item {g : Gr} {ds : List D} (w : WayP g (.tup ds)) {i : Nat} {d : D} (e : ds[i]? = some d) : ∃ k : Nat, d = eN k ∧ k < g.2.length := by
  obtain ⟨ks, z, _, wl⟩ := w
  rw [tup_inj z, List.getElem?_map] at e
  cases h : ks[i]? with
  | none => rw [h] at e; cases e
  | some k =>
    rw [h] at e
    exact ⟨k, (Option.some.inj e).symm, wl.lt k (List.mem_of_getElem? h)⟩
theorem way_next {g : Gr} {ds : List D} (w : WayP g (.tup ds)) {i k l : Nat} (e : ds[i]? = some (eN k)) (f : ds[i + 1]? = some (eN l)) : (gE g k).b = (gE g l).a := by
  obtain ⟨ks, z, _, wl⟩ := w
  rw [tup_inj z, List.getElem?_map] at e f
  have inj : ∀ {a b : Nat}, eN a = eN b → a = b := fun {a b} h => by unfold eN at h; injection h with h; omega
  cases h1 : ks[i]? with
  | none => rw [h1] at e; cases e
  | some k' =>
    cases h2 : ks[i + 1]? with
    | none => rw [h2] at f; cases f
    | some l' =>
      rw [h1] at e; rw [h2] at f
      rw [← inj (Option.some.inj e), ← inj (Option.some.inj f)]
      exact wl.next i _ _ h1 h2
theorem atE {g : Gr} {k : Nat} (h : k < g.2.length) : atI (g.2.map eE) (k : Int) = some (eE (gE g k)) := atI_nat (by rw [List.getElem?_map, gE_get h]; rfl)
/-- the part that is shown: the items up to i -/
structure Pre (g : Gr) (ds : List D) (i : Nat) (ks : List Nat) : Prop where
  eq : ds.take i = ks.map eN
  way : WayL g ks
theorem Pre.len {g : Gr} {ds : List D} {i : Nat} {ks : List Nat} (p : Pre g ds i ks) (h : i ≤ ds.length) : ks.length = i := by
  have := congrArg List.length p.eq
  rw [List.length_take, List.length_map] at this
  omega
theorem Pre.get {g : Gr} {ds : List D} {i j : Nat} {ks : List Nat} (p : Pre g ds i ks) {k : Nat} (h : ks[j]? = some k) : ds[j]? = some (eN k) := by
  have h1 : (ds.take i)[j]? = some (eN k) := by rw [p.eq, List.getElem?_map, h]; rfl
  rw [List.getElem?_take] at h1
  split at h1
  · exact h1
  · cases h1
theorem Pre.snoc {g : Gr} {ds : List D} {i : Nat} {ks : List Nat} (p : Pre g ds i ks) {k : Nat} (e : ds[i]? = some (eN k)) (hk : k < g.2.length) (hn : ∀ l, ks[ks.length - 1]? = some l → (gE g l).b = (gE g k).a) : Pre g ds (i + 1) (ks ++ [k]) := by
  refine ⟨?_, fun l hl => ?_, fun j a c ha hc => ?_⟩
  · rw [List.take_add_one, p.eq, e, List.map_append]; rfl
  · rcases List.mem_append.mp hl with h | h
    · exact p.way.lt l h
    · have : l = k := by simpa using h
      rw [this]; exact hk
  · by_cases h : j + 1 < ks.length
    · rw [List.getElem?_append_left (by omega)] at ha
      rw [List.getElem?_append_left h] at hc
      exact p.way.next j a c ha hc
    · have hl := (List.getElem?_eq_some_iff.mp hc).1
      rw [List.length_append] at hl
      have hj : j + 1 = ks.length := by simp at hl; omega
      rw [List.getElem?_append_left (by omega)] at ha
      rw [hj, List.getElem?_append_right (Nat.le_refl _)] at hc
      have : c = k := by simpa using hc.symm
      rw [this]
      exact hn a (by rw [show ks.length - 1 = j by omega]; exact ha)
theorem Pre.all {g : Gr} {ds : List D} {ks : List Nat} (p : Pre g ds ds.length ks) (h : ds ≠ []) : WayP g (.tup ds) := by
  have e := p.eq
  rw [List.take_length] at e
  exact ⟨ks, by rw [e], fun z => h (by rw [e, z]; rfl), p.way⟩
theorem pre_nil {g : Gr} {ds : List D} : Pre g ds 0 [] := ⟨rfl, ⟨(fun k hk => by simp at hk), fun i k l hk => by simp at hk⟩⟩
section
variable {P : Program} {w : World} {K : PySem.W.Frag} {mg : Str → Option Value} {base : Heap} {C_DelayError C_BadNet : Addr}
theorem h_is_way (T : Txt K mg C_DelayError C_BadNet) (H_is_integer : Has P w K mg base "is_integer" 2 ["value"] sp_is_integer) : Has P w K mg base "is_way" (3) ["graph", "way"] (sp_is_way) := by
  refine has_of T.a_is_way fun f fd F => okD F sc_is_way len2 fun cdv A outer s H E b ds q xx hr tk hsp => ?_
  have hr_is_integer := hr.mono (show 2 ≤ 2 by decide)
  refine ⟨_, (dss_cons (ds_if (dt_w (dw_or (dt_not (dt_tru (de_cb (pe_callB call_isi (by rfl) T.m_isinstance bt_isinstance (da_cons (de_var (pv 1)) (da_cons (de_ty (by rfl) T.m_tuple bt_tuple) da_nil))) refIsi))) (dw_or1 (dt_lt (de_cb (pe_callB call_lenU (by rfl) T.m_len bt_len (da_cons (de_var (pv 1)) da_nil)) refLen) de_int)))) (dss_one (ds_ret de_bl)) dss_nil)
  (dss_cons (ds_for (passes_of rfl) rfl (di_enum (by rfl) T.m_enumerate (da_cons (de_var (pv 1)) da_nil)) (pg_tup (by rfl) (pgs_cons (pg_name (i := 2) sc_is_way.nd rfl (Or.inl rfl)) (pgs_cons (pg_name (i := 3) sc_is_way.nd rfl (Or.inl rfl)) pgs_nil))) (refG_tup [2, 3]) (dss_cons (ds_if (dt_w (dw_or (dt_not (dt_tru (de_callH H_is_integer hr_is_integer (by rfl) tk (da_cons (de_var (pv 3)) da_nil)))) (dw_or (dt_lt (de_var (pv 3)) de_int) (dw_or1 (dt_ge (de_var (pv 3)) (de_cb (pe_callB call_lenU (by rfl) T.m_len bt_len (da_cons (de_ix (hu_of hr) (de_var (pv 0)) de_int (fun _ _ => rfl)) da_nil)) refLen)))))) (dss_one (ds_ret de_bl)) dss_nil)
    (dss_one (ds_if (dt_w (dw_and (dt_gt (de_var (pv 2)) de_int) (dw_and1 (dt_ne (de_ix (hu_of hr) (de_ix (hu_of hr) (de_ix (hu_of hr) (de_var (pv 0)) de_int (fun _ _ => rfl)) (de_ix (hu_of hr) (de_var (pv 1)) (de_sub (de_var (pv 2)) de_int) (fun _ _ => rfl)) (fun _ _ => rfl)) de_int (fun _ _ => rfl)) (de_ix (hu_of hr) (de_ix (hu_of hr) (de_ix (hu_of hr) (de_var (pv 0)) de_int (fun _ _ => rfl)) (de_var (pv 3)) (fun _ _ => rfl)) de_int (fun _ _ => rfl)))))) (dss_one (ds_ret de_bl)) dss_nil))))
  (dss_one (ds_ret de_bl)))), ?_⟩
  obtain ⟨d0, d1, rfl, hsp⟩ := inv2 hsp
  obtain ⟨g, rfl, hw, hv, hq⟩ := hsp
  have hm := hw.m
  cases hv with
  | oth ht hne hk =>
    unfold eG
    walk_at "d"
    simp only [ht, isTy_tupO hk hne]
    walk_at "d"
    exact ⟨b, Sub.refl, hq false ⟨fun z => (nomatch z), fun z => absurd z (way_not ht hne)⟩⟩
  | tup hl hds =>
    rename_i ds
    unfold eG
    walk_at "d"
    by_cases h0 : ds.length < 1
    · rw [if_pos (by omega)]
      have : ds = [] := List.eq_nil_of_length_eq_zero (by omega)
      subst this
      exact ⟨b, Sub.refl, hq false ⟨fun z => (nomatch z), fun ⟨ks, z, hn, _⟩ => by
        have := tup_inj z
        cases ks with
        | nil => exact absurd rfl hn
        | cons => cases this⟩⟩
    · rw [if_neg (by omega)]
      have hne : ds ≠ [] := fun z => h0 (by rw [z]; exact Nat.zero_lt_one)
      refine forG (xs := enumD ds) (G := fun _ => True) (fun i s h => ∃ x2 x3 ks, s = [some (.tup [.int (g.1 : Nat), .tup (g.2.map eE)]), some (.tup ds), x2, x3] ∧ h = b ∧ Pre g ds i ks) (fun r hr => by walk_at "d"; exact hr) ⟨none, none, [], rfl, rfl, pre_nil⟩ (fun _ _ _ _ _ => trivial) ?_ ?_
      · rintro i x s h hx ⟨x2, x3, ks, rfl, rfl, pre⟩
        obtain ⟨d, hd, rfl⟩ := enumD_some hx
        have hi := (List.getElem?_eq_some_iff.mp hd).1
        obtain ⟨t, ht⟩ := hds d (List.mem_of_getElem? hd)
        walk_at "d"
        refine ⟨t, ht, ?_⟩
        by_cases c : t = "int"
        · subst c
          obtain ⟨z, rfl⟩ := int_ty ht
          walk_at "d"
          by_cases c1 : z < 0
          · rw [if_pos c1]
            exact ⟨_, Sub.refl, hq false ⟨fun z => (nomatch z), fun w => by
              obtain ⟨k, e, _⟩ := way_item w hd
              unfold eN at e; injection e with e
              omega⟩⟩
          · rw [if_neg c1]
            obtain ⟨k, rfl⟩ : ∃ k : Nat, z = (k : Int) := ⟨z.toNat, by omega⟩
            by_cases c2 : g.2.length ≤ k
            · rw [if_pos (by omega)]
              exact ⟨_, Sub.refl, hq false ⟨fun z => (nomatch z), fun w => by
                obtain ⟨k', e, hk'⟩ := way_item w hd
                unfold eN at e; injection e with e
                omega⟩⟩
            · rw [if_neg (by omega)]
              have hk : k < g.2.length := by omega
              have a1 := atE hk
              have hkl := pre.len (by omega)
              by_cases c3 : 0 < i
              · rw [if_pos (by omega)]
                have hp : ks[i - 1]? = some ks[i - 1] := List.getElem?_eq_getElem (by omega)
                have hpl := pre.way.lt _ (List.mem_of_getElem? hp)
                have a2 := atE hpl
                have a3 : atI ds ((i : Nat) - 1 : Int) = some (.int (ks[i - 1] : Nat)) := by
                  rw [show ((i : Nat) - 1 : Int) = ((i - 1 : Nat) : Int) by omega]
                  exact atI_nat (pre.get hp)
                (try simp only [startD, dSeq, dNext, dIfS, dRet, dRetN, dDrop, dAsg, pName, dOp, dUn, dVar, dC, dCons, dNil, dCB, dTest, dTru, truD, dAnd, dOr, dNot, dIf, dPar, dAug, dI0, dII, dI1, dAbs, dInt, dCall, dIx, dTup, dEqS, eqS, dNeS, dAndV, dOrV, dNotV, dIsi, dLen, lenD, dSl, dCut, dPart, dNoPart, dCL, dlLst, dNew, dLst, dAdd, dMul, dIsN, dNotN, nonD, dSet, dPut, eLen, eTuple, eAll, eAny, eSum, eMax, eMin, dTuple, dTupR1, dYes, dIxL, dlCatVL, dlCatLV, dlCatLL, dlRep, dIterL, dSeqI, dRng1, dRng2, dEnum, pTup, setAll, wipeD, dMt, dMt0, tyM, dAppend, dlRg1, dlRg2, dNewK, dNewT, dRev, dRaise, dDisp1, dZip, dTry, dTryAs, dBreak, dCont,   ty_int, ty_bl, ty_str, ty_non, ty_tup, mem_int, mem_bool, mem_str, mem_tuple, mem_list, isTy_self, isTy_bool_int, isTy_int_bool, isTy_int_tuple, isTy_int_list, isTy_int_str, isTy_bool_tuple, isTy_bool_list, isTy_bool_str, isTy_str_bool, isTy_str_int, isTy_str_tuple, isTy_str_list, isTy_non_tuple, isTy_non_list, isTy_non_str, isTy_non_int, isTy_non_bool, isTy_tup_list, isTy_tup_int, isTy_tup_str, isTy_tup_bool, isTy_list_tup, isTy_list_int, isTy_list_bool, isTy_list_str,   sp1, sp2, sp3, sp4, sp5, sp6, updD_same, updD_updD, List.map_cons, List.map_nil, List.length_cons, List.length_nil, List.set_cons_zero, List.set_cons_succ, List.getElem?_cons_zero, List.getElem?_cons_succ, List.cons_append, List.nil_append, Nat.reduceAdd, Nat.reduceSub, List.replicate, Nat.sub_self, decide_eq_true_eq, Bool.not_eq_true', decide_eq_false_iff_not, decide_true, decide_false, Bool.not_true, Bool.not_false, Bool.false_eq_true, Bool.true_eq_false, if_true, if_false, reduceIte, true_and, and_true, List.isEmpty_nil, List.isEmpty_cons, List.flatten_cons, List.flatten_nil, at_0, at_1, at_2, at_3, at_4, at_5, at_6, at_7, at_m1_1, at_m1_2, at_m1_3, at_m1_4, at_m1_5, at_m1_6, nc_0, nc_1, nc_2, nc_3, nc_4, nc_5, nc_6, nc_7, nc_8, nc_9, nc_10, nc_11, nc_12, len_map, not_true_eq_false, not_false_eq_true, ite_true, ite_false, Int.reduceEq, Int.reduceNe, Int.reduceLT, Int.reduceLE, Nat.reduceEqDiff, Option.some.injEq, true_implies, forall_const, sz_0, sz_1, sz_2, sz_3, sz_4, sz_5, sz_6, sz_7, sz_8, sz_9, sz_10, sz_11, sz_12, sz_13, sz_14, sz_15, sz_16, sz_17, sz_18, sz_19, sz_20, ix_4_1, ix_4_2, ix_4_3, a1, a2, a3, eE_eq (gE g k), eE_eq (gE g ks[i - 1]), nat_inj])
                by_cases c4 : (gE g ks[i - 1]).b = (gE g k).a
                · rw [if_neg (fun z => z c4)]
                  refine ⟨_, _, ks ++ [k], rfl, pre.snoc hd hk fun l hl => ?_⟩
                  rw [hkl, hp] at hl
                  cases hl
                  exact c4
                · rw [if_pos (fun z => c4 z)]
                  refine ⟨_, Sub.refl, hq false (no_iff fun w => c4 ?_)⟩
                  have e1 := pre.get hp
                  have e2 : ds[i - 1 + 1]? = some (eN k) := by rw [show i - 1 + 1 = i by omega]; exact hd
                  exact way_next w e1 e2
              · rw [if_neg (by omega)]
                refine ⟨_, _, ks ++ [k], rfl, pre.snoc hd hk fun l hl => ?_⟩
                rw [List.getElem?_eq_none (by omega)] at hl
                cases hl
        · simp only [c, decide_false]
          walk_at "d"
          exact ⟨_, Sub.refl, hq false (no_iff fun w => by
            obtain ⟨k, e, _⟩ := way_item w hd
            subst e
            exact c (Option.some.inj ht).symm)⟩
      · rintro s h ⟨x2, x3, ks, rfl, rfl, pre⟩
        rw [enumD_len] at pre
        walk_at "d"
        exact ⟨_, Sub.refl, hq true ⟨fun _ => pre.all hne, fun _ => rfl⟩⟩
end
end K

set_option Elab.async false
set_option linter.all false
set_option maxRecDepth 100000
set_option maxHeartbeats 4000000
set_option pp.maxSteps 2500
namespace K
open PySem PySem.Spec PyProof.Rows L2 DL
local macro_rules | `(tactic| walk_at "d") => `(tactic| (try simp only [startD, dSeq, dNext, dIfS, dRet, dRetN, dDrop, dAsg, pName, dOp, dUn, dVar, dC, dCons, dNil, dCB, dTest, dTru, truD, dAnd, dOr, dNot, dIf, dPar, dAug, dI0, dII, dI1, dAbs, dInt, dCall, dIx, dTup, dEqS, eqS, dNeS, dAndV, dOrV, dNotV, dIsi, dLen, lenD, dSl, dCut, dPart, dNoPart, dCL, dlLst, dNew, dLst, dAdd, dMul, dIsN, dNotN, nonD, dSet, dPut, eLen, eTuple, eAll, eAny, eSum, eMax, eMin, dTuple, dTupR1, dYes, dIxL, dlCatVL, dlCatLV, dlCatLL, dlRep, dIterL, dSeqI, dRng1, dRng2, dEnum, pTup, setAll, wipeD, dMt, dMt0, tyM, dAppend, dlRg1, dlRg2, dNewK, dNewT, dRev, dRaise, dDisp1, dZip, dTry, dTryAs, dBreak, dCont,
  ty_int, ty_bl, ty_str, ty_non, ty_tup, mem_int, mem_bool, mem_str, mem_tuple, mem_list, isTy_self, isTy_bool_int, isTy_int_bool, isTy_int_tuple, isTy_int_list, isTy_int_str, isTy_bool_tuple, isTy_bool_list, isTy_bool_str, isTy_str_bool, isTy_str_int, isTy_str_tuple, isTy_str_list, isTy_non_tuple, isTy_non_list, isTy_non_str, isTy_non_int, isTy_non_bool, isTy_tup_list, isTy_tup_int, isTy_tup_str, isTy_tup_bool, isTy_list_tup, isTy_list_int, isTy_list_bool, isTy_list_str,
  sp1, sp2, sp3, sp4, sp5, sp6, updD_same, updD_updD, List.map_cons, List.map_nil, List.length_cons, List.length_nil, List.set_cons_zero, List.set_cons_succ, List.getElem?_cons_zero, List.getElem?_cons_succ, List.cons_append, List.nil_append, Nat.reduceAdd, Nat.reduceSub, List.replicate, Nat.sub_self, decide_eq_true_eq, Bool.not_eq_true', decide_eq_false_iff_not, decide_true, decide_false, Bool.not_true, Bool.not_false, Bool.false_eq_true, Bool.true_eq_false, if_true, if_false, reduceIte, true_and, and_true, List.isEmpty_nil, List.isEmpty_cons, List.flatten_cons, List.flatten_nil, at_0, at_1, at_2, at_3, at_4, at_5, at_6, at_7, at_m1_1, at_m1_2, at_m1_3, at_m1_4, at_m1_5, at_m1_6, nc_0, nc_1, nc_2, nc_3, nc_4, nc_5, nc_6, nc_7, nc_8, nc_9, nc_10, nc_11, nc_12, len_map, not_true_eq_false, not_false_eq_true, ite_true, ite_false, Int.reduceEq, Int.reduceNe, Int.reduceLT, Int.reduceLE, Nat.reduceEqDiff, Option.some.injEq, true_implies, forall_const, sz_0, sz_1, sz_2, sz_3, sz_4, sz_5, sz_6, sz_7, sz_8, sz_9, sz_10, sz_11, sz_12, sz_13, sz_14, sz_15, sz_16, sz_17, sz_18, sz_19, sz_20, ix_4_1, ix_4_2, ix_4_3]))
theorem ring_not {g : Gr} {d : D} (h : ¬ WayP g d) : ¬ RingP g d := fun ⟨ks, e, h1, h2, _⟩ => h ⟨ks, e, h1, h2⟩
theorem ring_iff {g : Gr} {ks : List Nat} (h1 : ks ≠ []) (h2 : WayL g ks) : RingP g (.tup (ks.map eN)) ↔ (gE g (lastN ks)).b = (gE g (headN ks)).a := by
  constructor
  · rintro ⟨ls, e, _, _, h⟩
    rw [eN_inj (tup_inj e)]; exact h
  · exact fun h => ⟨ks, rfl, h1, h2, h⟩
theorem way_iff {g : Gr} {ks : List Nat} (h1 : ks ≠ []) (hk : ∀ k ∈ ks, k < g.2.length) : WayP g (.tup (ks.map eN)) ↔ ∀ i, i < ks.length - 1 → (gE g (ks.getD i 0)).b = (gE g (ks.getD (i + 1) 0)).a := by
  constructor
  · rintro ⟨ls, e, _, h⟩ i hi
    rw [eN_inj (tup_inj e)] at hi ⊢
    have a1 : ls[i]? = some ls[i] := List.getElem?_eq_getElem (by omega)
    have a2 : ls[i + 1]? = some ls[i + 1] := List.getElem?_eq_getElem (by omega)
    have := h.next i _ _ a1 a2
    rw [List.getD_eq_getElem?_getD, List.getD_eq_getElem?_getD, a1, a2]
    exact this
  · refine fun h => ⟨ks, rfl, h1, hk, fun i k l hi hi2 => ?_⟩
    have hl := (List.getElem?_eq_some_iff.mp hi2).1
    have := h i (by omega)
    rw [List.getD_eq_getElem?_getD, List.getD_eq_getElem?_getD, hi, hi2] at this
    exact this
theorem getN_at {ks : List Nat} {i : Nat} (h : i < ks.length) : atI (ks.map eN) (i : Int) = some (.int (ks.getD i 0 : Nat)) := atI_nat (by
  rw [List.getElem?_map, List.getD_eq_getElem?_getD, List.getElem?_eq_getElem h]; rfl)
theorem getD_lt {ks : List Nat} {m i : Nat} (hk : ∀ k ∈ ks, k < m) (h : i < ks.length) : ks.getD i 0 < m := by
  rw [List.getD_eq_getElem?_getD, List.getElem?_eq_getElem h]
  exact hk _ (List.getElem_mem h)
section
variable {P : Program} {w : World} {K : PySem.W.Frag} {mg : Str → Option Value} {base : Heap} {C_DelayError C_BadNet : Addr}
theorem h__law_is_way (T : Txt K mg C_DelayError C_BadNet) (H__law_is_whole : Has P w K mg base "_law_is_whole" 2 ["value"] sp_is_integer) : Has P w K mg base "_law_is_way" (3) ["graph", "way"] (sp_is_way) := by
  refine has_of T.a__law_is_way fun f fd F => okD F sc__law_is_way len2 fun cdv A outer s H E b ds q xx hr tk hsp => ?_
  have hr__law_is_whole := hr.mono (show 2 ≤ 2 by decide)
  refine ⟨_, (dss_cons (ds_if (dt_w (dw_or (dt_not (dt_tru (de_cb (pe_callB call_isi (by rfl) T.m_isinstance bt_isinstance (da_cons (de_var (pv 1)) (da_cons (de_ty (by rfl) T.m_tuple bt_tuple) da_nil))) refIsi))) (dw_or1 (dt_eq (de_cb (pe_callB call_lenU (by rfl) T.m_len bt_len (da_cons (de_var (pv 1)) da_nil)) refLen) de_int)))) (dss_one (ds_ret de_bl)) dss_nil)
  (dss_cons (ds_for (passes_of rfl) rfl (di_seq (de_var (pv 1))) (pg_name (i := 2) sc__law_is_way.nd rfl (Or.inl rfl)) (refG_name 2) (dss_one (ds_if (dt_w (dw_or (dt_not (dt_tru (de_callH H__law_is_whole hr__law_is_whole (by rfl) tk (da_cons (de_var (pv 2)) da_nil)))) (dw_or (dt_lt (de_var (pv 2)) de_int) (dw_or1 (dt_ge (de_var (pv 2)) (de_cb (pe_callB call_lenU (by rfl) T.m_len bt_len (da_cons (de_ix (hu_of hr) (de_var (pv 0)) de_int (fun _ _ => rfl)) da_nil)) refLen)))))) (dss_one (ds_ret de_bl)) dss_nil)))
  (dss_one (ds_ret (de_eq (de_cl (pe_callB call_lenU (by rfl) T.m_len bt_len (one_l (dl_lc (own := [("k", 3)]) rfl sc__law_is_way.nd (di_rng2 (by rfl) T.m_range (da_cons de_int (da_cons (de_cb (pe_callB call_lenU (by rfl) T.m_len bt_len (da_cons (de_var (pv 1)) da_nil)) refLen) da_nil))) (blkOk_by (own := [("k", 3)]) (N := ["graph", "way", "e", "k"]) (sc := defScope st__law_is_way) (by decide +kernel)) (ownG_name (by decide)) (fun _ _ _ _ _ => pg_name (i := 3) sc__law_is_way.nd rfl (Or.inl rfl)) (fun _ _ _ _ _ => dts_one (dt_ne (de_ix (hu_of hr) (de_ix (hu_of hr) (de_ix (hu_of hr) (de_var (pv 0)) de_int (fun _ _ => rfl)) (de_ix (hu_of hr) (de_var (pv 1)) (de_sub (de_var (pv 3)) de_int) (fun _ _ => rfl)) (fun _ _ => rfl)) de_int (fun _ _ => rfl)) (de_ix (hu_of hr) (de_ix (hu_of hr) (de_ix (hu_of hr) (de_var (pv 0)) de_int (fun _ _ => rfl)) (de_ix (hu_of hr) (de_var (pv 1)) (de_var (pv 3)) (fun _ _ => rfl)) (fun _ _ => rfl)) de_int (fun _ _ => rfl)))) (fun _ _ _ _ _ => (de_var (pv 3)))))) rlLen) de_int))))), ?_⟩
  obtain ⟨d0, d1, rfl, hsp⟩ := inv2 hsp
  obtain ⟨g, rfl, hw, hv, hq⟩ := hsp
  have hm := hw.m
  cases hv with
  | oth ht hne hk =>
    unfold eG
    walk_at "d"
    simp only [ht, isTy_tupO hk hne]
    walk_at "d"
    exact ⟨b, Sub.refl, hq false (no_iff (way_not ht hne))⟩
  | tup hl hds =>
    rename_i ds
    unfold eG
    walk_at "d"
    by_cases h0 : ds.length < 1
    · rw [if_pos (by omega)]
      have : ds = [] := List.eq_nil_of_length_eq_zero (by omega)
      subst this
      refine ⟨b, Sub.refl, hq false (no_iff fun ⟨ks, z, hn, _⟩ => ?_)⟩
      have := tup_inj z
      cases ks with
      | nil => exact absurd rfl hn
      | cons => cases this
    · rw [if_neg (by omega)]
      have hne : ds ≠ [] := fun z => h0 (by rw [z]; exact Nat.zero_lt_one)
      refine forG (xs := ds) (G := fun _ => True) (fun i s h => ∃ x2 x3 ks, s = [some (.tup [.int (g.1 : Nat), .tup (g.2.map eE)]), some (.tup ds), x2, x3] ∧ h = b ∧ ds.take i = ks.map eN ∧ ∀ k ∈ ks, k < g.2.length) (fun r hr => by walk_at "d"; exact hr) ⟨none, none, [], rfl, rfl, rfl, fun k hk => by simp at hk⟩ (fun _ _ _ _ _ => trivial) ?_ ?_
      · rintro i d s h hd ⟨x2, x3, ks, rfl, rfl, pre, hks⟩
        have hi := (List.getElem?_eq_some_iff.mp hd).1
        obtain ⟨t, ht⟩ := hds d (List.mem_of_getElem? hd)
        walk_at "d"
        refine ⟨t, ht, ?_⟩
        by_cases c : t = "int"
        · subst c
          obtain ⟨z, rfl⟩ := int_ty ht
          walk_at "d"
          by_cases c1 : z < 0
          · rw [if_pos c1]
            refine ⟨_, Sub.refl, hq false (no_iff fun w => ?_)⟩
            obtain ⟨k, e, _⟩ := way_item w hd
            unfold eN at e; injection e with e
            omega
          · rw [if_neg c1]
            obtain ⟨k, rfl⟩ : ∃ k : Nat, z = (k : Int) := ⟨z.toNat, by omega⟩
            by_cases c2 : g.2.length ≤ k
            · rw [if_pos (by omega)]
              refine ⟨_, Sub.refl, hq false (no_iff fun w => ?_)⟩
              obtain ⟨k', e, hk'⟩ := way_item w hd
              unfold eN at e; injection e with e
              omega
            · rw [if_neg (by omega)]
              refine ⟨_, _, ks ++ [k], rfl, ?_, fun l hl => ?_⟩
              · rw [List.take_add_one, pre, hd, List.map_append]; rfl
              · rcases List.mem_append.mp hl with h | h
                · exact hks l h
                · have : l = k := by simpa using h
                  omega
        · simp only [c, decide_false]
          walk_at "d"
          refine ⟨_, Sub.refl, hq false (no_iff fun w => ?_)⟩
          obtain ⟨k, e, _⟩ := way_item w hd
          subst e
          exact c (Option.some.inj ht).symm
      · rintro s h ⟨x2, x3, ks, rfl, rfl, pre, hks⟩
        rw [List.take_length] at pre
        subst pre
        rw [List.length_map] at hl h0
        have hne : ks ≠ [] := fun z => hne (by rw [z]; rfl)
        walk_at "d"
        refine lcE (List.range (ks.length - 1)) (fun k => eN (k + 1)) (G := fun _ => True) (fun i => decide (¬ (gE g (ks.getD i 0)).b = (gE g (ks.getD (i + 1) 0)).a)) (fun i => eN (i + 1)) (fun r hr => by
          walk_at "d"
          have : rgD 1 (ks.length : Nat) = (List.range (ks.length - 1)).map fun k => eN (k + 1) := by
            unfold rgD
            rw [show (((ks.length : Nat) : Int) - 1).toNat = ks.length - 1 by omega]
            apply List.map_congr_left
            intro k _
            unfold eN
            congr 1
            omega
          rw [this]
          exact ⟨by omega, hr⟩) trivial (accMax_big (by rw [List.length_range]; omega)) (fun k hk Y Z hY hZ => ?_) ?_
        · have hk := List.mem_range.mp hk
          have b1 := getN_at (ks := ks) (i := k) (by omega)
          have b2 := getN_at (ks := ks) (i := k + 1) (by omega)
          have b3 := atE (getD_lt hks (show k < ks.length by omega))
          have b4 := atE (getD_lt hks (show k + 1 < ks.length by omega))
          have b5 : ((k + 1 : Nat) : Int) - 1 = ((k : Nat) : Int) := by omega
          simp only [show eN (k + 1) = D.int ((k + 1 : Nat) : Int) from rfl] at hY ⊢
          (try simp only [startD, dSeq, dNext, dIfS, dRet, dRetN, dDrop, dAsg, pName, dOp, dUn, dVar, dC, dCons, dNil, dCB, dTest, dTru, truD, dAnd, dOr, dNot, dIf, dPar, dAug, dI0, dII, dI1, dAbs, dInt, dCall, dIx, dTup, dEqS, eqS, dNeS, dAndV, dOrV, dNotV, dIsi, dLen, lenD, dSl, dCut, dPart, dNoPart, dCL, dlLst, dNew, dLst, dAdd, dMul, dIsN, dNotN, nonD, dSet, dPut, eLen, eTuple, eAll, eAny, eSum, eMax, eMin, dTuple, dTupR1, dYes, dIxL, dlCatVL, dlCatLV, dlCatLL, dlRep, dIterL, dSeqI, dRng1, dRng2, dEnum, pTup, setAll, wipeD, dMt, dMt0, tyM, dAppend, dlRg1, dlRg2, dNewK, dNewT, dRev, dRaise, dDisp1, dZip, dTry, dTryAs, dBreak, dCont,   ty_int, ty_bl, ty_str, ty_non, ty_tup, mem_int, mem_bool, mem_str, mem_tuple, mem_list, isTy_self, isTy_bool_int, isTy_int_bool, isTy_int_tuple, isTy_int_list, isTy_int_str, isTy_bool_tuple, isTy_bool_list, isTy_bool_str, isTy_str_bool, isTy_str_int, isTy_str_tuple, isTy_str_list, isTy_non_tuple, isTy_non_list, isTy_non_str, isTy_non_int, isTy_non_bool, isTy_tup_list, isTy_tup_int, isTy_tup_str, isTy_tup_bool, isTy_list_tup, isTy_list_int, isTy_list_bool, isTy_list_str,   sp1, sp2, sp3, sp4, sp5, sp6, updD_same, updD_updD, List.map_cons, List.map_nil, List.length_cons, List.length_nil, List.set_cons_zero, List.set_cons_succ, List.getElem?_cons_zero, List.getElem?_cons_succ, List.cons_append, List.nil_append, Nat.reduceAdd, Nat.reduceSub, List.replicate, Nat.sub_self, decide_eq_true_eq, Bool.not_eq_true', decide_eq_false_iff_not, decide_true, decide_false, Bool.not_true, Bool.not_false, Bool.false_eq_true, Bool.true_eq_false, if_true, if_false, reduceIte, true_and, and_true, List.isEmpty_nil, List.isEmpty_cons, List.flatten_cons, List.flatten_nil, at_0, at_1, at_2, at_3, at_4, at_5, at_6, at_7, at_m1_1, at_m1_2, at_m1_3, at_m1_4, at_m1_5, at_m1_6, nc_0, nc_1, nc_2, nc_3, nc_4, nc_5, nc_6, nc_7, nc_8, nc_9, nc_10, nc_11, nc_12, len_map, not_true_eq_false, not_false_eq_true, ite_true, ite_false, Int.reduceEq, Int.reduceNe, Int.reduceLT, Int.reduceLE, Nat.reduceEqDiff, Option.some.injEq, true_implies, forall_const, sz_0, sz_1, sz_2, sz_3, sz_4, sz_5, sz_6, sz_7, sz_8, sz_9, sz_10, sz_11, sz_12, sz_13, sz_14, sz_15, sz_16, sz_17, sz_18, sz_19, sz_20, ix_4_1, ix_4_2, ix_4_3, b1, b2, b3, b4, b5, eE_eq (gE g (ks.getD k 0)), eE_eq (gE g (ks.getD (k + 1) 0)), nat_inj])
          split
          · rename_i c; exact hY (decide_eq_true c)
          · rename_i c; exact hZ (decide_eq_false c)
        · rw [List.length_map]
          refine ⟨_, Sub.refl, hq _ ?_⟩
          rw [way_iff hne hks, decide_eq_true_eq, nat_zero, List.length_eq_zero_iff, List.filter_eq_nil_iff]
          constructor
          · intro h i hi
            have := h i (List.mem_range.mpr hi)
            simpa using this
          · intro h i hi
            have := h i (List.mem_range.mp hi)
            simp only [this, not_true_eq_false, decide_false, Bool.false_eq_true, not_false_eq_true]
theorem h_is_ring (T : Txt K mg C_DelayError C_BadNet) (H_is_way : Has P w K mg base "is_way" 3 ["graph", "way"] sp_is_way) : Has P w K mg base "is_ring" (4) ["graph", "ring"] (sp_is_ring) := by
  refine has_of T.a_is_ring fun f fd F => okD F sc_is_ring len2 fun cdv A outer s H E b ds q xx hr tk hsp => ?_
  have hr_is_way := hr.mono (show 3 ≤ 3 by decide)
  refine ⟨_, (dss_one (ds_ret (de_and (de_callH H_is_way hr_is_way (by rfl) tk (da_cons (de_var (pv 0)) (da_cons (de_var (pv 1)) da_nil))) (de_one (de_eq (de_ix (hu_of hr) (de_ix (hu_of hr) (de_ix (hu_of hr) (de_var (pv 0)) de_int (fun _ _ => rfl)) (de_ix (hu_of hr) (de_var (pv 1)) (de_neg de_int) (fun _ _ => rfl)) (fun _ _ => rfl)) de_int (fun _ _ => rfl)) (de_ix (hu_of hr) (de_ix (hu_of hr) (de_ix (hu_of hr) (de_var (pv 0)) de_int (fun _ _ => rfl)) (de_ix (hu_of hr) (de_var (pv 1)) de_int (fun _ _ => rfl)) (fun _ _ => rfl)) de_int (fun _ _ => rfl))))))), ?_⟩
  obtain ⟨d0, d1, rfl, hsp⟩ := inv2 hsp
  obtain ⟨g, rfl, hw, hv, hq⟩ := hsp
  walk_at "d"
  refine ⟨g, rfl, hw, hv, fun k hk => ?_⟩
  cases k with
  | false =>
    walk_at "d"
    exact ⟨b, Sub.refl, hq false (no_iff (ring_not fun z => nomatch hk.mpr z))⟩
  | true =>
    obtain ⟨ks, rfl, hne, wl⟩ := hk.mp rfl
    have h0 : 0 < ks.length := List.length_pos_iff.mpr hne
    have g1 : atI (ks.map eN) (-1) = some (.int (lastN ks : Nat)) := at_last (by rw [List.length_map, List.getElem?_map, lastN_get hne]; rfl)
    have g2 : atI (ks.map eN) 0 = some (.int (headN ks : Nat)) := atI_nat (j := 0) (by rw [List.getElem?_map, headN_get hne]; rfl)
    have g3 := atE (wl.lt _ (List.mem_of_getElem? (lastN_get hne)))
    have g4 := atE (wl.lt _ (List.mem_of_getElem? (headN_get hne)))
    unfold eG
    (try simp only [startD, dSeq, dNext, dIfS, dRet, dRetN, dDrop, dAsg, pName, dOp, dUn, dVar, dC, dCons, dNil, dCB, dTest, dTru, truD, dAnd, dOr, dNot, dIf, dPar, dAug, dI0, dII, dI1, dAbs, dInt, dCall, dIx, dTup, dEqS, eqS, dNeS, dAndV, dOrV, dNotV, dIsi, dLen, lenD, dSl, dCut, dPart, dNoPart, dCL, dlLst, dNew, dLst, dAdd, dMul, dIsN, dNotN, nonD, dSet, dPut, eLen, eTuple, eAll, eAny, eSum, eMax, eMin, dTuple, dTupR1, dYes, dIxL, dlCatVL, dlCatLV, dlCatLL, dlRep, dIterL, dSeqI, dRng1, dRng2, dEnum, pTup, setAll, wipeD, dMt, dMt0, tyM, dAppend, dlRg1, dlRg2, dNewK, dNewT, dRev, dRaise, dDisp1, dZip, dTry, dTryAs, dBreak, dCont,   ty_int, ty_bl, ty_str, ty_non, ty_tup, mem_int, mem_bool, mem_str, mem_tuple, mem_list, isTy_self, isTy_bool_int, isTy_int_bool, isTy_int_tuple, isTy_int_list, isTy_int_str, isTy_bool_tuple, isTy_bool_list, isTy_bool_str, isTy_str_bool, isTy_str_int, isTy_str_tuple, isTy_str_list, isTy_non_tuple, isTy_non_list, isTy_non_str, isTy_non_int, isTy_non_bool, isTy_tup_list, isTy_tup_int, isTy_tup_str, isTy_tup_bool, isTy_list_tup, isTy_list_int, isTy_list_bool, isTy_list_str,   sp1, sp2, sp3, sp4, sp5, sp6, updD_same, updD_updD, List.map_cons, List.map_nil, List.length_cons, List.length_nil, List.set_cons_zero, List.set_cons_succ, List.getElem?_cons_zero, List.getElem?_cons_succ, List.cons_append, List.nil_append, Nat.reduceAdd, Nat.reduceSub, List.replicate, Nat.sub_self, decide_eq_true_eq, Bool.not_eq_true', decide_eq_false_iff_not, decide_true, decide_false, Bool.not_true, Bool.not_false, Bool.false_eq_true, Bool.true_eq_false, if_true, if_false, reduceIte, true_and, and_true, List.isEmpty_nil, List.isEmpty_cons, List.flatten_cons, List.flatten_nil, at_0, at_1, at_2, at_3, at_4, at_5, at_6, at_7, at_m1_1, at_m1_2, at_m1_3, at_m1_4, at_m1_5, at_m1_6, nc_0, nc_1, nc_2, nc_3, nc_4, nc_5, nc_6, nc_7, nc_8, nc_9, nc_10, nc_11, nc_12, len_map, not_true_eq_false, not_false_eq_true, ite_true, ite_false, Int.reduceEq, Int.reduceNe, Int.reduceLT, Int.reduceLE, Nat.reduceEqDiff, Option.some.injEq, true_implies, forall_const, sz_0, sz_1, sz_2, sz_3, sz_4, sz_5, sz_6, sz_7, sz_8, sz_9, sz_10, sz_11, sz_12, sz_13, sz_14, sz_15, sz_16, sz_17, sz_18, sz_19, sz_20, ix_4_1, ix_4_2, ix_4_3, g1, g2, g3, g4, eE_eq (gE g (lastN ks)), eE_eq (gE g (headN ks)), nat_inj])
    exact ⟨b, Sub.refl, hq _ (dec_iff (ring_iff hne wl).symm)⟩
theorem h__law_is_ring (T : Txt K mg C_DelayError C_BadNet) (H__law_is_way : Has P w K mg base "_law_is_way" 3 ["graph", "way"] sp_is_way) : Has P w K mg base "_law_is_ring" (4) ["graph", "ring"] (sp_is_ring) := by
  refine has_of T.a__law_is_ring fun f fd F => okD F sc__law_is_ring len2 fun cdv A outer s H E b ds q xx hr tk hsp => ?_
  have hr__law_is_way := hr.mono (show 3 ≤ 3 by decide)
  refine ⟨_, (dss_one (ds_ret (de_and (de_callH H__law_is_way hr__law_is_way (by rfl) tk (da_cons (de_var (pv 0)) (da_cons (de_var (pv 1)) da_nil))) (de_one (de_eq (de_ix (hu_of hr) (de_ix (hu_of hr) (de_ix (hu_of hr) (de_var (pv 0)) de_int (fun _ _ => rfl)) (de_ix (hu_of hr) (de_var (pv 1)) (de_neg de_int) (fun _ _ => rfl)) (fun _ _ => rfl)) de_int (fun _ _ => rfl)) (de_ix (hu_of hr) (de_ix (hu_of hr) (de_ix (hu_of hr) (de_var (pv 0)) de_int (fun _ _ => rfl)) (de_ix (hu_of hr) (de_var (pv 1)) de_int (fun _ _ => rfl)) (fun _ _ => rfl)) de_int (fun _ _ => rfl))))))), ?_⟩
  obtain ⟨d0, d1, rfl, hsp⟩ := inv2 hsp
  obtain ⟨g, rfl, hw, hv, hq⟩ := hsp
  walk_at "d"
  refine ⟨g, rfl, hw, hv, fun k hk => ?_⟩
  cases k with
  | false =>
    walk_at "d"
    exact ⟨b, Sub.refl, hq false (no_iff (ring_not fun z => nomatch hk.mpr z))⟩
  | true =>
    obtain ⟨ks, rfl, hne, wl⟩ := hk.mp rfl
    have h0 : 0 < ks.length := List.length_pos_iff.mpr hne
    have g1 : atI (ks.map eN) (-1) = some (.int (lastN ks : Nat)) := at_last (by rw [List.length_map, List.getElem?_map, lastN_get hne]; rfl)
    have g2 : atI (ks.map eN) 0 = some (.int (headN ks : Nat)) := atI_nat (j := 0) (by rw [List.getElem?_map, headN_get hne]; rfl)
    have g3 := atE (wl.lt _ (List.mem_of_getElem? (lastN_get hne)))
    have g4 := atE (wl.lt _ (List.mem_of_getElem? (headN_get hne)))
    unfold eG
    (try simp only [startD, dSeq, dNext, dIfS, dRet, dRetN, dDrop, dAsg, pName, dOp, dUn, dVar, dC, dCons, dNil, dCB, dTest, dTru, truD, dAnd, dOr, dNot, dIf, dPar, dAug, dI0, dII, dI1, dAbs, dInt, dCall, dIx, dTup, dEqS, eqS, dNeS, dAndV, dOrV, dNotV, dIsi, dLen, lenD, dSl, dCut, dPart, dNoPart, dCL, dlLst, dNew, dLst, dAdd, dMul, dIsN, dNotN, nonD, dSet, dPut, eLen, eTuple, eAll, eAny, eSum, eMax, eMin, dTuple, dTupR1, dYes, dIxL, dlCatVL, dlCatLV, dlCatLL, dlRep, dIterL, dSeqI, dRng1, dRng2, dEnum, pTup, setAll, wipeD, dMt, dMt0, tyM, dAppend, dlRg1, dlRg2, dNewK, dNewT, dRev, dRaise, dDisp1, dZip, dTry, dTryAs, dBreak, dCont,   ty_int, ty_bl, ty_str, ty_non, ty_tup, mem_int, mem_bool, mem_str, mem_tuple, mem_list, isTy_self, isTy_bool_int, isTy_int_bool, isTy_int_tuple, isTy_int_list, isTy_int_str, isTy_bool_tuple, isTy_bool_list, isTy_bool_str, isTy_str_bool, isTy_str_int, isTy_str_tuple, isTy_str_list, isTy_non_tuple, isTy_non_list, isTy_non_str, isTy_non_int, isTy_non_bool, isTy_tup_list, isTy_tup_int, isTy_tup_str, isTy_tup_bool, isTy_list_tup, isTy_list_int, isTy_list_bool, isTy_list_str,   sp1, sp2, sp3, sp4, sp5, sp6, updD_same, updD_updD, List.map_cons, List.map_nil, List.length_cons, List.length_nil, List.set_cons_zero, List.set_cons_succ, List.getElem?_cons_zero, List.getElem?_cons_succ, List.cons_append, List.nil_append, Nat.reduceAdd, Nat.reduceSub, List.replicate, Nat.sub_self, decide_eq_true_eq, Bool.not_eq_true', decide_eq_false_iff_not, decide_true, decide_false, Bool.not_true, Bool.not_false, Bool.false_eq_true, Bool.true_eq_false, if_true, if_false, reduceIte, true_and, and_true, List.isEmpty_nil, List.isEmpty_cons, List.flatten_cons, List.flatten_nil, at_0, at_1, at_2, at_3, at_4, at_5, at_6, at_7, at_m1_1, at_m1_2, at_m1_3, at_m1_4, at_m1_5, at_m1_6, nc_0, nc_1, nc_2, nc_3, nc_4, nc_5, nc_6, nc_7, nc_8, nc_9, nc_10, nc_11, nc_12, len_map, not_true_eq_false, not_false_eq_true, ite_true, ite_false, Int.reduceEq, Int.reduceNe, Int.reduceLT, Int.reduceLE, Nat.reduceEqDiff, Option.some.injEq, true_implies, forall_const, sz_0, sz_1, sz_2, sz_3, sz_4, sz_5, sz_6, sz_7, sz_8, sz_9, sz_10, sz_11, sz_12, sz_13, sz_14, sz_15, sz_16, sz_17, sz_18, sz_19, sz_20, ix_4_1, ix_4_2, ix_4_3, g1, g2, g3, g4, eE_eq (gE g (lastN ks)), eE_eq (gE g (headN ks)), nat_inj])
    exact ⟨b, Sub.refl, hq _ (dec_iff (ring_iff hne wl).symm)⟩
theorem h__law_tokens (T : Txt K mg C_DelayError C_BadNet) : Has P w K mg base "_law_tokens" (2) ["graph", "ring"] (sp__law_tokens) := by
  refine has_of T.a__law_tokens fun f fd F => okD F sc__law_tokens len2 fun cdv A outer s H E b ds q xx hr tk hsp => ?_
  refine ⟨_, (dss_one (ds_ret (de_cl (pe_callB (cr_sum rfl) (by rfl) T.m_sum bt_sum (one_l (dl_lc (own := [("e", 2)]) rfl sc__law_tokens.nd (di_seq (de_var (pv 1))) (blkOk_by (own := [("e", 2)]) (N := ["graph", "ring", "e"]) (sc := defScope st__law_tokens) (by decide +kernel)) (ownG_name (by decide)) (fun _ _ _ _ _ => pg_name (i := 2) sc__law_tokens.nd rfl (Or.inl rfl)) (fun _ _ _ _ _ => dts_nil) (fun _ _ _ _ _ => (de_ix (hu_of hr) (de_ix (hu_of hr) (de_ix (hu_of hr) (de_var (pv 0)) de_int (fun _ _ => rfl)) (de_var (pv 2)) (fun _ _ => rfl)) de_int (fun _ _ => rfl)))))) rlSum))), ?_⟩
  obtain ⟨d0, d1, rfl, hsp⟩ := inv2 hsp
  obtain ⟨g, ring, rfl, rfl, hw, hr, hl, hq⟩ := hsp
  unfold eG
  walk_at "d"
  refine lcEM ring eN (G := fun _ => True) (fun k => .int ((gE g k).t : Nat)) (fun r hr => by walk_at "d"; exact hr) trivial (accMax_big (by omega)) (fun k hk Y hY => ?_) ?_
  · have g1 := atE (hr k hk)
    simp only [show eN k = D.int ((k : Nat) : Int) from rfl]
    (try simp only [startD, dSeq, dNext, dIfS, dRet, dRetN, dDrop, dAsg, pName, dOp, dUn, dVar, dC, dCons, dNil, dCB, dTest, dTru, truD, dAnd, dOr, dNot, dIf, dPar, dAug, dI0, dII, dI1, dAbs, dInt, dCall, dIx, dTup, dEqS, eqS, dNeS, dAndV, dOrV, dNotV, dIsi, dLen, lenD, dSl, dCut, dPart, dNoPart, dCL, dlLst, dNew, dLst, dAdd, dMul, dIsN, dNotN, nonD, dSet, dPut, eLen, eTuple, eAll, eAny, eSum, eMax, eMin, dTuple, dTupR1, dYes, dIxL, dlCatVL, dlCatLV, dlCatLL, dlRep, dIterL, dSeqI, dRng1, dRng2, dEnum, pTup, setAll, wipeD, dMt, dMt0, tyM, dAppend, dlRg1, dlRg2, dNewK, dNewT, dRev, dRaise, dDisp1, dZip, dTry, dTryAs, dBreak, dCont,   ty_int, ty_bl, ty_str, ty_non, ty_tup, mem_int, mem_bool, mem_str, mem_tuple, mem_list, isTy_self, isTy_bool_int, isTy_int_bool, isTy_int_tuple, isTy_int_list, isTy_int_str, isTy_bool_tuple, isTy_bool_list, isTy_bool_str, isTy_str_bool, isTy_str_int, isTy_str_tuple, isTy_str_list, isTy_non_tuple, isTy_non_list, isTy_non_str, isTy_non_int, isTy_non_bool, isTy_tup_list, isTy_tup_int, isTy_tup_str, isTy_tup_bool, isTy_list_tup, isTy_list_int, isTy_list_bool, isTy_list_str,   sp1, sp2, sp3, sp4, sp5, sp6, updD_same, updD_updD, List.map_cons, List.map_nil, List.length_cons, List.length_nil, List.set_cons_zero, List.set_cons_succ, List.getElem?_cons_zero, List.getElem?_cons_succ, List.cons_append, List.nil_append, Nat.reduceAdd, Nat.reduceSub, List.replicate, Nat.sub_self, decide_eq_true_eq, Bool.not_eq_true', decide_eq_false_iff_not, decide_true, decide_false, Bool.not_true, Bool.not_false, Bool.false_eq_true, Bool.true_eq_false, if_true, if_false, reduceIte, true_and, and_true, List.isEmpty_nil, List.isEmpty_cons, List.flatten_cons, List.flatten_nil, at_0, at_1, at_2, at_3, at_4, at_5, at_6, at_7, at_m1_1, at_m1_2, at_m1_3, at_m1_4, at_m1_5, at_m1_6, nc_0, nc_1, nc_2, nc_3, nc_4, nc_5, nc_6, nc_7, nc_8, nc_9, nc_10, nc_11, nc_12, len_map, not_true_eq_false, not_false_eq_true, ite_true, ite_false, Int.reduceEq, Int.reduceNe, Int.reduceLT, Int.reduceLE, Nat.reduceEqDiff, Option.some.injEq, true_implies, forall_const, sz_0, sz_1, sz_2, sz_3, sz_4, sz_5, sz_6, sz_7, sz_8, sz_9, sz_10, sz_11, sz_12, sz_13, sz_14, sz_15, sz_16, sz_17, sz_18, sz_19, sz_20, ix_4_1, ix_4_2, ix_4_3, g1, eE_eq (gE g k)])
    exact hY
  · refine ⟨ring.map fun k => ((gE g k).t : Int), by rw [List.map_map]; rfl, b, Sub.refl, ?_⟩
    rw [sum_N]; exact hq
end
end K

set_option Elab.async false
set_option linter.all false
set_option maxRecDepth 100000
set_option maxHeartbeats 4000000
set_option pp.maxSteps 2500
namespace K
open PySem PySem.Spec PyProof.Rows L2 DL
local macro_rules | `(tactic| walk_at "d") => `(tactic| (try simp only [startD, dSeq, dNext, dIfS, dRet, dRetN, dDrop, dAsg, pName, dOp, dUn, dVar, dC, dCons, dNil, dCB, dTest, dTru, truD, dAnd, dOr, dNot, dIf, dPar, dAug, dI0, dII, dI1, dAbs, dInt, dCall, dIx, dTup, dEqS, eqS, dNeS, dAndV, dOrV, dNotV, dIsi, dLen, lenD, dSl, dCut, dPart, dNoPart, dCL, dlLst, dNew, dLst, dAdd, dMul, dIsN, dNotN, nonD, dSet, dPut, eLen, eTuple, eAll, eAny, eSum, eMax, eMin, dTuple, dTupR1, dYes, dIxL, dlCatVL, dlCatLV, dlCatLL, dlRep, dIterL, dSeqI, dRng1, dRng2, dEnum, pTup, setAll, wipeD, dMt, dMt0, tyM, dAppend, dlRg1, dlRg2, dNewK, dNewT, dRev, dRaise, dDisp1, dZip, dTry, dTryAs, dBreak, dCont,
  ty_int, ty_bl, ty_str, ty_non, ty_tup, mem_int, mem_bool, mem_str, mem_tuple, mem_list, isTy_self, isTy_bool_int, isTy_int_bool, isTy_int_tuple, isTy_int_list, isTy_int_str, isTy_bool_tuple, isTy_bool_list, isTy_bool_str, isTy_str_bool, isTy_str_int, isTy_str_tuple, isTy_str_list, isTy_non_tuple, isTy_non_list, isTy_non_str, isTy_non_int, isTy_non_bool, isTy_tup_list, isTy_tup_int, isTy_tup_str, isTy_tup_bool, isTy_list_tup, isTy_list_int, isTy_list_bool, isTy_list_str,
  sp1, sp2, sp3, sp4, sp5, sp6, updD_same, updD_updD, List.map_cons, List.map_nil, List.length_cons, List.length_nil, List.set_cons_zero, List.set_cons_succ, List.getElem?_cons_zero, List.getElem?_cons_succ, List.cons_append, List.nil_append, Nat.reduceAdd, Nat.reduceSub, List.replicate, Nat.sub_self, decide_eq_true_eq, Bool.not_eq_true', decide_eq_false_iff_not, decide_true, decide_false, Bool.not_true, Bool.not_false, Bool.false_eq_true, Bool.true_eq_false, if_true, if_false, reduceIte, true_and, and_true, List.isEmpty_nil, List.isEmpty_cons, List.flatten_cons, List.flatten_nil, at_0, at_1, at_2, at_3, at_4, at_5, at_6, at_7, at_m1_1, at_m1_2, at_m1_3, at_m1_4, at_m1_5, at_m1_6, nc_0, nc_1, nc_2, nc_3, nc_4, nc_5, nc_6, nc_7, nc_8, nc_9, nc_10, nc_11, nc_12, len_map, not_true_eq_false, not_false_eq_true, ite_true, ite_false, Int.reduceEq, Int.reduceNe, Int.reduceLT, Int.reduceLE, Nat.reduceEqDiff, Option.some.injEq, true_implies, forall_const, sz_0, sz_1, sz_2, sz_3, sz_4, sz_5, sz_6, sz_7, sz_8, sz_9, sz_10, sz_11, sz_12, sz_13, sz_14, sz_15, sz_16, sz_17, sz_18, sz_19, sz_20, ix_4_1, ix_4_2, ix_4_3]))
/-! ### where ways lead -/
inductive Led (g : Gr) (s : Nat) : Nat → Prop
  | here : Led g s s
  | on {e} : e ∈ g.2 → Led g s e.a → Led g s e.b
def LedL (g : Gr) (s : Nat) (ns : List Nat) : Prop := ns.Pairwise (· < ·) ∧ ∀ v, v ∈ ns ↔ Led g s v
theorem led_lt {g : Gr} {s v : Nat} (hw : WF g) (hs : s < g.1) (l : Led g s v) : v < g.1 := by
  cases l with
  | here => exact hs
  | on he _ => exact (hw.es _ he).b
theorem led_in {g : Gr} {s v : Nat} {W : List Nat} (hs : s ∈ W) (cl : ∀ e ∈ g.2, e.a ∈ W → e.b ∈ W) (l : Led g s v) : v ∈ W := by
  induction l with
  | here => exact hs
  | on he _ ih => exact cl _ he ih
theorem ledL_one {g : Gr} {s : Nat} {l l' : List Nat} (h : LedL g s l) (h' : LedL g s l') : l = l' := sorted_one h.1 h'.1 fun k => (h.2 k).trans (h'.2 k).symm
def sp__law_led : DSp := sp2 fun a s h q _ => ∃ g u, a = eG g ∧ s = eN u ∧ WF g ∧ u < g.1 ∧ g.1 + g.2.length < 64 ∧ ∀ ns, LedL g u ns → q (.tup (ns.map eN)) h
def sp__law_reached : DSp := sp2 fun a r h q _ => ∃ g pc c, a = eG g ∧ r = .loc pc ∧ h pc = some (cntD g c) ∧ WF g ∧ (∃ rk, LiveG g rk) ∧ Bal0 g c ∧ q (eM g c) h
theorem led_round {g : Gr} {s : Nat} {W W' : List Nat} {i : Nat} (pw : W.Pairwise (· < ·)) (hs : s ∈ W) (hl : ∀ v ∈ W, Led g s v) (hk : (∀ e ∈ g.2, e.a ∈ W → e.b ∈ W) ∨ i + 1 ≤ W.length)
    (pw' : W'.Pairwise (· < ·)) (mem : ∀ v, v ∈ W' ↔ v ∈ W ∨ ∃ e ∈ g.2, e.a ∈ W ∧ e.b = v) : s ∈ W' ∧ (∀ v ∈ W', Led g s v) ∧ ((∀ e ∈ g.2, e.a ∈ W' → e.b ∈ W') ∨ i + 2 ≤ W'.length) := by
  refine ⟨(mem s).mpr (.inl hs), fun v hv => ?_, ?_⟩
  · rcases (mem v).mp hv with h | ⟨e, he, h1, rfl⟩
    · exact hl v h
    · exact .on he (hl _ h1)
  · by_cases cl : ∀ e ∈ g.2, e.a ∈ W → e.b ∈ W
    · left
      have same : ∀ v, v ∈ W' → v ∈ W := fun v hv => by
        rcases (mem v).mp hv with h | ⟨e, he, h1, rfl⟩
        · exact h
        · exact cl e he h1
      exact fun e he ha => (mem _).mpr (.inl (cl e he (same _ ha)))
    · right
      have hk := hk.resolve_left cl
      obtain ⟨e, he, h1, h2⟩ : ∃ e ∈ g.2, e.a ∈ W ∧ e.b ∉ W := Classical.byContradiction fun no => cl fun e he ha => Classical.byContradiction fun hb => no ⟨e, he, ha, hb⟩
      have nd : (e.b :: W).Nodup := List.nodup_cons.mpr ⟨h2, pw_nodup pw⟩
      have := nodup_sub (l' := W') nd fun x hx => by
        rcases List.mem_cons.mp hx with rfl | hx
        · exact (mem _).mpr (.inr ⟨e, he, h1, rfl⟩)
        · exact (mem _).mpr (.inl hx)
      rw [List.length_cons] at this
      omega
theorem ready_one {g : Gr} {f c : Nat → Nat} (hw : WF g) (lv : ∃ rk, LiveG g rk) (bf : Bal0 g f) (bc : Bal0 g c) (no : ∃ v, v < g.1 ∧ f v < c v) : ∃ v, v < g.1 ∧ f v < c v ∧ Fed g f v := by
  obtain ⟨rk, lv⟩ := lv
  obtain ⟨v, hv, h⟩ := no
  have hm : v ∈ (List.range g.1).filter fun v => decide (f v < c v) := List.mem_filter.mpr ⟨List.mem_range.mpr hv, decide_eq_true h⟩
  obtain ⟨u, hu, fd⟩ := fed_min hw lv bf (W := (List.range g.1).filter fun v => decide (f v < c v)) (fun z => by rw [z] at hm; cases hm) fun e he hz hb => by
    obtain ⟨h1, h2⟩ := List.mem_filter.mp hb
    have h2 := of_decide_eq_true h2
    have h3 := bc e he
    have h4 := bf e he
    unfold mk at hz
    exact List.mem_filter.mpr ⟨List.mem_range.mpr (hw.es e he).a, decide_eq_true (by omega)⟩
  obtain ⟨h1, h2⟩ := List.mem_filter.mp hu
  exact ⟨u, List.mem_range.mp h1, of_decide_eq_true h2, fd⟩
theorem sum_lt {α : Type} {f f' : α → Nat} : ∀ {l : List α}, (∀ v ∈ l, f v ≤ f' v) → (∃ u ∈ l, f u < f' u) → (l.map f).sum < (l.map f').sum
  | [], _, h => by obtain ⟨_, h, _⟩ := h; cases h
  | a :: r, h, ⟨u, hu, hlt⟩ => by
    have h1 := h a List.mem_cons_self
    have h2 : (r.map f).sum ≤ (r.map f').sum := by
      have := fun v hv => h v (List.mem_cons_of_mem _ hv)
      clear h hu h1
      induction r with
      | nil => exact Nat.le_refl _
      | cons b r ih =>
        rw [List.map_cons, List.map_cons, List.sum_cons, List.sum_cons]
        have := this b List.mem_cons_self
        have := ih fun v hv => ‹∀ v ∈ b :: r, f v ≤ f' v› v (List.mem_cons_of_mem _ hv)
        omega
    rw [List.map_cons, List.map_cons, List.sum_cons, List.sum_cons]
    rcases List.mem_cons.mp hu with e | hu
    · subst e; omega
    · have := sum_lt (fun v hv => h v (List.mem_cons_of_mem _ hv)) ⟨u, hu, hlt⟩
      omega
theorem sum_zero_all {f : Nat → Nat} : ∀ {l : List Nat}, (l.map f).sum = 0 → ∀ v ∈ l, f v = 0
  | [], _, v, h => nomatch h
  | a :: r, e, v, h => by
    rw [List.map_cons, List.sum_cons] at e
    rcases List.mem_cons.mp h with rfl | h
    · omega
    · exact sum_zero_all (by omega) v h
section
variable {P : Program} {w : World} {K : PySem.W.Frag} {mg : Str → Option Value} {base : Heap} {C_DelayError C_BadNet : Addr}
theorem h__law_led (T : Txt K mg C_DelayError C_BadNet) : Has P w K mg base "_law_led" (2) ["graph", "start"] (sp__law_led) := by
  refine has_of T.a__law_led fun f fd F => okD F sc__law_led len2 fun cdv A outer s H E b ds q xx hr tk hsp => ?_
  refine ⟨_, (dss_cons (ds_set (i := 2) sc__law_led.nd rfl (Or.inr rfl) (de_new (dl_lst (da_cons (de_var (pv 1)) da_nil))))
  (dss_cons (ds_for (passes_of rfl) rfl (di_rng1 (by rfl) T.m_range (da_cons (de_ix (hu_of hr) (de_var (pv 0)) de_int (fun _ _ => rfl)) da_nil)) (pg_name (i := 3) sc__law_led.nd rfl (Or.inl rfl)) (refG_name 3) (dss_one (ds_set (i := 2) sc__law_led.nd rfl (Or.inr rfl) (de_sortset rfl (by rfl) T.m_sorted (by rfl) T.m_set (da_cons (de_new (dl_catVL (de_var (pv 2)) (dl_lc (own := [("a", 4), ("b", 5), ("tokens", 6), ("delay", 7)]) rfl sc__law_led.nd (di_seq (de_ix (hu_of hr) (de_var (pv 0)) de_int (fun _ _ => rfl))) (blkOk_by (own := [("a", 4), ("b", 5), ("tokens", 6), ("delay", 7)]) (N := ["graph", "start", "told", "turn", "a", "b", "tokens", "delay"]) (sc := defScope st__law_led) (by decide +kernel)) (ownG_tup (is := [4, 5, 6, 7]) (by decide)) (fun _ _ _ _ _ => (pg_tup (by rfl) (pgs_cons (pg_name (i := 4) sc__law_led.nd rfl (Or.inl rfl)) (pgs_cons (pg_name (i := 5) sc__law_led.nd rfl (Or.inl rfl)) (pgs_cons (pg_name (i := 6) sc__law_led.nd rfl (Or.inl rfl)) (pgs_cons (pg_name (i := 7) sc__law_led.nd rfl (Or.inl rfl)) pgs_nil)))))) (fun _ _ _ _ _ => dts_one (dt_in (hu_of hr) (de_var (pv 4)) (de_var (pv 2)) (by rfl))) (fun _ _ _ _ _ => (de_var (pv 5)))))) da_nil)))))
  (dss_one (ds_ret (de_cb (pe_callTy call_tuple_of (by rfl) T.m_tuple bt_tuple (da_cons (de_var (pv 2)) da_nil)) refTuple))))), ?_⟩
  obtain ⟨d0, d1, rfl, hsp⟩ := inv2 hsp
  obtain ⟨g, u, rfl, rfl, hw, hu, hsmall, hq⟩ := hsp
  have hm := hw.m
  unfold eG
  walk_at "d"
  intro p hp
  refine forG (xs := rgD 0 (g.1 : Nat)) (G := fun _ => True) (fun i s h => ∃ (W : List Nat) (pw : Addr) (x3 x4 x5 x6 x7 : Option D), s = [some (.tup [.int (g.1 : Nat), .tup (g.2.map eE)]), some (eN u), some (.loc pw), x3, x4, x5, x6, x7] ∧ DL.Sub b h ∧ h pw = some (.lst (W.map eN)) ∧ W.Pairwise (· < ·) ∧ u ∈ W ∧ (∀ v ∈ W, Led g u v) ∧ ((∀ e ∈ g.2, e.a ∈ W → e.b ∈ W) ∨ i + 1 ≤ W.length)) (fun r hr => by walk_at "d"; exact ⟨by omega, by omega, hr⟩) ⟨[u], p, none, none, none, none, none, rfl, Sub.new hp, updD_same, by simp, by simp, (fun v hv => by
    have : v = u := by simpa using hv
    subst this; exact .here), .inr (by simp)⟩ (fun _ _ _ _ _ => trivial) ?_ ?_
  · rintro i x s h hx ⟨W, pw, x3, x4, x5, x6, x7, rfl, s1, l1, pwW, hs, hl, hk⟩
    have lenW : W.length ≤ g.1 := nodup_le (pw_nodup pwW) fun v hv => led_lt hw hu (hl v hv)
    unfold dSortSet
    walk_at "d"
    refine lcE g.2 eE (G := fun _ => True) (fun e => decide (e.a ∈ W)) (fun e => eN e.b) (fun r hr => by walk_at "d"; exact hr) trivial (accMax_big (by omega)) (fun e he Y Z hY hZ => ?_) ?_
    · simp only [eE_eq e]
      walk_at "d"
      simp only [dIn_N l1]
      by_cases c : e.a ∈ W
      · simp only [c]; walk_at "d"; exact hY (decide_eq_true c)
      · simp only [c]; walk_at "d"; exact hZ (decide_eq_false c)
    · unfold lstOf
      (try simp only [startD, dSeq, dNext, dIfS, dRet, dRetN, dDrop, dAsg, pName, dOp, dUn, dVar, dC, dCons, dNil, dCB, dTest, dTru, truD, dAnd, dOr, dNot, dIf, dPar, dAug, dI0, dII, dI1, dAbs, dInt, dCall, dIx, dTup, dEqS, eqS, dNeS, dAndV, dOrV, dNotV, dIsi, dLen, lenD, dSl, dCut, dPart, dNoPart, dCL, dlLst, dNew, dLst, dAdd, dMul, dIsN, dNotN, nonD, dSet, dPut, eLen, eTuple, eAll, eAny, eSum, eMax, eMin, dTuple, dTupR1, dYes, dIxL, dlCatVL, dlCatLV, dlCatLL, dlRep, dIterL, dSeqI, dRng1, dRng2, dEnum, pTup, setAll, wipeD, dMt, dMt0, tyM, dAppend, dlRg1, dlRg2, dNewK, dNewT, dRev, dRaise, dDisp1, dZip, dTry, dTryAs, dBreak, dCont,   ty_int, ty_bl, ty_str, ty_non, ty_tup, mem_int, mem_bool, mem_str, mem_tuple, mem_list, isTy_self, isTy_bool_int, isTy_int_bool, isTy_int_tuple, isTy_int_list, isTy_int_str, isTy_bool_tuple, isTy_bool_list, isTy_bool_str, isTy_str_bool, isTy_str_int, isTy_str_tuple, isTy_str_list, isTy_non_tuple, isTy_non_list, isTy_non_str, isTy_non_int, isTy_non_bool, isTy_tup_list, isTy_tup_int, isTy_tup_str, isTy_tup_bool, isTy_list_tup, isTy_list_int, isTy_list_bool, isTy_list_str,   sp1, sp2, sp3, sp4, sp5, sp6, updD_same, updD_updD, List.map_cons, List.map_nil, List.length_cons, List.length_nil, List.set_cons_zero, List.set_cons_succ, List.getElem?_cons_zero, List.getElem?_cons_succ, List.cons_append, List.nil_append, Nat.reduceAdd, Nat.reduceSub, List.replicate, Nat.sub_self, decide_eq_true_eq, Bool.not_eq_true', decide_eq_false_iff_not, decide_true, decide_false, Bool.not_true, Bool.not_false, Bool.false_eq_true, Bool.true_eq_false, if_true, if_false, reduceIte, true_and, and_true, List.isEmpty_nil, List.isEmpty_cons, List.flatten_cons, List.flatten_nil, at_0, at_1, at_2, at_3, at_4, at_5, at_6, at_7, at_m1_1, at_m1_2, at_m1_3, at_m1_4, at_m1_5, at_m1_6, nc_0, nc_1, nc_2, nc_3, nc_4, nc_5, nc_6, nc_7, nc_8, nc_9, nc_10, nc_11, nc_12, len_map, not_true_eq_false, not_false_eq_true, ite_true, ite_false, Int.reduceEq, Int.reduceNe, Int.reduceLT, Int.reduceLE, Nat.reduceEqDiff, Option.some.injEq, true_implies, forall_const, sz_0, sz_1, sz_2, sz_3, sz_4, sz_5, sz_6, sz_7, sz_8, sz_9, sz_10, sz_11, sz_12, sz_13, sz_14, sz_15, sz_16, sz_17, sz_18, sz_19, sz_20, ix_4_1, ix_4_2, ix_4_3, l1])
      have eA : (g.2.filter fun e => decide (e.a ∈ W)).map (fun e => eN e.b) = ((g.2.filter fun e => decide (e.a ∈ W)).map fun e => e.b).map eN := by rw [List.map_map]; rfl
      generalize hA : (g.2.filter fun e => decide (e.a ∈ W)).map (fun e => e.b) = A at eA
      have lenA : A.length ≤ g.2.length := by rw [← hA, List.length_map]; exact List.length_filter_le _ _
      rw [eA]
      refine ⟨sz_big (by have := List.length_filter_le (fun e : Ed => decide (e.a ∈ W)) g.2; omega), fun p2 hp2 => ?_⟩
      have eB : W.map eN ++ A.map eN = (W ++ A).map eN := (List.map_append ..).symm
      rw [eB]
      refine sortset_N' (ns := W ++ A) (by rw [List.length_append]; omega) fun W' p3 pw' mem hp3 => ?_
      have mem' : ∀ v, v ∈ W' ↔ v ∈ W ∨ ∃ e ∈ g.2, e.a ∈ W ∧ e.b = v := fun v => by
        rw [mem, List.mem_append, ← hA, List.mem_map]
        constructor
        · rintro (h | ⟨e, he, h⟩)
          · exact .inl h
          · obtain ⟨h1, h2⟩ := List.mem_filter.mp he
            exact .inr ⟨e, h1, of_decide_eq_true h2, h⟩
        · rintro (h | ⟨e, he, h1, h2⟩)
          · exact .inl h
          · exact .inr ⟨e, List.mem_filter.mpr ⟨he, decide_eq_true h1⟩, h2⟩
      obtain ⟨r1, r2, r3⟩ := led_round pwW hs hl hk pw' mem'
      exact ⟨W', p3, _, _, _, _, _, rfl, (s1.trans (Sub.new hp2)).trans (Sub.new hp3), by rw [updD_same, mapII], pw', r1, r2, r3⟩
  · rintro s h ⟨W, pw, x3, x4, x5, x6, x7, rfl, s1, l1, pwW, hs, hl, hk⟩
    have lenW : W.length ≤ g.1 := nodup_le (pw_nodup pwW) fun v hv => led_lt hw hu (hl v hv)
    have cl := hk.resolve_right (by rw [rgD_len]; omega)
    (try simp only [startD, dSeq, dNext, dIfS, dRet, dRetN, dDrop, dAsg, pName, dOp, dUn, dVar, dC, dCons, dNil, dCB, dTest, dTru, truD, dAnd, dOr, dNot, dIf, dPar, dAug, dI0, dII, dI1, dAbs, dInt, dCall, dIx, dTup, dEqS, eqS, dNeS, dAndV, dOrV, dNotV, dIsi, dLen, lenD, dSl, dCut, dPart, dNoPart, dCL, dlLst, dNew, dLst, dAdd, dMul, dIsN, dNotN, nonD, dSet, dPut, eLen, eTuple, eAll, eAny, eSum, eMax, eMin, dTuple, dTupR1, dYes, dIxL, dlCatVL, dlCatLV, dlCatLL, dlRep, dIterL, dSeqI, dRng1, dRng2, dEnum, pTup, setAll, wipeD, dMt, dMt0, tyM, dAppend, dlRg1, dlRg2, dNewK, dNewT, dRev, dRaise, dDisp1, dZip, dTry, dTryAs, dBreak, dCont,   ty_int, ty_bl, ty_str, ty_non, ty_tup, mem_int, mem_bool, mem_str, mem_tuple, mem_list, isTy_self, isTy_bool_int, isTy_int_bool, isTy_int_tuple, isTy_int_list, isTy_int_str, isTy_bool_tuple, isTy_bool_list, isTy_bool_str, isTy_str_bool, isTy_str_int, isTy_str_tuple, isTy_str_list, isTy_non_tuple, isTy_non_list, isTy_non_str, isTy_non_int, isTy_non_bool, isTy_tup_list, isTy_tup_int, isTy_tup_str, isTy_tup_bool, isTy_list_tup, isTy_list_int, isTy_list_bool, isTy_list_str,   sp1, sp2, sp3, sp4, sp5, sp6, updD_same, updD_updD, List.map_cons, List.map_nil, List.length_cons, List.length_nil, List.set_cons_zero, List.set_cons_succ, List.getElem?_cons_zero, List.getElem?_cons_succ, List.cons_append, List.nil_append, Nat.reduceAdd, Nat.reduceSub, List.replicate, Nat.sub_self, decide_eq_true_eq, Bool.not_eq_true', decide_eq_false_iff_not, decide_true, decide_false, Bool.not_true, Bool.not_false, Bool.false_eq_true, Bool.true_eq_false, if_true, if_false, reduceIte, true_and, and_true, List.isEmpty_nil, List.isEmpty_cons, List.flatten_cons, List.flatten_nil, at_0, at_1, at_2, at_3, at_4, at_5, at_6, at_7, at_m1_1, at_m1_2, at_m1_3, at_m1_4, at_m1_5, at_m1_6, nc_0, nc_1, nc_2, nc_3, nc_4, nc_5, nc_6, nc_7, nc_8, nc_9, nc_10, nc_11, nc_12, len_map, not_true_eq_false, not_false_eq_true, ite_true, ite_false, Int.reduceEq, Int.reduceNe, Int.reduceLT, Int.reduceLE, Nat.reduceEqDiff, Option.some.injEq, true_implies, forall_const, sz_0, sz_1, sz_2, sz_3, sz_4, sz_5, sz_6, sz_7, sz_8, sz_9, sz_10, sz_11, sz_12, sz_13, sz_14, sz_15, sz_16, sz_17, sz_18, sz_19, sz_20, ix_4_1, ix_4_2, ix_4_3, l1])
    exact ⟨b, s1, hq W ⟨pwW, fun v => ⟨hl v, led_in hs cl⟩⟩⟩
theorem h__law_reached (T : Txt K mg C_DelayError C_BadNet) (H__law_fired : Has P w K mg base "_law_fired" 2 ["graph", "marking", "v"] sp__law_fired) (H__law_fed : Has P w K mg base "_law_fed" 2 ["graph", "marking", "v"] sp__law_fed) (H__law_first : Has P w K mg base "_law_first" 2 ["graph"] sp__law_first) : Has P w K mg base "_law_reached" (3) ["graph", "counts"] (sp__law_reached) := by
  refine has_of T.a__law_reached fun f fd F => okD F sc__law_reached len2 fun cdv A outer s H E b ds q xx hr tk hsp => ?_
  have hr__law_fired := hr.mono (show 2 ≤ 2 by decide)
  have hr__law_fed := hr.mono (show 2 ≤ 2 by decide)
  have hr__law_first := hr.mono (show 2 ≤ 2 by decide)
  refine ⟨_, (dss_cons (ds_asg (de_tup (da_cons (de_callH H__law_first hr__law_first (by rfl) tk (da_cons (de_var (pv 0)) da_nil)) (da_cons (de_cb (pe_callTy (call_listU rfl) (by rfl) T.m_list bt_list (da_cons (de_var (pv 1)) da_nil)) refList) da_nil))) (pg_tup (by rfl) (pgs_cons (pg_name (i := 2) sc__law_reached.nd rfl (Or.inr rfl)) (pgs_cons (pg_name (i := 3) sc__law_reached.nd rfl (Or.inr rfl)) pgs_nil))) (refG_tup [2, 3]))
  (dss_cons (ds_while (passes_of rfl) (dt_gt (de_cb (pe_callB (cr_sum rfl) (by rfl) T.m_sum bt_sum (da_cons (de_var (pv 3)) da_nil)) refSum) de_int) (dss_cons (ds_setLcL (i := 4) (hyl := rfl) (hsw := sw_true rfl rfl rfl (by decide +kernel)) (hy := rfl) (own := [("v", 5)]) rfl sc__law_reached.nd (di_rng1 (by rfl) T.m_range (da_cons (de_ix (hu_of hr) (de_var (pv 0)) de_int (fun _ _ => rfl)) da_nil)) (blkOk_by (own := [("v", 5)]) (N := ["graph", "counts", "here", "left", "ready", "v"]) (sc := defScope st__law_reached) (by decide +kernel)) (ownG_name (by decide)) (fun _ _ _ _ _ => pg_name (i := 5) sc__law_reached.nd rfl (Or.inl rfl)) (fun _ _ _ _ _ => dts_one (dt_w (dw_and (dt_gt (de_ix (hu_of hr) (de_var (pv 3)) (de_var (pv 5)) (fun _ _ => rfl)) de_int) (dw_and1 (dt_tru (de_callH H__law_fed hr__law_fed (by rfl) takes_none (da_cons (de_var (pv 0)) (da_cons (de_var (pv 2)) (da_cons (de_var (pv 5)) da_nil))))))))) (fun _ _ _ _ _ => (de_var (pv 5))))
    (dss_cons (ds_if (dt_eq (de_cb (pe_callB call_lenU (by rfl) T.m_len bt_len (da_cons (de_var (pv 4)) da_nil)) refLen) de_int) (dss_one (ds_ret de_non)) dss_nil)
    (dss_cons (ds_set (i := 2) sc__law_reached.nd rfl (Or.inr rfl) (de_callH H__law_fired hr__law_fired (by rfl) tk (da_cons (de_var (pv 0)) (da_cons (de_var (pv 2)) (da_cons (de_ix (hu_of hr) (de_var (pv 4)) de_int (fun _ _ => rfl)) da_nil)))))
    (dss_one (ds_setItem (de_sub (de_ix (hu_of hr) (de_var (pv 3)) (de_ix (hu_of hr) (de_var (pv 4)) de_int (fun _ _ => rfl)) (fun _ _ => rfl)) de_int) (de_var (pv 3)) (de_ix (hu_of hr) (de_var (pv 4)) de_int (fun _ _ => rfl)) (set_u (hu_of hr)) refPut))))))
  (dss_one (ds_ret (de_var (pv 2)))))), ?_⟩
  obtain ⟨d0, d1, rfl, hsp⟩ := inv2 hsp
  obtain ⟨g, pc, c, rfl, rfl, lc, hw, lv, bc, hq⟩ := hsp
  have hn := hw.n
  have hm := hw.m
  unfold cntD at lc
  unfold eG
  (try simp only [startD, dSeq, dNext, dIfS, dRet, dRetN, dDrop, dAsg, pName, dOp, dUn, dVar, dC, dCons, dNil, dCB, dTest, dTru, truD, dAnd, dOr, dNot, dIf, dPar, dAug, dI0, dII, dI1, dAbs, dInt, dCall, dIx, dTup, dEqS, eqS, dNeS, dAndV, dOrV, dNotV, dIsi, dLen, lenD, dSl, dCut, dPart, dNoPart, dCL, dlLst, dNew, dLst, dAdd, dMul, dIsN, dNotN, nonD, dSet, dPut, eLen, eTuple, eAll, eAny, eSum, eMax, eMin, dTuple, dTupR1, dYes, dIxL, dlCatVL, dlCatLV, dlCatLL, dlRep, dIterL, dSeqI, dRng1, dRng2, dEnum, pTup, setAll, wipeD, dMt, dMt0, tyM, dAppend, dlRg1, dlRg2, dNewK, dNewT, dRev, dRaise, dDisp1, dZip, dTry, dTryAs, dBreak, dCont,   ty_int, ty_bl, ty_str, ty_non, ty_tup, mem_int, mem_bool, mem_str, mem_tuple, mem_list, isTy_self, isTy_bool_int, isTy_int_bool, isTy_int_tuple, isTy_int_list, isTy_int_str, isTy_bool_tuple, isTy_bool_list, isTy_bool_str, isTy_str_bool, isTy_str_int, isTy_str_tuple, isTy_str_list, isTy_non_tuple, isTy_non_list, isTy_non_str, isTy_non_int, isTy_non_bool, isTy_tup_list, isTy_tup_int, isTy_tup_str, isTy_tup_bool, isTy_list_tup, isTy_list_int, isTy_list_bool, isTy_list_str,   sp1, sp2, sp3, sp4, sp5, sp6, updD_same, updD_updD, List.map_cons, List.map_nil, List.length_cons, List.length_nil, List.set_cons_zero, List.set_cons_succ, List.getElem?_cons_zero, List.getElem?_cons_succ, List.cons_append, List.nil_append, Nat.reduceAdd, Nat.reduceSub, List.replicate, Nat.sub_self, decide_eq_true_eq, Bool.not_eq_true', decide_eq_false_iff_not, decide_true, decide_false, Bool.not_true, Bool.not_false, Bool.false_eq_true, Bool.true_eq_false, if_true, if_false, reduceIte, true_and, and_true, List.isEmpty_nil, List.isEmpty_cons, List.flatten_cons, List.flatten_nil, at_0, at_1, at_2, at_3, at_4, at_5, at_6, at_7, at_m1_1, at_m1_2, at_m1_3, at_m1_4, at_m1_5, at_m1_6, nc_0, nc_1, nc_2, nc_3, nc_4, nc_5, nc_6, nc_7, nc_8, nc_9, nc_10, nc_11, nc_12, len_map, not_true_eq_false, not_false_eq_true, ite_true, ite_false, Int.reduceEq, Int.reduceNe, Int.reduceLT, Int.reduceLE, Nat.reduceEqDiff, Option.some.injEq, true_implies, forall_const, sz_0, sz_1, sz_2, sz_3, sz_4, sz_5, sz_6, sz_7, sz_8, sz_9, sz_10, sz_11, sz_12, sz_13, sz_14, sz_15, sz_16, sz_17, sz_18, sz_19, sz_20, ix_4_1, ix_4_2, ix_4_3, lc])
  refine ⟨g, rfl, hw, ?_⟩
  unfold dList
  (try simp only [startD, dSeq, dNext, dIfS, dRet, dRetN, dDrop, dAsg, pName, dOp, dUn, dVar, dC, dCons, dNil, dCB, dTest, dTru, truD, dAnd, dOr, dNot, dIf, dPar, dAug, dI0, dII, dI1, dAbs, dInt, dCall, dIx, dTup, dEqS, eqS, dNeS, dAndV, dOrV, dNotV, dIsi, dLen, lenD, dSl, dCut, dPart, dNoPart, dCL, dlLst, dNew, dLst, dAdd, dMul, dIsN, dNotN, nonD, dSet, dPut, eLen, eTuple, eAll, eAny, eSum, eMax, eMin, dTuple, dTupR1, dYes, dIxL, dlCatVL, dlCatLV, dlCatLL, dlRep, dIterL, dSeqI, dRng1, dRng2, dEnum, pTup, setAll, wipeD, dMt, dMt0, tyM, dAppend, dlRg1, dlRg2, dNewK, dNewT, dRev, dRaise, dDisp1, dZip, dTry, dTryAs, dBreak, dCont,   ty_int, ty_bl, ty_str, ty_non, ty_tup, mem_int, mem_bool, mem_str, mem_tuple, mem_list, isTy_self, isTy_bool_int, isTy_int_bool, isTy_int_tuple, isTy_int_list, isTy_int_str, isTy_bool_tuple, isTy_bool_list, isTy_bool_str, isTy_str_bool, isTy_str_int, isTy_str_tuple, isTy_str_list, isTy_non_tuple, isTy_non_list, isTy_non_str, isTy_non_int, isTy_non_bool, isTy_tup_list, isTy_tup_int, isTy_tup_str, isTy_tup_bool, isTy_list_tup, isTy_list_int, isTy_list_bool, isTy_list_str,   sp1, sp2, sp3, sp4, sp5, sp6, updD_same, updD_updD, List.map_cons, List.map_nil, List.length_cons, List.length_nil, List.set_cons_zero, List.set_cons_succ, List.getElem?_cons_zero, List.getElem?_cons_succ, List.cons_append, List.nil_append, Nat.reduceAdd, Nat.reduceSub, List.replicate, Nat.sub_self, decide_eq_true_eq, Bool.not_eq_true', decide_eq_false_iff_not, decide_true, decide_false, Bool.not_true, Bool.not_false, Bool.false_eq_true, Bool.true_eq_false, if_true, if_false, reduceIte, true_and, and_true, List.isEmpty_nil, List.isEmpty_cons, List.flatten_cons, List.flatten_nil, at_0, at_1, at_2, at_3, at_4, at_5, at_6, at_7, at_m1_1, at_m1_2, at_m1_3, at_m1_4, at_m1_5, at_m1_6, nc_0, nc_1, nc_2, nc_3, nc_4, nc_5, nc_6, nc_7, nc_8, nc_9, nc_10, nc_11, nc_12, len_map, not_true_eq_false, not_false_eq_true, ite_true, ite_false, Int.reduceEq, Int.reduceNe, Int.reduceLT, Int.reduceLE, Nat.reduceEqDiff, Option.some.injEq, true_implies, forall_const, sz_0, sz_1, sz_2, sz_3, sz_4, sz_5, sz_6, sz_7, sz_8, sz_9, sz_10, sz_11, sz_12, sz_13, sz_14, sz_15, sz_16, sz_17, sz_18, sz_19, sz_20, ix_4_1, ix_4_2, ix_4_3, lc])
  intro pl hpl
  refine whileP (fun m s h => ∃ (f : Nat → Nat) (x4 x5 : Option D), s = [some (.tup [.int (g.1 : Nat), .tup (g.2.map eE)]), some (.loc pc), some (eM g f), some (.loc pl), x4, x5] ∧ DL.Sub b h ∧ h pl = some (.lst ((List.range g.1).map fun v => eN (c v - f v))) ∧ (∀ v, v < g.1 → f v ≤ c v) ∧ Bal0 g f ∧ m = ((List.range g.1).map fun v => c v - f v).sum) _
    ⟨fun _ => 0, none, none, rfl, Sub.new hpl, by rw [updD_same]; rfl, (fun _ _ => Nat.zero_le _), (fun _ _ => Nat.zero_le _), rfl⟩ ?_
  rintro m s h ⟨f, x4, x5, rfl, s1, l1, hf, bf, rfl⟩
  generalize hS : ((List.range g.1).map fun v => c v - f v).sum = S
  refine ⟨decide (0 < S), fun q hq => ?_, fun hk => ?_, fun hk => ?_⟩
  · walk_at "d"
    refine ⟨(List.range g.1).map fun v => ((c v - f v : Nat) : Int), by rw [l1, List.map_map]; rfl, ?_⟩
    rw [sum_N (fun v => c v - f v), hS]
    have e : decide (0 < S) = decide ((0 : Int) < (S : Int)) := by simp
    rw [e] at hq; exact hq
  · have hk := of_decide_eq_true hk
    have some1 : ∃ v, v < g.1 ∧ f v < c v := Classical.byContradiction fun no => by
      have : ∀ v ∈ List.range g.1, (c v - f v) = 0 := fun v hv => Classical.byContradiction fun z => no ⟨v, List.mem_range.mp hv, by omega⟩
      have e0 : ((List.range g.1).map fun v => c v - f v).sum = 0 := by
        have e1 : ((List.range g.1).map fun v => c v - f v) = (List.range g.1).map fun _ => 0 := List.map_congr_left this
        rw [e1]
        generalize List.range g.1 = l
        induction l with
        | nil => rfl
        | cons a r ih => rw [List.map_cons, List.sum_cons, ih]
      omega
    obtain ⟨u0, hu0, hu1, hu2⟩ := ready_one hw lv bf bc some1
    walk_at "d"
    refine lcE (List.range g.1) eN (G := fun _ => True) (fun v => decide (f v < c v ∧ Fed g f v)) eN (fun r hr => by walk_at "d"; rw [rg0]; exact ⟨by omega, by omega, hr⟩) trivial (accMax_big (by rw [List.length_range]; omega)) (fun v hv Y Z hY hZ => ?_) ?_
    · have hv := List.mem_range.mp hv
      have g1 := at_range (m := g.1) (fun v => eN (c v - f v)) hv
      simp only [show eN v = D.int ((v : Nat) : Int) from rfl, show eN (c v - f v) = D.int ((c v - f v : Nat) : Int) from rfl] at g1 ⊢
      (try simp only [startD, dSeq, dNext, dIfS, dRet, dRetN, dDrop, dAsg, pName, dOp, dUn, dVar, dC, dCons, dNil, dCB, dTest, dTru, truD, dAnd, dOr, dNot, dIf, dPar, dAug, dI0, dII, dI1, dAbs, dInt, dCall, dIx, dTup, dEqS, eqS, dNeS, dAndV, dOrV, dNotV, dIsi, dLen, lenD, dSl, dCut, dPart, dNoPart, dCL, dlLst, dNew, dLst, dAdd, dMul, dIsN, dNotN, nonD, dSet, dPut, eLen, eTuple, eAll, eAny, eSum, eMax, eMin, dTuple, dTupR1, dYes, dIxL, dlCatVL, dlCatLV, dlCatLL, dlRep, dIterL, dSeqI, dRng1, dRng2, dEnum, pTup, setAll, wipeD, dMt, dMt0, tyM, dAppend, dlRg1, dlRg2, dNewK, dNewT, dRev, dRaise, dDisp1, dZip, dTry, dTryAs, dBreak, dCont,   ty_int, ty_bl, ty_str, ty_non, ty_tup, mem_int, mem_bool, mem_str, mem_tuple, mem_list, isTy_self, isTy_bool_int, isTy_int_bool, isTy_int_tuple, isTy_int_list, isTy_int_str, isTy_bool_tuple, isTy_bool_list, isTy_bool_str, isTy_str_bool, isTy_str_int, isTy_str_tuple, isTy_str_list, isTy_non_tuple, isTy_non_list, isTy_non_str, isTy_non_int, isTy_non_bool, isTy_tup_list, isTy_tup_int, isTy_tup_str, isTy_tup_bool, isTy_list_tup, isTy_list_int, isTy_list_bool, isTy_list_str,   sp1, sp2, sp3, sp4, sp5, sp6, updD_same, updD_updD, List.map_cons, List.map_nil, List.length_cons, List.length_nil, List.set_cons_zero, List.set_cons_succ, List.getElem?_cons_zero, List.getElem?_cons_succ, List.cons_append, List.nil_append, Nat.reduceAdd, Nat.reduceSub, List.replicate, Nat.sub_self, decide_eq_true_eq, Bool.not_eq_true', decide_eq_false_iff_not, decide_true, decide_false, Bool.not_true, Bool.not_false, Bool.false_eq_true, Bool.true_eq_false, if_true, if_false, reduceIte, true_and, and_true, List.isEmpty_nil, List.isEmpty_cons, List.flatten_cons, List.flatten_nil, at_0, at_1, at_2, at_3, at_4, at_5, at_6, at_7, at_m1_1, at_m1_2, at_m1_3, at_m1_4, at_m1_5, at_m1_6, nc_0, nc_1, nc_2, nc_3, nc_4, nc_5, nc_6, nc_7, nc_8, nc_9, nc_10, nc_11, nc_12, len_map, not_true_eq_false, not_false_eq_true, ite_true, ite_false, Int.reduceEq, Int.reduceNe, Int.reduceLT, Int.reduceLE, Nat.reduceEqDiff, Option.some.injEq, true_implies, forall_const, sz_0, sz_1, sz_2, sz_3, sz_4, sz_5, sz_6, sz_7, sz_8, sz_9, sz_10, sz_11, sz_12, sz_13, sz_14, sz_15, sz_16, sz_17, sz_18, sz_19, sz_20, ix_4_1, ix_4_2, ix_4_3, l1, g1])
      by_cases c1 : f v < c v
      · rw [if_pos (by omega)]
        refine ⟨g, f, v, rfl, rfl, rfl, hw, fun k hk => ?_⟩
        cases k with
        | true => walk_at "d"; exact hY (decide_eq_true ⟨c1, hk.mp rfl⟩)
        | false => walk_at "d"; exact hZ (decide_eq_false fun z => nomatch hk.mpr z.2)
      · rw [if_neg (by omega)]
        exact hZ (decide_eq_false fun z => c1 z.1)
    · intro pr hpr
      generalize hR : (List.range g.1).filter (fun v => decide (f v < c v ∧ Fed g f v)) = R
      have memR : ∀ v, v ∈ R ↔ v < g.1 ∧ f v < c v ∧ Fed g f v := fun v => by rw [← hR, List.mem_filter, List.mem_range, decide_eq_true_eq]
      cases R with
      | nil => exact absurd ((memR u0).mpr ⟨hu0, hu1, hu2⟩) (by simp)
      | cons v R =>
        obtain ⟨hv, hfc, fed⟩ := (memR v).mp List.mem_cons_self
        have npr : pl ≠ pr := fun z => by rw [← z, l1] at hpr; cases hpr
        have l2 : updD h pr (.lst (D.int (v : Nat) :: R.map eN)) pl = some (.lst ((List.range g.1).map fun v => eN (c v - f v))) := by rw [updD_ne npr, l1]
        have g1 := at_range (m := g.1) (fun v => eN (c v - f v)) hv
        have ix : ixN g.1 ((v : Nat) : Int) = some v := ixN_nat hv
        rw [show eN (c v - f v) = D.int ((c v - f v : Nat) : Int) from rfl] at g1
        walk_at "d"
        rw [if_neg (by omega)]
        refine ⟨g, f, v, rfl, rfl, rfl, hw, bf, fed, ?_⟩
        simp only [show eN v = D.int ((v : Nat) : Int) from rfl]
        (try simp only [startD, dSeq, dNext, dIfS, dRet, dRetN, dDrop, dAsg, pName, dOp, dUn, dVar, dC, dCons, dNil, dCB, dTest, dTru, truD, dAnd, dOr, dNot, dIf, dPar, dAug, dI0, dII, dI1, dAbs, dInt, dCall, dIx, dTup, dEqS, eqS, dNeS, dAndV, dOrV, dNotV, dIsi, dLen, lenD, dSl, dCut, dPart, dNoPart, dCL, dlLst, dNew, dLst, dAdd, dMul, dIsN, dNotN, nonD, dSet, dPut, eLen, eTuple, eAll, eAny, eSum, eMax, eMin, dTuple, dTupR1, dYes, dIxL, dlCatVL, dlCatLV, dlCatLL, dlRep, dIterL, dSeqI, dRng1, dRng2, dEnum, pTup, setAll, wipeD, dMt, dMt0, tyM, dAppend, dlRg1, dlRg2, dNewK, dNewT, dRev, dRaise, dDisp1, dZip, dTry, dTryAs, dBreak, dCont,   ty_int, ty_bl, ty_str, ty_non, ty_tup, mem_int, mem_bool, mem_str, mem_tuple, mem_list, isTy_self, isTy_bool_int, isTy_int_bool, isTy_int_tuple, isTy_int_list, isTy_int_str, isTy_bool_tuple, isTy_bool_list, isTy_bool_str, isTy_str_bool, isTy_str_int, isTy_str_tuple, isTy_str_list, isTy_non_tuple, isTy_non_list, isTy_non_str, isTy_non_int, isTy_non_bool, isTy_tup_list, isTy_tup_int, isTy_tup_str, isTy_tup_bool, isTy_list_tup, isTy_list_int, isTy_list_bool, isTy_list_str,   sp1, sp2, sp3, sp4, sp5, sp6, updD_same, updD_updD, List.map_cons, List.map_nil, List.length_cons, List.length_nil, List.set_cons_zero, List.set_cons_succ, List.getElem?_cons_zero, List.getElem?_cons_succ, List.cons_append, List.nil_append, Nat.reduceAdd, Nat.reduceSub, List.replicate, Nat.sub_self, decide_eq_true_eq, Bool.not_eq_true', decide_eq_false_iff_not, decide_true, decide_false, Bool.not_true, Bool.not_false, Bool.false_eq_true, Bool.true_eq_false, if_true, if_false, reduceIte, true_and, and_true, List.isEmpty_nil, List.isEmpty_cons, List.flatten_cons, List.flatten_nil, at_0, at_1, at_2, at_3, at_4, at_5, at_6, at_7, at_m1_1, at_m1_2, at_m1_3, at_m1_4, at_m1_5, at_m1_6, nc_0, nc_1, nc_2, nc_3, nc_4, nc_5, nc_6, nc_7, nc_8, nc_9, nc_10, nc_11, nc_12, len_map, not_true_eq_false, not_false_eq_true, ite_true, ite_false, Int.reduceEq, Int.reduceNe, Int.reduceLT, Int.reduceLE, Nat.reduceEqDiff, Option.some.injEq, true_implies, forall_const, sz_0, sz_1, sz_2, sz_3, sz_4, sz_5, sz_6, sz_7, sz_8, sz_9, sz_10, sz_11, sz_12, sz_13, sz_14, sz_15, sz_16, sz_17, sz_18, sz_19, sz_20, ix_4_1, ix_4_2, ix_4_3, l2, g1, ix, List.length_range, set_range])
        refine ⟨_, ?_, inc f v, _, _, rfl, (s1.trans (Sub.new hpr)).mut hpl, ?_, fun u hu => ?_, bal0_inc bf fed, rfl⟩
        · rw [← hS]
          refine sum_lt (fun u _ => ?_) ⟨v, List.mem_range.mpr hv, ?_⟩
          · unfold inc; split
            · rename_i e; subst e; omega
            · exact Nat.le_refl _
          · unfold inc; rw [if_pos rfl]; omega
        · congr 1
          apply List.map_congr_left
          intro u _
          unfold inc
          by_cases e : u = v
          · subst e
            rw [if_pos rfl, if_pos rfl]
            unfold eN
            congr 1
            omega
          · rw [if_neg e, if_neg e]
        · unfold inc; split
          · rename_i e; subst e; omega
          · exact hf u hu
  · have hk : S = 0 := by have := of_decide_eq_false hk; omega
    subst hk
    walk_at "d"
    refine ⟨b, s1, ?_⟩
    have e : eM g f = eM g c := by
      unfold eM
      congr 1
      apply List.map_congr_left
      intro e he
      have ho := hw.es e he
      have z := sum_zero_all hS
      have za := z e.a (List.mem_range.mpr ho.a)
      have zb := z e.b (List.mem_range.mpr ho.b)
      have ha := hf _ ho.a
      have hb := hf _ ho.b
      unfold mk
      rw [show f e.a = c e.a by omega, show f e.b = c e.b by omega]
    rw [e]
    exact hq
end
end K

set_option Elab.async false
set_option linter.all false
set_option maxRecDepth 100000
set_option maxHeartbeats 4000000
set_option pp.maxSteps 700
namespace K
open PySem PySem.Spec PyProof.Rows L2 DL
local macro_rules | `(tactic| walk_at "w") => `(tactic| try simp only [↓eSeq_nx, ↓eSeq_rt, ↓eSeq_bk, ↓eSeq_ct, ↓wz_seq, ↓wz_next, ↓wz_break, ↓wz_cont, ↓wz_drop, ↓wz_kDrop, ↓wz_ret, ↓wz_retN, ↓wz_ifS, ↓wz_kIfT, ↓wz_kIfF, ↓wz_asg, ↓wz_kAsg, ↓wz_kAsg2, ↓wz_pName, ↓wz_pTup, ↓wz_par, ↓wz_kPar, ↓wz_aug, ↓wz_kAug, ↓wz_kAug2, ↓wz_kAug3, ↓wz_set, ↓wz_kSet1, ↓wz_kSet2, ↓wz_kSet3, ↓wz_kSet4, ↓wz_raise, ↓wz_try, ↓eOut_nx, ↓eOut_rt, ↓wz_tryAs, ↓wz_var, ↓wz_kVar, ↓wz_c, ↓wz_op, ↓wz_kOp1, ↓wz_kOp2, ↓wz_un, ↓wz_kUn, ↓wz_nil, ↓wz_cons, ↓wz_kCons1, ↓wz_kCons2, ↓wz_cb, ↓wz_kCB, ↓wz_call, ↓wz_kCall, ↓wz_kW, ↓wz_tru, ↓wz_kTruNon, ↓wz_kTruBl, ↓wz_kTruInt, ↓wz_kTruTup, ↓wz_kTruL, ↓wz_truL, ↓wz_truK, ↓wz_and, ↓wz_kAndT, ↓wz_kAndF, ↓wz_or, ↓wz_kOrT, ↓wz_kOrF, ↓wz_not, ↓wz_kNot, ↓wz_if, ↓wz_kIfVT, ↓wz_kIfVF, ↓wz_andV, ↓wz_kAndVT, ↓wz_kAndVF, ↓wz_orV, ↓wz_kOrVT, ↓wz_kOrVF, ↓wz_notV, ↓wz_kNotV, ↓wz_test, ↓wz_kTest, ↓wz_yes, ↓wz_II, ↓wz_I0, ↓wz_I1, ↓wz_addI, ↓wz_addS, ↓wz_addT, ↓wz_addL, ↓wz_mulI, ↓wz_mulL, ↓wz_eqS, ↓wz_neS, ↓wz_kEq, ↓wz_kNe, ↓wz_eq_ii, ↓wz_eq_ss, ↓wz_eq_bb, ↓wz_eq_nn, ↓wz_eq_ni, ↓wz_eq_in, ↓wz_eq_nb, ↓wz_eq_bn, ↓wz_eq_ns, ↓wz_eq_sn, ↓wz_eq_is, ↓wz_eq_si, ↓wz_eq_bs, ↓wz_eq_sb, ↓wz_isN, ↓wz_notN, ↓wz_non_n, ↓wz_non_b, ↓wz_non_i, ↓wz_non_s, ↓wz_non_t, ↓wz_non_l, ↓wz_kAtD, ↓wz_ixT, ↓wz_ixL, ↓wz_put, ↓wz_noPart, ↓wz_part, ↓wz_kPart, ↓wz_sl, ↓wz_kSl1, ↓wz_kSl2, ↓wz_kSl3, ↓wz_cutT, ↓wz_cutS, ↓wz_cutL, ↓wz_rev, ↓wz_kRev, ↓wz_tup, ↓wz_kTup, ↓wz_newK, ↓wz_newT, ↓wz_len, ↓wz_kLen, ↓wz_lenT, ↓wz_lenL, ↓wz_abs, ↓wz_intI, ↓wz_intB, ↓wz_ty_n, ↓wz_ty_b, ↓wz_ty_i, ↓wz_ty_s, ↓wz_ty_t, ↓wz_ty_l, ↓wz_isi, ↓wz_kIsi, ↓wz_listT, ↓wz_listV, ↓wz_listL, ↓wz_tupT, ↓wz_tupL, ↓wz_all, ↓wz_any, ↓wz_sum, ↓wz_maxL, ↓wz_minL, ↓wz_maxI, ↓wz_minI, ↓wz_tyM, ↓wz_tyMS, ↓wz_mt, ↓wz_mt0, ↓wz_kMt, ↓wz_kMt0, ↓wz_kMt2, ↓wz_app, ↓wz_ext, ↓wz_pop, ↓wz_seqI, ↓wz_kSeqT, ↓wz_kSeqL, ↓wz_seqO, ↓wz_rng1, ↓wz_kRng1, ↓wz_rng2, ↓wz_kRng2, ↓wz_enum, ↓wz_kEnumT, ↓wz_kEnumL, ↓wz_enumO, ↓wz_iterL, ↓wz_kIterL, ↓wz_zip, ↓wz_kZip, ↓wz_new, ↓wz_kNew, ↓wz_lst, ↓wz_kLst, ↓wz_lrg1, ↓wz_kLRg1, ↓wz_tupR1, ↓wz_kTupR1, ↓wz_catVL, ↓wz_kCatVL, ↓wz_kCatVL2, ↓wz_catLV, ↓wz_kCatLV, ↓wz_kCatLV2, ↓wz_catLL, ↓wz_kCatLL, ↓wz_kCatLL2, ↓wz_lstOf, ↓wz_rep, ↓wz_kRep, ↓wz_kRep2, ↓wz_cl, ↓wz_kCL, ↓wz_eLen, ↓wz_eTuple, ↓wz_eAll, ↓wz_eAny, ↓wz_eSum, ↓wz_eMax, ↓wz_eMin, ↓wz_ixNew, ↓wz_kIxL, ↓wz_kIxL2, ↓wz_disp1, ↓wz_kDisp1, ↓wz_kDisp2, ↓wz_sortSet, ↓reduceIte, setAll, wipeD, zAddO, zMulO, kKeyK, kKeyT, zIxO, keyD, keysD, zPutAt, zPutK, zPutT, zPutO, zCutO, zRevO, zLenO, zTyO, zListO, zTupO, zTyMO, zAppO, zExtO, zPopO, kPop, zLstO, zCatO, zCatO2, nat_lt, nat_le, nat_neg, nat_pos, startD, sp1, sp2, sp3, sp4, sp5, sp6, Bool.true_and, Bool.and_true, Bool.false_and, Bool.and_false, Bool.true_or, Bool.or_true, Bool.false_or, Bool.or_false, Bool.not_not, decide_not, nat_inj, nat_zero, Nat.lt_irrefl, Nat.le_refl, ty_int, ty_bl, ty_str, ty_non, ty_tup, mem_int, mem_bool, mem_str, mem_tuple, mem_list, isTy_self, isTy_bool_int, isTy_int_bool, isTy_int_tuple, isTy_int_list, isTy_int_str, isTy_bool_tuple, isTy_bool_list, isTy_bool_str, isTy_str_bool, isTy_str_int, isTy_str_tuple, isTy_str_list, isTy_non_tuple, isTy_non_list, isTy_non_str, isTy_non_int, isTy_non_bool, isTy_tup_list, isTy_tup_int, isTy_tup_str, isTy_tup_bool, isTy_list_tup, isTy_list_int, isTy_list_bool, isTy_list_str, sp1, sp2, sp3, sp4, sp5, sp6, updD_same, updD_updD, List.map_cons, List.map_nil, List.length_cons, List.length_nil, List.set_cons_zero, List.set_cons_succ, List.getElem?_cons_zero, List.getElem?_cons_succ, List.cons_append, List.nil_append, Nat.reduceAdd, Nat.reduceSub, List.replicate, Nat.sub_self, decide_eq_true_eq, Bool.not_eq_true', decide_eq_false_iff_not, decide_true, decide_false, Bool.not_true, Bool.not_false, Bool.false_eq_true, Bool.true_eq_false, if_true, if_false, true_and, and_true, List.isEmpty_nil, List.isEmpty_cons, List.flatten_cons, List.flatten_nil, at_0, at_1, at_2, at_3, at_4, at_5, at_6, at_7, at_m1_1, at_m1_2, at_m1_3, at_m1_4, at_m1_5, at_m1_6, nc_0, nc_1, nc_2, nc_3, nc_4, nc_5, nc_6, nc_7, nc_8, nc_9, nc_10, nc_11, nc_12, len_map, not_true_eq_false, not_false_eq_true, ite_true, ite_false, Int.reduceEq, Int.reduceNe, Int.reduceLT, Int.reduceLE, Nat.reduceEqDiff, Option.some.injEq, true_implies, forall_const, sz_0, sz_1, sz_2, sz_3, sz_4, sz_5, sz_6, sz_7, sz_8, sz_9, sz_10, sz_11, sz_12, sz_13, sz_14, sz_15, sz_16, sz_17, sz_18, sz_19, sz_20, int_whole, ix_4_1, ix_4_2, ix_4_3])
local macro_rules | `(tactic| simp! only [$xs,*]) => `(tactic| try simp only [↓eSeq_nx, ↓eSeq_rt, ↓eSeq_bk, ↓eSeq_ct, ↓wz_seq, ↓wz_next, ↓wz_break, ↓wz_cont, ↓wz_drop, ↓wz_kDrop, ↓wz_ret, ↓wz_retN, ↓wz_ifS, ↓wz_kIfT, ↓wz_kIfF, ↓wz_asg, ↓wz_kAsg, ↓wz_kAsg2, ↓wz_pName, ↓wz_pTup, ↓wz_par, ↓wz_kPar, ↓wz_aug, ↓wz_kAug, ↓wz_kAug2, ↓wz_kAug3, ↓wz_set, ↓wz_kSet1, ↓wz_kSet2, ↓wz_kSet3, ↓wz_kSet4, ↓wz_raise, ↓wz_try, ↓eOut_nx, ↓eOut_rt, ↓wz_tryAs, ↓wz_var, ↓wz_kVar, ↓wz_c, ↓wz_op, ↓wz_kOp1, ↓wz_kOp2, ↓wz_un, ↓wz_kUn, ↓wz_nil, ↓wz_cons, ↓wz_kCons1, ↓wz_kCons2, ↓wz_cb, ↓wz_kCB, ↓wz_call, ↓wz_kCall, ↓wz_kW, ↓wz_tru, ↓wz_kTruNon, ↓wz_kTruBl, ↓wz_kTruInt, ↓wz_kTruTup, ↓wz_kTruL, ↓wz_truL, ↓wz_truK, ↓wz_and, ↓wz_kAndT, ↓wz_kAndF, ↓wz_or, ↓wz_kOrT, ↓wz_kOrF, ↓wz_not, ↓wz_kNot, ↓wz_if, ↓wz_kIfVT, ↓wz_kIfVF, ↓wz_andV, ↓wz_kAndVT, ↓wz_kAndVF, ↓wz_orV, ↓wz_kOrVT, ↓wz_kOrVF, ↓wz_notV, ↓wz_kNotV, ↓wz_test, ↓wz_kTest, ↓wz_yes, ↓wz_II, ↓wz_I0, ↓wz_I1, ↓wz_addI, ↓wz_addS, ↓wz_addT, ↓wz_addL, ↓wz_mulI, ↓wz_mulL, ↓wz_eqS, ↓wz_neS, ↓wz_kEq, ↓wz_kNe, ↓wz_eq_ii, ↓wz_eq_ss, ↓wz_eq_bb, ↓wz_eq_nn, ↓wz_eq_ni, ↓wz_eq_in, ↓wz_eq_nb, ↓wz_eq_bn, ↓wz_eq_ns, ↓wz_eq_sn, ↓wz_eq_is, ↓wz_eq_si, ↓wz_eq_bs, ↓wz_eq_sb, ↓wz_isN, ↓wz_notN, ↓wz_non_n, ↓wz_non_b, ↓wz_non_i, ↓wz_non_s, ↓wz_non_t, ↓wz_non_l, ↓wz_kAtD, ↓wz_ixT, ↓wz_ixL, ↓wz_put, ↓wz_noPart, ↓wz_part, ↓wz_kPart, ↓wz_sl, ↓wz_kSl1, ↓wz_kSl2, ↓wz_kSl3, ↓wz_cutT, ↓wz_cutS, ↓wz_cutL, ↓wz_rev, ↓wz_kRev, ↓wz_tup, ↓wz_kTup, ↓wz_newK, ↓wz_newT, ↓wz_len, ↓wz_kLen, ↓wz_lenT, ↓wz_lenL, ↓wz_abs, ↓wz_intI, ↓wz_intB, ↓wz_ty_n, ↓wz_ty_b, ↓wz_ty_i, ↓wz_ty_s, ↓wz_ty_t, ↓wz_ty_l, ↓wz_isi, ↓wz_kIsi, ↓wz_listT, ↓wz_listV, ↓wz_listL, ↓wz_tupT, ↓wz_tupL, ↓wz_all, ↓wz_any, ↓wz_sum, ↓wz_maxL, ↓wz_minL, ↓wz_maxI, ↓wz_minI, ↓wz_tyM, ↓wz_tyMS, ↓wz_mt, ↓wz_mt0, ↓wz_kMt, ↓wz_kMt0, ↓wz_kMt2, ↓wz_app, ↓wz_ext, ↓wz_pop, ↓wz_seqI, ↓wz_kSeqT, ↓wz_kSeqL, ↓wz_seqO, ↓wz_rng1, ↓wz_kRng1, ↓wz_rng2, ↓wz_kRng2, ↓wz_enum, ↓wz_kEnumT, ↓wz_kEnumL, ↓wz_enumO, ↓wz_iterL, ↓wz_kIterL, ↓wz_zip, ↓wz_kZip, ↓wz_new, ↓wz_kNew, ↓wz_lst, ↓wz_kLst, ↓wz_lrg1, ↓wz_kLRg1, ↓wz_tupR1, ↓wz_kTupR1, ↓wz_catVL, ↓wz_kCatVL, ↓wz_kCatVL2, ↓wz_catLV, ↓wz_kCatLV, ↓wz_kCatLV2, ↓wz_catLL, ↓wz_kCatLL, ↓wz_kCatLL2, ↓wz_lstOf, ↓wz_rep, ↓wz_kRep, ↓wz_kRep2, ↓wz_cl, ↓wz_kCL, ↓wz_eLen, ↓wz_eTuple, ↓wz_eAll, ↓wz_eAny, ↓wz_eSum, ↓wz_eMax, ↓wz_eMin, ↓wz_ixNew, ↓wz_kIxL, ↓wz_kIxL2, ↓wz_disp1, ↓wz_kDisp1, ↓wz_kDisp2, ↓wz_sortSet, ↓reduceIte, setAll, wipeD, zAddO, zMulO, kKeyK, kKeyT, zIxO, keyD, keysD, zPutAt, zPutK, zPutT, zPutO, zCutO, zRevO, zLenO, zTyO, zListO, zTupO, zTyMO, zAppO, zExtO, zPopO, kPop, zLstO, zCatO, zCatO2, nat_lt, nat_le, nat_neg, nat_pos, startD, sp1, sp2, sp3, sp4, sp5, sp6, Bool.true_and, Bool.and_true, Bool.false_and, Bool.and_false, Bool.true_or, Bool.or_true, Bool.false_or, Bool.or_false, Bool.not_not, decide_not, nat_inj, nat_zero, Nat.lt_irrefl, Nat.le_refl, ty_int, ty_bl, ty_str, ty_non, ty_tup, mem_int, mem_bool, mem_str, mem_tuple, mem_list, isTy_self, isTy_bool_int, isTy_int_bool, isTy_int_tuple, isTy_int_list, isTy_int_str, isTy_bool_tuple, isTy_bool_list, isTy_bool_str, isTy_str_bool, isTy_str_int, isTy_str_tuple, isTy_str_list, isTy_non_tuple, isTy_non_list, isTy_non_str, isTy_non_int, isTy_non_bool, isTy_tup_list, isTy_tup_int, isTy_tup_str, isTy_tup_bool, isTy_list_tup, isTy_list_int, isTy_list_bool, isTy_list_str, sp1, sp2, sp3, sp4, sp5, sp6, updD_same, updD_updD, List.map_cons, List.map_nil, List.length_cons, List.length_nil, List.set_cons_zero, List.set_cons_succ, List.getElem?_cons_zero, List.getElem?_cons_succ, List.cons_append, List.nil_append, Nat.reduceAdd, Nat.reduceSub, List.replicate, Nat.sub_self, decide_eq_true_eq, Bool.not_eq_true', decide_eq_false_iff_not, decide_true, decide_false, Bool.not_true, Bool.not_false, Bool.false_eq_true, Bool.true_eq_false, if_true, if_false, true_and, and_true, List.isEmpty_nil, List.isEmpty_cons, List.flatten_cons, List.flatten_nil, at_0, at_1, at_2, at_3, at_4, at_5, at_6, at_7, at_m1_1, at_m1_2, at_m1_3, at_m1_4, at_m1_5, at_m1_6, nc_0, nc_1, nc_2, nc_3, nc_4, nc_5, nc_6, nc_7, nc_8, nc_9, nc_10, nc_11, nc_12, len_map, not_true_eq_false, not_false_eq_true, ite_true, ite_false, Int.reduceEq, Int.reduceNe, Int.reduceLT, Int.reduceLE, Nat.reduceEqDiff, Option.some.injEq, true_implies, forall_const, sz_0, sz_1, sz_2, sz_3, sz_4, sz_5, sz_6, sz_7, sz_8, sz_9, sz_10, sz_11, sz_12, sz_13, sz_14, sz_15, sz_16, sz_17, sz_18, sz_19, sz_20, int_whole, ix_4_1, ix_4_2, ix_4_3, $xs,*])
/-! ### bounds -/
def eB (c : Nat) (w : List Nat) : D := .tup [.int (c : Nat), .tup (w.map eN)]
theorem eB_eq (c : Nat) (w : List Nat) : eB c w = .tup [.int (c : Nat), .tup (w.map eN)] := rfl
theorem eB_upd {c : Nat → Nat} {w : Nat → List Nat} {u x : Nat} {y : List Nat} : updF (fun v => eB (c v) (w v)) u (eB x y) = fun v => eB (updF c u x v) (updF w u y v) := by
  funext v
  unfold updF
  split <;> rfl
def mu (g : Gr) (ns : List Nat) (c : Nat → Nat) : Nat := ((List.range g.1).map fun v => if v ∈ ns then c v else 7 * (g.1 + 1)).sum
/-- what is known of the nodes that have been come to from the end of an edge -/
structure BI (g : Gr) (e0 : Nat) (ns : List Nat) (c : Nat → Nat) (w : Nat → List Nat) (M : Nat) : Prop where
  nd : ns.Nodup
  st : (gE g e0).b ∈ ns
  st0 : c (gE g e0).b = 0
  led : ∀ v ∈ ns, Led g (gE g e0).b v
  way : ∀ v ∈ ns, WayL g (e0 :: w v) ∧ (gE g (lastN (e0 :: w v))).b = v ∧ tok g (w v) = c v
  bd : ∀ v ∈ ns, c v ≤ 7 * ns.length
  len : ∀ v ∈ ns, (w v).length + mu g ns c ≤ M
theorem lastN_snoc {ks : List Nat} {k : Nat} : lastN (ks ++ [k]) = k := by
  unfold lastN
  rw [List.length_append, List.getD_eq_getElem?_getD]
  simp
theorem WayL.snoc {g : Gr} {ks : List Nat} {k : Nat} (w : WayL g ks) (hk : k < g.2.length) (hn : (gE g (lastN ks)).b = (gE g k).a) : WayL g (ks ++ [k]) := by
  have p : Pre g (ks.map eN ++ [eN k]) ks.length ks := ⟨by rw [List.take_append_of_le_length (by rw [List.length_map]; exact Nat.le_refl _)]; rw [List.take_of_length_le (by rw [List.length_map]; exact Nat.le_refl _)], w⟩
  refine (p.snoc (k := k) ?_ hk fun l hl => ?_).way
  · rw [List.getElem?_append_right (by rw [List.length_map]; exact Nat.le_refl _), List.length_map]; simp
  · have : ks ≠ [] := fun z => by rw [z] at hl; simp at hl
    rw [lastN_get this] at hl
    rw [← Option.some.inj hl]; exact hn
theorem tok_snoc {g : Gr} {ks : List Nat} {k : Nat} : tok g (ks ++ [k]) = tok g ks + (gE g k).t := by
  unfold tok
  rw [List.map_append, List.sum_append]; simp
theorem BI.init {g : Gr} {e0 : Nat} {w : Nat → List Nat} (hw : WF g) (he : e0 < g.2.length) (hwn : ∀ v, w v = []) : BI g e0 [(gE g e0).b] (fun _ => 0) w (mu g [(gE g e0).b] fun _ => 0) := by
  refine ⟨by simp, by simp, rfl, fun v hv => ?_, fun v hv => ?_, fun v _ => Nat.zero_le _, fun v _ => ?_⟩
  · have : v = (gE g e0).b := by simpa using hv
    rw [this]; exact .here
  · have : v = (gE g e0).b := by simpa using hv
    rw [hwn]
    refine ⟨⟨fun k hk => ?_, fun i k l h1 h2 => ?_⟩, ?_, rfl⟩
    · have : k = e0 := by simpa using hk
      rw [this]; exact he
    · have := (List.getElem?_eq_some_iff.mp h2).1
      simp at this
    · rw [this]; rfl
  · rw [hwn]; simp
theorem BI.put {g : Gr} {e0 : Nat} {ns : List Nat} {c : Nat → Nat} {w : Nat → List Nat} {M : Nat} (hw : WF g) (h0 : e0 < g.2.length) (h7 : ∀ e ∈ g.2, e.t ≤ 7) (z : BI g e0 ns c w M) {k : Nat} (hk : k < g.2.length) (ha : (gE g k).a ∈ ns)
    (hb : (gE g k).b ∉ ns ∨ c (gE g k).a + (gE g k).t < c (gE g k).b) :
    mu g (addN ns (gE g k).b) (updF c (gE g k).b (c (gE g k).a + (gE g k).t)) < mu g ns c ∧ BI g e0 (addN ns (gE g k).b) (updF c (gE g k).b (c (gE g k).a + (gE g k).t)) (updF w (gE g k).b (w (gE g k).a ++ [k])) M := by
  have hkm : gE g k ∈ g.2 := List.mem_of_getElem? (gE_get hk)
  have h0m : gE g e0 ∈ g.2 := List.mem_of_getElem? (gE_get h0)
  have ho := hw.es _ hkm
  have ht := h7 _ hkm
  generalize he : gE g k = e at *
  have hs : (gE g e0).b < g.1 := (hw.es _ h0m).b
  have lt : ∀ v ∈ ns, v < g.1 := fun v hv => led_lt hw hs (z.led v hv)
  have hba := z.bd _ ha
  have nl : e.b ∉ ns → ns.length < g.1 := fun hn => by
    have := nodup_le (n := g.1) (ns := e.b :: ns) (List.nodup_cons.mpr ⟨hn, z.nd⟩) fun v hv => by
      rcases List.mem_cons.mp hv with rfl | hv
      · exact ho.b
      · exact lt v hv
    rw [List.length_cons] at this
    omega
  have nlen : ns.length ≤ (addN ns e.b).length := by
    unfold addN; split
    · exact Nat.le_refl _
    · rw [List.length_append]; omega
  have hmu : mu g (addN ns e.b) (updF c e.b (c e.a + e.t)) < mu g ns c := by
    unfold mu
    refine sum_lt (fun v _ => ?_) ⟨e.b, List.mem_range.mpr ho.b, ?_⟩
    · by_cases hv : v = e.b
      · subst hv
        rw [if_pos (mem_addN.mpr (.inr rfl)), updF_same]
        split
        · rename_i hm
          rcases hb with hb | hb
          · exact absurd hm hb
          · omega
        · rename_i hm
          have := nl hm
          omega
      · rw [updF_ne hv]
        have : v ∈ addN ns e.b ↔ v ∈ ns := by rw [mem_addN]; simp [hv]
        simp only [this]
        exact Nat.le_refl _
    · rw [if_pos (mem_addN.mpr (.inr rfl)), updF_same]
      split
      · rename_i hm
        rcases hb with hb | hb
        · exact absurd hm hb
        · exact hb
      · rename_i hm
        have := nl hm
        omega
  refine ⟨hmu, nodup_addN z.nd, mem_addN.mpr (.inl z.st), ?_, fun v hv => ?_, fun v hv => ?_, fun v hv => ?_, fun v hv => ?_⟩
  · by_cases h : (gE g e0).b = e.b
    · rcases hb with hb | hb
      · exact absurd (h ▸ z.st) hb
      · rw [← h, z.st0] at hb; omega
    · rw [updF_ne h]; exact z.st0
  · rcases mem_addN.mp hv with h | rfl
    · exact z.led v h
    · exact .on hkm (z.led _ ha)
  · by_cases hvb : v = e.b
    · subst hvb
      rw [updF_same, updF_same]
      obtain ⟨w1, w2, w3⟩ := z.way _ ha
      refine ⟨?_, ?_, by rw [tok_snoc, w3, he]⟩
      · have := w1.snoc hk (by rw [w2, he])
        rwa [List.cons_append] at this
      · have := lastN_snoc (ks := e0 :: w e.a) (k := k)
        rw [List.cons_append] at this
        rw [this, he]
    · rw [updF_ne hvb, updF_ne hvb]
      exact z.way v ((mem_addN.mp hv).resolve_right hvb)
  · by_cases hvb : v = e.b
    · subst hvb
      rw [updF_same]
      by_cases hm : e.b ∈ ns
      · rcases hb with hb | hb
        · exact absurd hm hb
        · have := z.bd _ hm
          omega
      · have : (addN ns e.b).length = ns.length + 1 := by unfold addN; rw [if_neg hm, List.length_append]; rfl
        omega
    · rw [updF_ne hvb]
      have := z.bd v ((mem_addN.mp hv).resolve_right hvb)
      omega
  · by_cases hvb : v = e.b
    · subst hvb
      rw [updF_same, List.length_append]
      have := z.len _ ha
      simp only [List.length_cons, List.length_nil]
      omega
    · rw [updF_ne hvb]
      have := z.len v ((mem_addN.mp hv).resolve_right hvb)
      omega

def NoEdge (g : Gr) (d : D) (h : DH) : Prop := (∃ t, tyD d h = some t ∧ t ≠ "int") ∨ ∃ z : Int, d = .int z ∧ (z < 0 ∨ (g.2.length : Int) ≤ z)
/-- what bound tells of an edge -/
structure BdR (g : Gr) (e0 : Nat) (ns : List Nat) (c : Nat → Nat) (w : Nat → List Nat) : Prop where
  mem : ∀ v, v ∈ ns ↔ Led g (gE g e0).b v
  st : c (gE g e0).b = 0
  fin : ∀ e ∈ g.2, e.a ∈ ns → c e.b ≤ c e.a + e.t
  way : ∀ v ∈ ns, WayL g (e0 :: w v) ∧ (gE g (lastN (e0 :: w v))).b = v ∧ tok g (w v) = c v
  len : ∀ v ∈ ns, (w v).length ≤ 40000
def eOn : Option Nat → D
  | none => .non
  | some n => eN n
def dist (ns : List Nat) (c : Nat → Nat) (v : Nat) : Option Nat := if v ∈ ns then some (c v) else none
def distD (g : Gr) (ns : List Nat) (c : Nat → Nat) : D := .tup ((List.range g.1).map fun v => eOn (dist ns c v))
def sp_bound (C : Addr) : DSp := sp2 fun a d h q x => ∃ g, a = eG g ∧ WF g ∧ g.1 ≤ 20 ∧ g.2.length ≤ 60 ∧ (∀ e ∈ g.2, e.t ≤ 7) ∧ (((NoEdge g d h ∨ ((∃ z : Int, d = .int z) ∧ ∀ rk, ¬ LiveG g rk)) ∧ x (.ref C) none h) ∨
  ∃ e0, d = eN e0 ∧ e0 < g.2.length ∧ (∃ rk, LiveG g rk) ∧ (¬ Led g (gE g e0).b (gE g e0).a → ∀ ns, LedL g (gE g e0).b ns → q (.tup [.str (Str.ofString "free"), .tup (ns.map eN)]) h) ∧
    ∀ ns c w, (gE g e0).a ∈ ns → BdR g e0 ns c w → q (.tup [.str (Str.ofString "bound"), .int ((gE g e0).t + c (gE g e0).a : Nat), .tup ((e0 :: w (gE g e0).a).map eN), distD g ns c]) h)
theorem mu_le {g : Gr} (ns : List Nat) {c : Nat → Nat} (h : ∀ v ∈ ns, c v ≤ 7 * (g.1 + 1)) : mu g ns c ≤ g.1 * (7 * (g.1 + 1)) := by
  unfold mu
  generalize 7 * (g.1 + 1) = X at h
  have : ∀ l : List Nat, (l.map fun v => if v ∈ ns then c v else X).sum ≤ l.length * X := fun l => by
    induction l with
    | nil => exact Nat.zero_le _
    | cons a r ih =>
      have h1 : (if a ∈ ns then c a else X) ≤ X := by
        split
        · rename_i m; exact h _ m
        · exact Nat.le_refl _
      simp only [List.map_cons, List.sum_cons, List.length_cons, Nat.succ_mul]
      omega
  have := this (List.range g.1)
  rw [List.length_range] at this
  exact this
theorem enumG (g : Gr) : enumD (g.2.map eE) = (List.range g.2.length).map fun (i : Nat) => D.tup [.int (i : Nat), eE (gE g i)] := by
  apply List.ext_getElem?
  intro i
  by_cases hi : i < g.2.length
  · rw [enumD_get (d := eE (gE g i)) (by rw [List.getElem?_map, gE_get hi]; rfl), List.getElem?_map, List.getElem?_range hi]; rfl
  · rw [List.getElem?_eq_none (by rw [enumD_len, List.length_map]; omega), List.getElem?_eq_none (by rw [List.length_map, List.length_range]; omega)]
theorem range_get {n i j : Nat} (h : (List.range n)[i]? = some j) : i = j ∧ i < n := by
  obtain ⟨h5, h6⟩ := List.getElem?_eq_some_iff.mp h
  rw [List.getElem_range] at h6
  rw [List.length_range] at h5
  omega
section
variable {P : Program} {w : World} {K : PySem.W.Frag} {mg : Str → Option Value} {base : Heap} {C_DelayError C_BadNet : Addr}
theorem h_bound (T : Txt K mg C_DelayError C_BadNet) (H_empty_ring : Has P w K mg base "empty_ring" 3 ["graph", "held"] sp_empty_ring) (H_is_integer : Has P w K mg base "is_integer" 2 ["value"] sp_is_integer) (H_look_at_graph : Has P w K mg base "look_at_graph" 5 ["graph"] sp_look_at_graph) : Has P w K mg base "bound" (6) ["graph", "e"] ((sp_bound C_BadNet)) := by
  refine has_of T.a_bound fun f fd F => okD F sc_bound len2 fun cdv A outer s H E b ds q xx hr tk hsp => ?_
  have hr_empty_ring := hr.mono (show 3 ≤ 5 by decide)
  have hr_is_integer := hr.mono (show 2 ≤ 5 by decide)
  have hr_look_at_graph := hr.mono (show 5 ≤ 5 by decide)
  refine ⟨_, (dss_cons (ds_expr (de_callH H_look_at_graph hr_look_at_graph (by rfl) tk (da_cons (de_var (pv 0)) da_nil)))
  (dss_cons (ds_if (dt_w (dw_or (dt_not (dt_tru (de_callH H_is_integer hr_is_integer (by rfl) tk (da_cons (de_var (pv 1)) da_nil)))) (dw_or (dt_lt (de_var (pv 1)) de_int) (dw_or (dt_ge (de_var (pv 1)) (de_cb (pe_callB call_lenU (by rfl) T.m_len bt_len (da_cons (de_ix (hu_of hr) (de_var (pv 0)) de_int (fun _ _ => rfl)) da_nil)) refLen)) (dw_or1 (dt_notN (de_callH H_empty_ring hr_empty_ring (by rfl) tk (da_cons (de_var (pv 0)) (da_cons (de_new (dl_rg1 rfl (by rfl) T.m_list (by rfl) T.m_range (de_ix (hu_of hr) (de_var (pv 0)) de_int (fun _ _ => rfl)))) da_nil))) de_non)))))) (dss_one (ds_raise rfl tk (pmk_own PySem.F.excBase_ValueError T.x_BadNet T.g_BadNet T.k_BadNet (raises_own T.b_BadNet T.t_BadNet) (by rfl)))) dss_nil)
  (dss_cons (ds_par (i := 2) (j := 3) (by rfl) sc_bound.nd rfl rfl (by decide) rfl rfl (da_cons (de_ix (hu_of hr) (de_ix (hu_of hr) (de_ix (hu_of hr) (de_var (pv 0)) de_int (fun _ _ => rfl)) (de_var (pv 1)) (fun _ _ => rfl)) de_int (fun _ _ => rfl)) (da_cons (de_ix (hu_of hr) (de_ix (hu_of hr) (de_ix (hu_of hr) (de_var (pv 0)) de_int (fun _ _ => rfl)) (de_var (pv 1)) (fun _ _ => rfl)) de_int (fun _ _ => rfl)) da_nil)) (by rfl))
  (dss_cons (ds_set (i := 4) sc_bound.nd rfl (Or.inr rfl) (de_disp1 (de_var (pv 2)) (de_tup (da_cons de_int (da_cons (de_tup da_nil) da_nil)))))
  (dss_cons (ds_set (i := 5) sc_bound.nd rfl (Or.inl rfl) de_bl)
  (dss_cons (ds_while (passes_of rfl) (dt_tru (de_var (pv 5))) (dss_cons (ds_set (i := 5) sc_bound.nd rfl (Or.inl rfl) de_bl)
    (dss_one (ds_for (passes_of rfl) rfl (di_enum (by rfl) T.m_enumerate (da_cons (de_ix (hu_of hr) (de_var (pv 0)) de_int (fun _ _ => rfl)) da_nil)) (pg_tup (by rfl) (pgs_cons (pg_name (i := 6) sc_bound.nd rfl (Or.inl rfl)) (pgs_cons (pg_name (i := 7) sc_bound.nd rfl (Or.inl rfl)) pgs_nil))) (refG_tup [6, 7]) (dss_one (ds_if (dt_in (hu_of hr) (de_ix (hu_of hr) (de_var (pv 7)) de_int (fun _ _ => rfl)) (de_var (pv 4)) (by rfl)) (dss_cons (ds_set (i := 8) sc_bound.nd rfl (Or.inl rfl) (de_add (de_ix (hu_of hr) (de_ix (hu_of hr) (de_var (pv 4)) (de_ix (hu_of hr) (de_var (pv 7)) de_int (fun _ _ => rfl)) (fun _ _ => rfl)) de_int (fun _ _ => rfl)) (de_ix (hu_of hr) (de_var (pv 7)) de_int (fun _ _ => rfl))))
        (dss_one (ds_if (dt_w (dw_or (dt_notIn (hu_of hr) (de_ix (hu_of hr) (de_var (pv 7)) de_int (fun _ _ => rfl)) (de_var (pv 4)) (by rfl)) (dw_or1 (dt_lt (de_var (pv 8)) (de_ix (hu_of hr) (de_ix (hu_of hr) (de_var (pv 4)) (de_ix (hu_of hr) (de_var (pv 7)) de_int (fun _ _ => rfl)) (fun _ _ => rfl)) de_int (fun _ _ => rfl)))))) (dss_cons (ds_setItem (de_tup (da_cons (de_var (pv 8)) (da_cons (de_add (de_ix (hu_of hr) (de_ix (hu_of hr) (de_var (pv 4)) (de_ix (hu_of hr) (de_var (pv 7)) de_int (fun _ _ => rfl)) (fun _ _ => rfl)) de_int (fun _ _ => rfl)) (de_tup (da_cons (de_var (pv 6)) da_nil))) da_nil))) (de_var (pv 4)) (de_ix (hu_of hr) (de_var (pv 7)) de_int (fun _ _ => rfl)) (set_u (hu_of hr)) refPut)
          (dss_one (ds_set (i := 5) sc_bound.nd rfl (Or.inl rfl) de_bl))) dss_nil))) dss_nil))))))
  (dss_cons (ds_if (dt_notIn (hu_of hr) (de_var (pv 3)) (de_var (pv 4)) (by rfl)) (dss_one (ds_ret (de_tup (da_cons de_str (da_cons (de_cb (pe_callTy call_tuple_of (by rfl) T.m_tuple bt_tuple (da_cons (de_cb (pe_callB (call_sortDU rfl) (by rfl) T.m_sorted bt_sorted (da_cons (de_var (pv 4)) da_nil)) refSortD) da_nil)) refTuple) da_nil))))) dss_nil)
  (dss_cons (ds_set (i := 9) sc_bound.nd rfl (Or.inl rfl) (de_cl (pe_callTy call_tuple_of (by rfl) T.m_tuple bt_tuple (one_l (dl_lc (own := [("v", 10)]) rfl sc_bound.nd (di_rng1 (by rfl) T.m_range (da_cons (de_ix (hu_of hr) (de_var (pv 0)) de_int (fun _ _ => rfl)) da_nil)) (blkOk_by (own := [("v", 10)]) (N := ["graph", "e", "start", "goal", "best", "going", "k", "edge", "count", "distances", "v"]) (sc := defScope st_bound) (by decide +kernel)) (ownG_name (by decide)) (fun _ _ _ _ _ => pg_name (i := 10) sc_bound.nd rfl (Or.inl rfl)) (fun _ _ _ _ _ => dts_nil) (fun _ _ _ _ _ => (de_if (dt_in (hu_of hr) (de_var (pv 10)) (de_var (pv 4)) (by rfl)) (de_ix (hu_of hr) (de_ix (hu_of hr) (de_var (pv 4)) (de_var (pv 10)) (fun _ _ => rfl)) de_int (fun _ _ => rfl)) de_non))))) rlTuple))
  (dss_one (ds_ret (de_tup (da_cons de_str (da_cons (de_add (de_ix (hu_of hr) (de_ix (hu_of hr) (de_ix (hu_of hr) (de_var (pv 0)) de_int (fun _ _ => rfl)) (de_var (pv 1)) (fun _ _ => rfl)) de_int (fun _ _ => rfl)) (de_ix (hu_of hr) (de_ix (hu_of hr) (de_var (pv 4)) (de_var (pv 3)) (fun _ _ => rfl)) de_int (fun _ _ => rfl))) (da_cons (de_add (de_tup (da_cons (de_var (pv 1)) da_nil)) (de_ix (hu_of hr) (de_ix (hu_of hr) (de_var (pv 4)) (de_var (pv 3)) (fun _ _ => rfl)) de_int (fun _ _ => rfl))) (da_cons (de_var (pv 9)) da_nil))))))))))))))), ?_⟩
  obtain ⟨d0, d1, rfl, hsp⟩ := inv2 hsp
  obtain ⟨g, rfl, hw, hn20, hm60, h7, ho⟩ := hsp
  walk_at "w"
  refine ⟨g, rfl, hw, ?_⟩
  have empt : ∀ (h : DH) (Q : DK) (X : DXK), (∀ p, h p = none → (∃ rk, LiveG g rk) → Q .non (updD h p (.lst ((List.range g.1).map eN)))) → ((∀ rk, ¬ LiveG g rk) → ∀ (p : Addr) (ring : List Nat), h p = none → Q (.tup (ring.map eN)) (updD h p (.lst ((List.range g.1).map eN)))) → ∀ p, h p = none → sp_empty_ring [eG g, .loc p] (updD h p (.lst ((List.range g.1).map eN))) Q X := fun h Q X k1 k2 p hp =>
    ⟨g, List.range g.1, p, rfl, rfl, hw, by rw [List.length_range]; omega, fun v hv => List.mem_range.mp hv, updD_same, fun rk hlv => k1 p hp ⟨rk, hlv⟩, fun ring hr hin => k2 (fun rk lv => live_noring lv hr hin fun v hv => List.mem_range.mp hv) p ring hp⟩
  unfold eG at empt ⊢
  rcases ho with ⟨bad, hx⟩ | ⟨e0, rfl, he0, lv, hfree, hbound⟩
  · have hx' : ∀ h, DL.Sub b h → retX xx (.ref C_BadNet) none h := fun h s => ⟨b, s, hx⟩
    rcases bad with (⟨t, ht, hne⟩ | ⟨z, rfl, hz⟩) | ⟨⟨z, rfl⟩, dead⟩
    · walk_at "w"
      refine ⟨t, ht, ?_⟩
      simp! only [hne]
      exact hx' _ Sub.refl
    · walk_at "w"
      by_cases c1 : z < 0
      · simp! only [c1]; exact hx' _ Sub.refl
      · have c2 : (g.2.length : Int) ≤ z := by omega
        simp! only [c1, c2]; exact hx' _ Sub.refl
    · walk_at "w"
      by_cases c1 : z < 0
      · simp! only [c1]; exact hx' _ Sub.refl
      · by_cases c2 : (g.2.length : Int) ≤ z
        · simp! only [c1, c2]; exact hx' _ Sub.refl
        · simp! only [c1, c2]
          refine ⟨by omega, by omega, ?_⟩
          rw [rg0]
          refine empt _ _ _ (fun p hp ⟨rk, lv⟩ => absurd lv (dead rk)) fun _ p ring hp => ?_
          walk_at "w"
          exact hx' _ (Sub.new hp)
  · have h0m : gE g e0 ∈ g.2 := List.mem_of_getElem? (gE_get he0)
    have ho0 := hw.es _ h0m
    simp only [show eN e0 = D.int ((e0 : Nat) : Int) from rfl]
    have c2 : ¬ g.2.length ≤ e0 := by omega
    simp! only [c2]
    refine ⟨by omega, by omega, ?_⟩
    rw [rg0]
    refine empt _ _ _ (fun p hp lv' => ?_) fun dead => absurd lv.choose_spec (dead _)
    have sp := Sub.new (u := .lst ((List.range g.1).map eN)) hp
    generalize updD b p (.lst ((List.range g.1).map eN)) = B0 at sp
    simp! only [atE he0, eE_eq (gE g e0)]
    intro pb hpb
    have bpb : b pb = none := sp.none hpb
    rw [dict_one]
    have e1 : dictN [(gE g e0).b] (fun _ => D.tup [D.int 0, D.tup []]) = dictN [(gE g e0).b] fun v => eB ((fun _ => 0) v) ((fun _ => []) v) := rfl
    rw [e1]
    refine cut (t := dWhile _ _) (fun s h => ∃ (ns : List Nat) (c : Nat → Nat) (w : Nat → List Nat) (x6 x7 x8 : Option D), s = [some (.tup [.int (g.1 : Nat), .tup (g.2.map eE)]), some (.int (e0 : Nat)), some (.int ((gE g e0).b : Nat)), some (.int ((gE g e0).a : Nat)), some (.loc pb), some (.bl false), x6, x7, x8, none, none] ∧
      DL.Sub b h ∧ h pb = some (.dK (dictN ns fun v => eB (c v) (w v))) ∧ BI g e0 ns c w (mu g [(gE g e0).b] fun _ => 0) ∧ (∀ e ∈ g.2, e.a ∈ ns → e.b ∈ ns ∧ c e.b ≤ c e.a + e.t)) (fun NX hNX => ?_) ?_
    rotate_left
    · rintro s h ⟨ns, c, w, x6, x7, x8, rfl, s1, l1, bi, hfin⟩
      have lens : ns.length ≤ g.1 := nodup_le bi.nd fun v hv => led_lt hw ho0.b (bi.led v hv)
      have mem : ∀ v, v ∈ ns ↔ Led g (gE g e0).b v := fun v => ⟨bi.led v, led_in bi.st fun e he ha => (hfin e he ha).1⟩
      by_cases cg : (gE g e0).a ∈ ns
      · simp! only [dIn_dict l1, cg]
        refine lcEM (List.range g.1) eN (G := fun _ => True) (fun v => eOn (dist ns c v)) (fun r hr => by walk_at "w"; rw [rg0]; exact ⟨by omega, by omega, hr⟩) trivial (accMax_big (by rw [List.length_range]; omega)) (fun v hv Y hY => ?_) ?_
        · simp only [show eN v = D.int ((v : Nat) : Int) from rfl]
          unfold dist at hY
          by_cases cv : v ∈ ns
          · simp only [cv, if_true] at hY
            simp! only [dIn_dict l1, l1, dict_val, cv, eB_eq]
            exact hY
          · simp only [cv, if_false] at hY
            simp! only [dIn_dict l1, cv]
            exact hY
        · simp! only [l1, dict_val, cg, atE he0, eE_eq (gE g e0), eB_eq]
          have hM := mu_le (g := g) [(gE g e0).b] (c := fun _ => 0) (fun _ _ => Nat.zero_le _)
          have hM2 : g.1 * (7 * (g.1 + 1)) ≤ 20 * 147 := Nat.mul_le_mul hn20 (by omega)
          have len : ∀ v ∈ ns, (w v).length ≤ 40000 := fun v hv => by have := bi.len v hv; omega
          refine ⟨sz_big (by have := len _ cg; omega), b, s1, ?_⟩
          have := hbound ns c w cg ⟨mem, bi.st0, fun e he ha => (hfin e he ha).2, bi.way, len⟩
          rw [show (((gE g e0).t + c (gE g e0).a : Nat) : Int) = ((gE g e0).t : Nat) + ((c (gE g e0).a : Nat) : Int) by omega] at this
          exact this
      · simp! only [dIn_dict l1, cg]
        refine sortD_dict l1 bi.nd (by omega) fun ms p3 pw mm hp3 => ?_
        simp! only [updD_same]
        refine ⟨b, s1.trans (Sub.new hp3), hfree (fun z => cg ((mem _).mpr z)) ms ⟨pw, fun v => (mm v).trans (mem v)⟩⟩
    refine whileP (fun m s h => ∃ (ns : List Nat) (c : Nat → Nat) (w : Nat → List Nat) (gd : Bool) (x6 x7 x8 : Option D), s = [some (.tup [.int (g.1 : Nat), .tup (g.2.map eE)]), some (.int (e0 : Nat)), some (.int ((gE g e0).b : Nat)), some (.int ((gE g e0).a : Nat)), some (.loc pb), some (.bl gd), x6, x7, x8, none, none] ∧
      DL.Sub b h ∧ h pb = some (.dK (dictN ns fun v => eB (c v) (w v))) ∧ BI g e0 ns c w (mu g [(gE g e0).b] fun _ => 0) ∧ (gd = false → ∀ e ∈ g.2, e.a ∈ ns → e.b ∈ ns ∧ c e.b ≤ c e.a + e.t) ∧ m = 2 * mu g ns c + (if gd then 1 else 0)) _
      ⟨[(gE g e0).b], fun _ => 0, fun _ => [], true, none, none, none, rfl, sp.trans (Sub.new hpb), updD_same, BI.init hw he0 fun _ => rfl, (fun z => nomatch z), rfl⟩ ?_
    rintro m s h ⟨ns, c, w, gd, x6, x7, x8, rfl, s1, l1, bi, hfin, rfl⟩
    have lens : ns.length ≤ g.1 := nodup_le bi.nd fun v hv => led_lt hw ho0.b (bi.led v hv)
    refine ⟨gd, fun q hq => by walk_at "w"; exact hq, fun hgd => ?_, fun hgd => ?_⟩
    · subst hgd
      clear hfin
      walk_at "w"
      refine forE (List.range g.2.length) (fun i => .tup [.int (i : Nat), eE (gE g i)]) (G := fun _ => True) (fun i s h => ∃ (ns' : List Nat) (c' : Nat → Nat) (w' : Nat → List Nat) (gd : Bool) (x6 x7 x8 : Option D), s = [some (.tup [.int (g.1 : Nat), .tup (g.2.map eE)]), some (.int (e0 : Nat)), some (.int ((gE g e0).b : Nat)), some (.int ((gE g e0).a : Nat)), some (.loc pb), some (.bl gd), x6, x7, x8, none, none] ∧
        DL.Sub b h ∧ h pb = some (.dK (dictN ns' fun v => eB (c' v) (w' v))) ∧ BI g e0 ns' c' w' (mu g [(gE g e0).b] fun _ => 0) ∧ (gd = false → mu g ns' c' = mu g ns c ∧ ∀ j, j < i → (gE g j).a ∈ ns' → (gE g j).b ∈ ns' ∧ c' (gE g j).b ≤ c' (gE g j).a + (gE g j).t) ∧ (gd = true → mu g ns' c' < mu g ns c)) (fun r hr => by
          walk_at "w"
          have : enumD (g.2.map eE) = (List.range g.2.length).map fun (i : Nat) => D.tup [.int (i : Nat), eE (gE g i)] := enumG g
          rw [this]; exact hr) ⟨ns, c, w, false, x6, x7, x8, rfl, s1, l1, bi, (fun _ => ⟨rfl, fun j hj => absurd hj (Nat.not_lt_zero _)⟩), fun z => nomatch z⟩ (fun _ _ _ _ _ => trivial) ?_ ?_
      · rintro i j s h hj ⟨ns', c', w', gd, x6, x7, x8, rfl, s1, l1, bi, hf, ht⟩
        obtain ⟨rfl, hi⟩ := range_get hj
        have him : gE g i ∈ g.2 := List.mem_of_getElem? (gE_get hi)
        have hoi := hw.es _ him
        have ht7 := h7 _ him
        have lens' : ns'.length ≤ g.1 := nodup_le bi.nd fun v hv => led_lt hw ho0.b (bi.led v hv)
        simp only [eE_eq (gE g i)]
        by_cases ca : (gE g i).a ∈ ns'
        · have lw := bi.len _ ca
          have cnt : ((c' (gE g i).a : Nat) : Int) + ((gE g i).t : Nat) = ((c' (gE g i).a + (gE g i).t : Nat) : Int) := by omega
          have fin : ((gE g i).b ∉ ns' ∨ c' (gE g i).a + (gE g i).t < c' (gE g i).b) → (w' (gE g i).a).length + 1 ≤ sizeLine ∧ ns'.length < sizeLine ∧ ∃ (ns'' : List Nat) (c'' : Nat → Nat) (w'' : Nat → List Nat) (gd : Bool) (x6 x7 x8 : Option D), [some (D.tup [.int (g.1 : Nat), .tup (g.2.map eE)]), some (.int (e0 : Nat)), some (.int ((gE g e0).b : Nat)), some (.int ((gE g e0).a : Nat)), some (.loc pb), some (.bl true), some (.int (i : Nat)), some (.tup [.int ((gE g i).a : Nat), .int ((gE g i).b : Nat), .int ((gE g i).t : Nat), eR (gE g i).d]), some (.int ((c' (gE g i).a + (gE g i).t : Nat) : Int)), none, none] = [some (.tup [.int (g.1 : Nat), .tup (g.2.map eE)]), some (.int (e0 : Nat)), some (.int ((gE g e0).b : Nat)), some (.int ((gE g e0).a : Nat)), some (.loc pb), some (.bl gd), x6, x7, x8, none, none] ∧
              DL.Sub b (updD h pb (.dK (dictN (addN ns' (gE g i).b) (updF (fun v => eB (c' v) (w' v)) (gE g i).b (.tup [.int ((c' (gE g i).a + (gE g i).t : Nat) : Int), .tup ((w' (gE g i).a).map eN ++ [.int (i : Nat)])]))))) ∧ DO.dK (dictN (addN ns' (gE g i).b) (updF (fun v => eB (c' v) (w' v)) (gE g i).b (.tup [.int ((c' (gE g i).a + (gE g i).t : Nat) : Int), .tup ((w' (gE g i).a).map eN ++ [.int (i : Nat)])]))) = DO.dK (dictN ns'' fun v => eB (c'' v) (w'' v)) ∧ BI g e0 ns'' c'' w'' (mu g [(gE g e0).b] fun _ => 0) ∧
                (gd = false → mu g ns'' c'' = mu g ns c ∧ ∀ j, j < i + 1 → (gE g j).a ∈ ns'' → (gE g j).b ∈ ns'' ∧ c'' (gE g j).b ≤ c'' (gE g j).a + (gE g j).t) ∧ (gd = true → mu g ns'' c'' < mu g ns c) := fun hb => by
            obtain ⟨p1, p2⟩ := bi.put hw he0 h7 hi ca hb
            have hM := mu_le (g := g) [(gE g e0).b] (c := fun _ => 0) (fun _ _ => Nat.zero_le _)
            have hM2 : g.1 * (7 * (g.1 + 1)) ≤ 20 * 147 := Nat.mul_le_mul hn20 (by omega)
            refine ⟨sz_big (by omega), sz_lt' (by omega), _, _, _, true, _, _, _, rfl, s1.mut bpb, ?_, p2, (fun z => nomatch z), fun _ => ?_⟩
            · have : D.tup [.int ((c' (gE g i).a + (gE g i).t : Nat) : Int), .tup ((w' (gE g i).a).map eN ++ [.int (i : Nat)])] = eB (c' (gE g i).a + (gE g i).t) (w' (gE g i).a ++ [i]) := by unfold eB; rw [List.map_append]; rfl
              rw [this, eB_upd]
            · cases gd with
              | false => have := (hf rfl).1; omega
              | true => have := ht rfl; omega
          by_cases cb : (gE g i).b ∈ ns'
          · by_cases cc : c' (gE g i).a + (gE g i).t < c' (gE g i).b
            · simp! only [dIn_dict l1, l1, dict_val, ca, cb, cc, eB_eq (c' (gE g i).a), eB_eq (c' (gE g i).b), dict_put, dict_len, cnt]
              exact fin (.inr cc)
            · simp! only [dIn_dict l1, l1, dict_val, ca, cb, cc, eB_eq (c' (gE g i).a), eB_eq (c' (gE g i).b), dict_put, dict_len, cnt]
              refine ⟨ns', c', w', gd, _, _, _, rfl, s1, rfl, bi, fun hg => ⟨(hf hg).1, fun j hj => ?_⟩, ht⟩
              rcases Nat.lt_or_eq_of_le (Nat.le_of_lt_succ hj) with h1 | h1
              · exact (hf hg).2 j h1
              · subst h1; exact fun _ => ⟨cb, by omega⟩
          · simp! only [dIn_dict l1, l1, dict_val, ca, cb, eB_eq (c' (gE g i).a), dict_put, dict_len, cnt]
            exact fin (.inl cb)
        · simp! only [dIn_dict l1, ca]
          refine ⟨ns', c', w', gd, _, _, _, rfl, s1, l1, bi, fun hg => ⟨(hf hg).1, fun j hj => ?_⟩, ht⟩
          rcases Nat.lt_or_eq_of_le (Nat.le_of_lt_succ hj) with h1 | h1
          · exact (hf hg).2 j h1
          · subst h1; exact fun z => absurd z ca
      · rintro s h ⟨ns', c', w', gd, x6, x7, x8, rfl, s1, l1, bi', hf, ht⟩
        rw [List.length_range] at hf
        refine ⟨2 * mu g ns' c' + (if gd then 1 else 0), ?_, ns', c', w', gd, _, _, _, rfl, s1, l1, bi', fun hg e he ha => ?_, rfl⟩
        · cases gd with
          | false => have := (hf rfl).1; simp; omega
          | true => have := ht rfl; simp; omega
        · obtain ⟨j, hj⟩ := List.mem_iff_getElem?.mp he
          have := (hf hg).2 j (List.getElem?_eq_some_iff.mp hj).1
          rw [gE_eq hj] at this
          exact this ha
    · subst hgd
      exact hNX _ _ ⟨ns, c, w, _, _, _, rfl, s1, l1, bi, hfin rfl⟩
end
end K

set_option Elab.async false
set_option linter.all false
set_option maxRecDepth 100000
set_option maxHeartbeats 4000000
set_option pp.maxSteps 700
namespace K
open PySem PySem.Spec PyProof.Rows L2 DL
local macro_rules | `(tactic| walk_at "w") => `(tactic| try simp only [↓eSeq_nx, ↓eSeq_rt, ↓eSeq_bk, ↓eSeq_ct, ↓wz_seq, ↓wz_next, ↓wz_break, ↓wz_cont, ↓wz_drop, ↓wz_kDrop, ↓wz_ret, ↓wz_retN, ↓wz_ifS, ↓wz_kIfT, ↓wz_kIfF, ↓wz_asg, ↓wz_kAsg, ↓wz_kAsg2, ↓wz_pName, ↓wz_pTup, ↓wz_par, ↓wz_kPar, ↓wz_aug, ↓wz_kAug, ↓wz_kAug2, ↓wz_kAug3, ↓wz_set, ↓wz_kSet1, ↓wz_kSet2, ↓wz_kSet3, ↓wz_kSet4, ↓wz_raise, ↓wz_try, ↓eOut_nx, ↓eOut_rt, ↓wz_tryAs, ↓wz_var, ↓wz_kVar, ↓wz_c, ↓wz_op, ↓wz_kOp1, ↓wz_kOp2, ↓wz_un, ↓wz_kUn, ↓wz_nil, ↓wz_cons, ↓wz_kCons1, ↓wz_kCons2, ↓wz_cb, ↓wz_kCB, ↓wz_call, ↓wz_kCall, ↓wz_kW, ↓wz_tru, ↓wz_kTruNon, ↓wz_kTruBl, ↓wz_kTruInt, ↓wz_kTruTup, ↓wz_kTruL, ↓wz_truL, ↓wz_truK, ↓wz_and, ↓wz_kAndT, ↓wz_kAndF, ↓wz_or, ↓wz_kOrT, ↓wz_kOrF, ↓wz_not, ↓wz_kNot, ↓wz_if, ↓wz_kIfVT, ↓wz_kIfVF, ↓wz_andV, ↓wz_kAndVT, ↓wz_kAndVF, ↓wz_orV, ↓wz_kOrVT, ↓wz_kOrVF, ↓wz_notV, ↓wz_kNotV, ↓wz_test, ↓wz_kTest, ↓wz_yes, ↓wz_II, ↓wz_I0, ↓wz_I1, ↓wz_addI, ↓wz_addS, ↓wz_addT, ↓wz_addL, ↓wz_mulI, ↓wz_mulL, ↓wz_eqS, ↓wz_neS, ↓wz_kEq, ↓wz_kNe, ↓wz_eq_ii, ↓wz_eq_ss, ↓wz_eq_bb, ↓wz_eq_nn, ↓wz_eq_ni, ↓wz_eq_in, ↓wz_eq_nb, ↓wz_eq_bn, ↓wz_eq_ns, ↓wz_eq_sn, ↓wz_eq_is, ↓wz_eq_si, ↓wz_eq_bs, ↓wz_eq_sb, ↓wz_isN, ↓wz_notN, ↓wz_non_n, ↓wz_non_b, ↓wz_non_i, ↓wz_non_s, ↓wz_non_t, ↓wz_non_l, ↓wz_kAtD, ↓wz_ixT, ↓wz_ixL, ↓wz_put, ↓wz_noPart, ↓wz_part, ↓wz_kPart, ↓wz_sl, ↓wz_kSl1, ↓wz_kSl2, ↓wz_kSl3, ↓wz_cutT, ↓wz_cutS, ↓wz_cutL, ↓wz_rev, ↓wz_kRev, ↓wz_tup, ↓wz_kTup, ↓wz_newK, ↓wz_newT, ↓wz_len, ↓wz_kLen, ↓wz_lenT, ↓wz_lenL, ↓wz_abs, ↓wz_intI, ↓wz_intB, ↓wz_ty_n, ↓wz_ty_b, ↓wz_ty_i, ↓wz_ty_s, ↓wz_ty_t, ↓wz_ty_l, ↓wz_isi, ↓wz_kIsi, ↓wz_listT, ↓wz_listV, ↓wz_listL, ↓wz_tupT, ↓wz_tupL, ↓wz_all, ↓wz_any, ↓wz_sum, ↓wz_maxL, ↓wz_minL, ↓wz_maxI, ↓wz_minI, ↓wz_tyM, ↓wz_tyMS, ↓wz_mt, ↓wz_mt0, ↓wz_kMt, ↓wz_kMt0, ↓wz_kMt2, ↓wz_app, ↓wz_ext, ↓wz_pop, ↓wz_seqI, ↓wz_kSeqT, ↓wz_kSeqL, ↓wz_seqO, ↓wz_rng1, ↓wz_kRng1, ↓wz_rng2, ↓wz_kRng2, ↓wz_enum, ↓wz_kEnumT, ↓wz_kEnumL, ↓wz_enumO, ↓wz_iterL, ↓wz_kIterL, ↓wz_zip, ↓wz_kZip, ↓wz_new, ↓wz_kNew, ↓wz_lst, ↓wz_kLst, ↓wz_lrg1, ↓wz_kLRg1, ↓wz_tupR1, ↓wz_kTupR1, ↓wz_catVL, ↓wz_kCatVL, ↓wz_kCatVL2, ↓wz_catLV, ↓wz_kCatLV, ↓wz_kCatLV2, ↓wz_catLL, ↓wz_kCatLL, ↓wz_kCatLL2, ↓wz_lstOf, ↓wz_rep, ↓wz_kRep, ↓wz_kRep2, ↓wz_cl, ↓wz_kCL, ↓wz_eLen, ↓wz_eTuple, ↓wz_eAll, ↓wz_eAny, ↓wz_eSum, ↓wz_eMax, ↓wz_eMin, ↓wz_ixNew, ↓wz_kIxL, ↓wz_kIxL2, ↓wz_disp1, ↓wz_kDisp1, ↓wz_kDisp2, ↓wz_sortSet, ↓reduceIte, setAll, wipeD, zAddO, zMulO, kKeyK, kKeyT, zIxO, keyD, keysD, zPutAt, zPutK, zPutT, zPutO, zCutO, zRevO, zLenO, zTyO, zListO, zTupO, zTyMO, zAppO, zExtO, zPopO, kPop, zLstO, zCatO, zCatO2, nat_lt, nat_le, nat_neg, nat_pos, startD, sp1, sp2, sp3, sp4, sp5, sp6, Bool.true_and, Bool.and_true, Bool.false_and, Bool.and_false, Bool.true_or, Bool.or_true, Bool.false_or, Bool.or_false, Bool.not_not, decide_not, nat_inj, nat_zero, Nat.lt_irrefl, Nat.le_refl, ty_int, ty_bl, ty_str, ty_non, ty_tup, mem_int, mem_bool, mem_str, mem_tuple, mem_list, isTy_self, isTy_bool_int, isTy_int_bool, isTy_int_tuple, isTy_int_list, isTy_int_str, isTy_bool_tuple, isTy_bool_list, isTy_bool_str, isTy_str_bool, isTy_str_int, isTy_str_tuple, isTy_str_list, isTy_non_tuple, isTy_non_list, isTy_non_str, isTy_non_int, isTy_non_bool, isTy_tup_list, isTy_tup_int, isTy_tup_str, isTy_tup_bool, isTy_list_tup, isTy_list_int, isTy_list_bool, isTy_list_str, sp1, sp2, sp3, sp4, sp5, sp6, updD_same, updD_updD, List.map_cons, List.map_nil, List.length_cons, List.length_nil, List.set_cons_zero, List.set_cons_succ, List.getElem?_cons_zero, List.getElem?_cons_succ, List.cons_append, List.nil_append, Nat.reduceAdd, Nat.reduceSub, List.replicate, Nat.sub_self, decide_eq_true_eq, Bool.not_eq_true', decide_eq_false_iff_not, decide_true, decide_false, Bool.not_true, Bool.not_false, Bool.false_eq_true, Bool.true_eq_false, if_true, if_false, true_and, and_true, List.isEmpty_nil, List.isEmpty_cons, List.flatten_cons, List.flatten_nil, at_0, at_1, at_2, at_3, at_4, at_5, at_6, at_7, at_m1_1, at_m1_2, at_m1_3, at_m1_4, at_m1_5, at_m1_6, nc_0, nc_1, nc_2, nc_3, nc_4, nc_5, nc_6, nc_7, nc_8, nc_9, nc_10, nc_11, nc_12, len_map, not_true_eq_false, not_false_eq_true, ite_true, ite_false, Int.reduceEq, Int.reduceNe, Int.reduceLT, Int.reduceLE, Nat.reduceEqDiff, Option.some.injEq, true_implies, forall_const, sz_0, sz_1, sz_2, sz_3, sz_4, sz_5, sz_6, sz_7, sz_8, sz_9, sz_10, sz_11, sz_12, sz_13, sz_14, sz_15, sz_16, sz_17, sz_18, sz_19, sz_20, ix_4_1, ix_4_2, ix_4_3])
local macro_rules | `(tactic| simp! only [$xs,*]) => `(tactic| try simp only [↓eSeq_nx, ↓eSeq_rt, ↓eSeq_bk, ↓eSeq_ct, ↓wz_seq, ↓wz_next, ↓wz_break, ↓wz_cont, ↓wz_drop, ↓wz_kDrop, ↓wz_ret, ↓wz_retN, ↓wz_ifS, ↓wz_kIfT, ↓wz_kIfF, ↓wz_asg, ↓wz_kAsg, ↓wz_kAsg2, ↓wz_pName, ↓wz_pTup, ↓wz_par, ↓wz_kPar, ↓wz_aug, ↓wz_kAug, ↓wz_kAug2, ↓wz_kAug3, ↓wz_set, ↓wz_kSet1, ↓wz_kSet2, ↓wz_kSet3, ↓wz_kSet4, ↓wz_raise, ↓wz_try, ↓eOut_nx, ↓eOut_rt, ↓wz_tryAs, ↓wz_var, ↓wz_kVar, ↓wz_c, ↓wz_op, ↓wz_kOp1, ↓wz_kOp2, ↓wz_un, ↓wz_kUn, ↓wz_nil, ↓wz_cons, ↓wz_kCons1, ↓wz_kCons2, ↓wz_cb, ↓wz_kCB, ↓wz_call, ↓wz_kCall, ↓wz_kW, ↓wz_tru, ↓wz_kTruNon, ↓wz_kTruBl, ↓wz_kTruInt, ↓wz_kTruTup, ↓wz_kTruL, ↓wz_truL, ↓wz_truK, ↓wz_and, ↓wz_kAndT, ↓wz_kAndF, ↓wz_or, ↓wz_kOrT, ↓wz_kOrF, ↓wz_not, ↓wz_kNot, ↓wz_if, ↓wz_kIfVT, ↓wz_kIfVF, ↓wz_andV, ↓wz_kAndVT, ↓wz_kAndVF, ↓wz_orV, ↓wz_kOrVT, ↓wz_kOrVF, ↓wz_notV, ↓wz_kNotV, ↓wz_test, ↓wz_kTest, ↓wz_yes, ↓wz_II, ↓wz_I0, ↓wz_I1, ↓wz_addI, ↓wz_addS, ↓wz_addT, ↓wz_addL, ↓wz_mulI, ↓wz_mulL, ↓wz_eqS, ↓wz_neS, ↓wz_kEq, ↓wz_kNe, ↓wz_eq_ii, ↓wz_eq_ss, ↓wz_eq_bb, ↓wz_eq_nn, ↓wz_eq_ni, ↓wz_eq_in, ↓wz_eq_nb, ↓wz_eq_bn, ↓wz_eq_ns, ↓wz_eq_sn, ↓wz_eq_is, ↓wz_eq_si, ↓wz_eq_bs, ↓wz_eq_sb, ↓wz_isN, ↓wz_notN, ↓wz_non_n, ↓wz_non_b, ↓wz_non_i, ↓wz_non_s, ↓wz_non_t, ↓wz_non_l, ↓wz_kAtD, ↓wz_ixT, ↓wz_ixL, ↓wz_put, ↓wz_noPart, ↓wz_part, ↓wz_kPart, ↓wz_sl, ↓wz_kSl1, ↓wz_kSl2, ↓wz_kSl3, ↓wz_cutT, ↓wz_cutS, ↓wz_cutL, ↓wz_rev, ↓wz_kRev, ↓wz_tup, ↓wz_kTup, ↓wz_newK, ↓wz_newT, ↓wz_len, ↓wz_kLen, ↓wz_lenT, ↓wz_lenL, ↓wz_abs, ↓wz_intI, ↓wz_intB, ↓wz_ty_n, ↓wz_ty_b, ↓wz_ty_i, ↓wz_ty_s, ↓wz_ty_t, ↓wz_ty_l, ↓wz_isi, ↓wz_kIsi, ↓wz_listT, ↓wz_listV, ↓wz_listL, ↓wz_tupT, ↓wz_tupL, ↓wz_all, ↓wz_any, ↓wz_sum, ↓wz_maxL, ↓wz_minL, ↓wz_maxI, ↓wz_minI, ↓wz_tyM, ↓wz_tyMS, ↓wz_mt, ↓wz_mt0, ↓wz_kMt, ↓wz_kMt0, ↓wz_kMt2, ↓wz_app, ↓wz_ext, ↓wz_pop, ↓wz_seqI, ↓wz_kSeqT, ↓wz_kSeqL, ↓wz_seqO, ↓wz_rng1, ↓wz_kRng1, ↓wz_rng2, ↓wz_kRng2, ↓wz_enum, ↓wz_kEnumT, ↓wz_kEnumL, ↓wz_enumO, ↓wz_iterL, ↓wz_kIterL, ↓wz_zip, ↓wz_kZip, ↓wz_new, ↓wz_kNew, ↓wz_lst, ↓wz_kLst, ↓wz_lrg1, ↓wz_kLRg1, ↓wz_tupR1, ↓wz_kTupR1, ↓wz_catVL, ↓wz_kCatVL, ↓wz_kCatVL2, ↓wz_catLV, ↓wz_kCatLV, ↓wz_kCatLV2, ↓wz_catLL, ↓wz_kCatLL, ↓wz_kCatLL2, ↓wz_lstOf, ↓wz_rep, ↓wz_kRep, ↓wz_kRep2, ↓wz_cl, ↓wz_kCL, ↓wz_eLen, ↓wz_eTuple, ↓wz_eAll, ↓wz_eAny, ↓wz_eSum, ↓wz_eMax, ↓wz_eMin, ↓wz_ixNew, ↓wz_kIxL, ↓wz_kIxL2, ↓wz_disp1, ↓wz_kDisp1, ↓wz_kDisp2, ↓wz_sortSet, ↓reduceIte, setAll, wipeD, zAddO, zMulO, kKeyK, kKeyT, zIxO, keyD, keysD, zPutAt, zPutK, zPutT, zPutO, zCutO, zRevO, zLenO, zTyO, zListO, zTupO, zTyMO, zAppO, zExtO, zPopO, kPop, zLstO, zCatO, zCatO2, nat_lt, nat_le, nat_neg, nat_pos, startD, sp1, sp2, sp3, sp4, sp5, sp6, Bool.true_and, Bool.and_true, Bool.false_and, Bool.and_false, Bool.true_or, Bool.or_true, Bool.false_or, Bool.or_false, Bool.not_not, decide_not, nat_inj, nat_zero, Nat.lt_irrefl, Nat.le_refl, ty_int, ty_bl, ty_str, ty_non, ty_tup, mem_int, mem_bool, mem_str, mem_tuple, mem_list, isTy_self, isTy_bool_int, isTy_int_bool, isTy_int_tuple, isTy_int_list, isTy_int_str, isTy_bool_tuple, isTy_bool_list, isTy_bool_str, isTy_str_bool, isTy_str_int, isTy_str_tuple, isTy_str_list, isTy_non_tuple, isTy_non_list, isTy_non_str, isTy_non_int, isTy_non_bool, isTy_tup_list, isTy_tup_int, isTy_tup_str, isTy_tup_bool, isTy_list_tup, isTy_list_int, isTy_list_bool, isTy_list_str, sp1, sp2, sp3, sp4, sp5, sp6, updD_same, updD_updD, List.map_cons, List.map_nil, List.length_cons, List.length_nil, List.set_cons_zero, List.set_cons_succ, List.getElem?_cons_zero, List.getElem?_cons_succ, List.cons_append, List.nil_append, Nat.reduceAdd, Nat.reduceSub, List.replicate, Nat.sub_self, decide_eq_true_eq, Bool.not_eq_true', decide_eq_false_iff_not, decide_true, decide_false, Bool.not_true, Bool.not_false, Bool.false_eq_true, Bool.true_eq_false, if_true, if_false, true_and, and_true, List.isEmpty_nil, List.isEmpty_cons, List.flatten_cons, List.flatten_nil, at_0, at_1, at_2, at_3, at_4, at_5, at_6, at_7, at_m1_1, at_m1_2, at_m1_3, at_m1_4, at_m1_5, at_m1_6, nc_0, nc_1, nc_2, nc_3, nc_4, nc_5, nc_6, nc_7, nc_8, nc_9, nc_10, nc_11, nc_12, len_map, not_true_eq_false, not_false_eq_true, ite_true, ite_false, Int.reduceEq, Int.reduceNe, Int.reduceLT, Int.reduceLE, Nat.reduceEqDiff, Option.some.injEq, true_implies, forall_const, sz_0, sz_1, sz_2, sz_3, sz_4, sz_5, sz_6, sz_7, sz_8, sz_9, sz_10, sz_11, sz_12, sz_13, sz_14, sz_15, sz_16, sz_17, sz_18, sz_19, sz_20, ix_4_1, ix_4_2, ix_4_3, $xs,*])
/-! ### papers of bounds -/
def getO (ds : List (Option Int)) (v : Nat) : Option Int := ds.getD v none
structure ShN (g : Gr) (ks : List Nat) (ds : List (Option Int)) : Prop where
  ring : RingL g ks
  len : ds.length = g.1
  st : getO ds (gE g (headN ks)).b = some 0
  up : ∀ e ∈ g.2, ∀ r, getO ds e.a = some r → ∃ r', getO ds e.b = some r' ∧ r' ≤ r + (e.t : Nat)
  fin : getO ds (gE g (headN ks)).a = some (((tok g ks : Nat) : Int) - ((gE g (headN ks)).t : Nat))
def ShownP (g : Gr) (dE dC dR dD : D) : Prop := ∃ ks ds, ShN g ks ds ∧ dE = eN (headN ks) ∧ dC = .int (tok g ks : Nat) ∧ dR = .tup (ks.map eN) ∧ dD = .tup (ds.map eO)
def sp_proves_bound : DSp := sp5 fun a dE dC dR dD h q _ => ∃ g, a = eG g ∧ WF g ∧ (∃ t, tyD dE h = some t) ∧ (∃ t, tyD dC h = some t) ∧ Vl h dR ∧ Vl h dD ∧ ∀ k : Bool, (k = true ↔ ShownP g dE dC dR dD) → q (.bl k) h
theorem eN_one {a b : Nat} (h : eN a = eN b) : a = b := by unfold eN at h; injection h with h; omega
theorem getO_at {ds : List (Option Int)} {v : Nat} (h : v < ds.length) : atI (ds.map eO) (v : Int) = some (eO (getO ds v)) := atI_nat (by
  unfold getO
  rw [List.getElem?_map, List.getD_eq_getElem?_getD, List.getElem?_eq_getElem h]; rfl)
theorem eqO {o : Option Int} {z : Int} : eqS (eO o) (.int z) = some (decide (o = some z)) := by
  cases o with
  | none => rfl
  | some i =>
    show some (decide (i = z)) = _
    congr 1
    simp
theorem nonO {o : Option Int} : nonD (eO o) = some (decide (o = none)) := by
  cases o <;> rfl
def IsO (d : D) (h : DH) : Prop := d = .non ∨ tyD d h = some "int"
noncomputable instance {d : D} {h : DH} : Decidable (IsO d h) := Classical.propDecidable _
theorem all_O {h : DH} : ∀ {ds : List D}, (∀ d ∈ ds, IsO d h) → ∃ os : List (Option Int), ds = os.map eO
  | [], _ => ⟨[], rfl⟩
  | d :: r, hd => by
    obtain ⟨os, rfl⟩ := all_O fun d h => hd d (List.mem_cons_of_mem _ h)
    rcases hd d List.mem_cons_self with rfl | h
    · exact ⟨none :: os, rfl⟩
    · obtain ⟨i, rfl⟩ := int_ty h
      exact ⟨some i :: os, rfl⟩
theorem isO_eO {o : Option Int} {h : DH} : IsO (eO o) h := by
  cases o with
  | none => exact .inl rfl
  | some i => exact .inr rfl
section
variable {P : Program} {w : World} {K : PySem.W.Frag} {mg : Str → Option Value} {base : Heap} {C_DelayError C_BadNet : Addr}
theorem h_proves_bound (T : Txt K mg C_DelayError C_BadNet) (H_is_integer : Has P w K mg base "is_integer" 2 ["value"] sp_is_integer) (H_is_ring : Has P w K mg base "is_ring" 4 ["graph", "ring"] sp_is_ring) (H_look_at_graph : Has P w K mg base "look_at_graph" 5 ["graph"] sp_look_at_graph) : Has P w K mg base "proves_bound" (6) ["graph", "e", "count", "ring", "distances"] (sp_proves_bound) := by
  refine has_of T.a_proves_bound fun f fd F => okD F sc_proves_bound len5 fun cdv A outer s H E b ds q xx hr tk hsp => ?_
  have hr_is_integer := hr.mono (show 2 ≤ 5 by decide)
  have hr_is_ring := hr.mono (show 4 ≤ 5 by decide)
  have hr_look_at_graph := hr.mono (show 5 ≤ 5 by decide)
  refine ⟨_, (dss_cons (ds_expr (de_callH H_look_at_graph hr_look_at_graph (by rfl) tk (da_cons (de_var (pv 0)) da_nil)))
  (dss_cons (ds_if (dt_w (dw_or (dt_not (dt_tru (de_callH H_is_integer hr_is_integer (by rfl) tk (da_cons (de_var (pv 1)) da_nil)))) (dw_or (dt_lt (de_var (pv 1)) de_int) (dw_or (dt_ge (de_var (pv 1)) (de_cb (pe_callB call_lenU (by rfl) T.m_len bt_len (da_cons (de_ix (hu_of hr) (de_var (pv 0)) de_int (fun _ _ => rfl)) da_nil)) refLen)) (dw_or (dt_not (dt_tru (de_callH H_is_ring hr_is_ring (by rfl) tk (da_cons (de_var (pv 0)) (da_cons (de_var (pv 3)) da_nil))))) (dw_or1 (dt_ne (de_ix (hu_of hr) (de_var (pv 3)) de_int (fun _ _ => rfl)) (de_var (pv 1))))))))) (dss_one (ds_ret de_bl)) dss_nil)
  (dss_cons (ds_if (dt_w (dw_or (dt_not (dt_tru (de_callH H_is_integer hr_is_integer (by rfl) tk (da_cons (de_var (pv 2)) da_nil)))) (dw_or1 (dt_ne (de_var (pv 2)) (de_cl (pe_callB (cr_sum rfl) (by rfl) T.m_sum bt_sum (one_l (dl_lc (own := [("k", 9)]) rfl sc_proves_bound.nd (di_seq (de_var (pv 3))) (blkOk_by (own := [("k", 9)]) (N := ["graph", "e", "count", "ring", "distances", "a", "b", "tokens", "_", "k", "d"]) (sc := defScope st_proves_bound) (by decide +kernel)) (ownG_name (by decide)) (fun _ _ _ _ _ => pg_name (i := 9) sc_proves_bound.nd rfl (Or.inl rfl)) (fun _ _ _ _ _ => dts_nil) (fun _ _ _ _ _ => (de_ix (hu_of hr) (de_ix (hu_of hr) (de_ix (hu_of hr) (de_var (pv 0)) de_int (fun _ _ => rfl)) (de_var (pv 9)) (fun _ _ => rfl)) de_int (fun _ _ => rfl)))))) rlSum))))) (dss_one (ds_ret de_bl)) dss_nil)
  (dss_cons (ds_if (dt_w (dw_or (dt_not (dt_tru (de_cb (pe_callB call_isi (by rfl) T.m_isinstance bt_isinstance (da_cons (de_var (pv 4)) (da_cons (de_ty (by rfl) T.m_tuple bt_tuple) da_nil))) refIsi))) (dw_or1 (dt_ne (de_cb (pe_callB call_lenU (by rfl) T.m_len bt_len (da_cons (de_var (pv 4)) da_nil)) refLen) (de_ix (hu_of hr) (de_var (pv 0)) de_int (fun _ _ => rfl)))))) (dss_one (ds_ret de_bl)) dss_nil)
  (dss_cons (ds_if (dt_w (dw_or (dt_not (dt_tru (de_cl (pe_callB (cr_all rfl) (by rfl) T.m_all bt_all (one_l (dl_lc (own := [("d", 10)]) rfl sc_proves_bound.nd (di_seq (de_var (pv 4))) (blkOk_by (own := [("d", 10)]) (N := ["graph", "e", "count", "ring", "distances", "a", "b", "tokens", "_", "k", "d"]) (sc := defScope st_proves_bound) (by decide +kernel)) (ownG_name (by decide)) (fun _ _ _ _ _ => pg_name (i := 10) sc_proves_bound.nd rfl (Or.inl rfl)) (fun _ _ _ _ _ => dts_nil) (fun _ _ _ _ _ => (de_or (de_isN (de_var (pv 10)) de_non) (de_one (de_callH H_is_integer hr_is_integer (by rfl) takes_none (da_cons (de_var (pv 10)) da_nil)))))))) rlAll))) (dw_or1 (dt_ne (de_ix (hu_of hr) (de_var (pv 4)) (de_ix (hu_of hr) (de_ix (hu_of hr) (de_ix (hu_of hr) (de_var (pv 0)) de_int (fun _ _ => rfl)) (de_var (pv 1)) (fun _ _ => rfl)) de_int (fun _ _ => rfl)) (fun _ _ => rfl)) de_int)))) (dss_one (ds_ret de_bl)) dss_nil)
  (dss_cons (ds_for (passes_of rfl) rfl (di_seq (de_ix (hu_of hr) (de_var (pv 0)) de_int (fun _ _ => rfl))) (pg_tup (by rfl) (pgs_cons (pg_name (i := 5) sc_proves_bound.nd rfl (Or.inl rfl)) (pgs_cons (pg_name (i := 6) sc_proves_bound.nd rfl (Or.inl rfl)) (pgs_cons (pg_name (i := 7) sc_proves_bound.nd rfl (Or.inl rfl)) (pgs_cons (pg_name (i := 8) sc_proves_bound.nd rfl (Or.inl rfl)) pgs_nil))))) (refG_tup [5, 6, 7, 8]) (dss_one (ds_if (dt_w (dw_and (dt_notN (de_ix (hu_of hr) (de_var (pv 4)) (de_var (pv 5)) (fun _ _ => rfl)) de_non) (dw_and1 (dt_w (dw_or (dt_isN (de_ix (hu_of hr) (de_var (pv 4)) (de_var (pv 6)) (fun _ _ => rfl)) de_non) (dw_or1 (dt_gt (de_ix (hu_of hr) (de_var (pv 4)) (de_var (pv 6)) (fun _ _ => rfl)) (de_add (de_ix (hu_of hr) (de_var (pv 4)) (de_var (pv 5)) (fun _ _ => rfl)) (de_var (pv 7)))))))))) (dss_one (ds_ret de_bl)) dss_nil)))
  (dss_one (ds_ret (de_eq (de_ix (hu_of hr) (de_var (pv 4)) (de_ix (hu_of hr) (de_ix (hu_of hr) (de_ix (hu_of hr) (de_var (pv 0)) de_int (fun _ _ => rfl)) (de_var (pv 1)) (fun _ _ => rfl)) de_int (fun _ _ => rfl)) (fun _ _ => rfl)) (de_sub (de_var (pv 2)) (de_ix (hu_of hr) (de_ix (hu_of hr) (de_ix (hu_of hr) (de_var (pv 0)) de_int (fun _ _ => rfl)) (de_var (pv 1)) (fun _ _ => rfl)) de_int (fun _ _ => rfl)))))))))))), ?_⟩
  obtain ⟨d0, d1, d2, d3, d4, rfl, hsp⟩ := inv5 hsp
  obtain ⟨g, rfl, hw, ⟨tE, hE⟩, ⟨tC, hC⟩, vR, vD, hq⟩ := hsp
  have hm := hw.m
  have no : ∀ h : DH, h = b → ¬ ShownP g d1 d2 d3 d4 → retQ q (.bl false) h := fun h e n => ⟨b, e ▸ Sub.refl, hq false (no_iff n)⟩
  walk_at "w"
  refine ⟨g, rfl, hw, ?_⟩
  walk_at "w"
  refine ⟨tE, hE, ?_⟩
  by_cases cE : tE = "int"
  case neg =>
    simp! only [cE]
    refine no _ rfl fun ⟨ks, ds, s, e, _⟩ => cE ?_
    subst e
    exact (Option.some.inj hE).symm
  subst cE
  obtain ⟨zE, rfl⟩ := int_ty hE
  by_cases c1 : zE < 0
  · simp! only [c1]
    refine no _ rfl fun ⟨ks, ds, s, e, _⟩ => ?_
    unfold eN at e; injection e with e; omega
  obtain ⟨e0, rfl⟩ : ∃ k : Nat, zE = (k : Int) := ⟨zE.toNat, by omega⟩
  unfold eG
  by_cases c2 : g.2.length ≤ e0
  · simp! only [c2]
    refine no _ rfl fun ⟨ks, ds, s, e, _⟩ => ?_
    have := s.ring.2.1.lt _ (List.mem_of_getElem? (headN_get s.ring.1))
    unfold eN at e; injection e with e; omega
  have he0 : e0 < g.2.length := by omega
  simp! only [c2]
  refine ⟨g, rfl, hw, vR, fun k hk => ?_⟩
  cases k with
  | false =>
    walk_at "w"
    refine no _ rfl fun ⟨ks, ds, s, e, _, e3, _⟩ => ?_
    exact nomatch hk.mpr ⟨ks, e3, s.ring⟩
  | true =>
    obtain ⟨ks, rfl, ring⟩ := hk.mp rfl
    have h0 : atI (ks.map eN) 0 = some (.int (headN ks : Nat)) := atI_nat (j := 0) (by rw [List.getElem?_map, headN_get ring.1]; rfl)
    have uniq : ∀ {ls : List Nat}, D.tup (ks.map eN) = .tup (ls.map eN) → ks = ls := fun e => eN_inj (tup_inj e)
    by_cases c3 : headN ks = e0
    case neg =>
      simp! only [h0, c3]
      refine no _ rfl fun ⟨ls, ds, s, e, _, e3, _⟩ => c3 ?_
      rw [uniq e3]
      exact (eN_one e).symm
    subst c3
    simp! only [h0]
    refine ⟨tC, hC, ?_⟩
    by_cases cC : tC = "int"
    case neg =>
      simp! only [cC]
      refine no _ rfl fun ⟨ls, ds, s, _, e, _⟩ => cC ?_
      subst e
      exact (Option.some.inj hC).symm
    subst cC
    obtain ⟨zC, rfl⟩ := int_ty hC
    walk_at "w"
    refine lcEM ks eN (G := fun _ => True) (fun k => .int ((gE g k).t : Nat)) (fun r hr => by walk_at "w"; exact hr) trivial (accMax_big (by
      cases vR with
      | tup hl _ => rw [List.length_map] at hl; exact hl
      | oth h1 h2 _ => exact absurd (Option.some.inj h1).symm h2)) (fun k hk Y hY => ?_) ?_
    · have g1 := atE (ring.2.1.lt k hk)
      simp only [show eN k = D.int ((k : Nat) : Int) from rfl]
      simp! only [g1, eE_eq (gE g k)]
      exact hY
    walk_at "w"
    refine ⟨ks.map fun k => ((gE g k).t : Int), by rw [List.map_map]; rfl, ?_⟩
    rw [sum_N fun k => (gE g k).t]
    by_cases c4 : zC = ((ks.map fun k => (gE g k).t).sum : Nat)
    case neg =>
      simp! only [c4]
      refine no _ rfl fun ⟨ls, ds, s, _, e, e3, _⟩ => c4 ?_
      rw [uniq e3]
      injection e
    subst c4
    walk_at "w"
    generalize htk : (ks.map fun k => (gE g k).t).sum = tk at *
    have htk' : tok g ks = tk := htk
    cases vD with
    | oth ht hne hkk =>
      simp! only [ht, isTy_tupO hkk hne]
      refine no _ rfl fun ⟨ls, ds, s, _, _, _, e⟩ => hne ?_
      subst e
      exact (Option.some.inj ht).symm
    | tup hl hds =>
      rename_i ds
      by_cases hlen : ds.length = g.1
      case neg =>
        simp! only [hlen]
        refine no _ rfl fun ⟨ls, os, s, _, _, _, e⟩ => hlen ?_
        rw [tup_inj e, List.length_map]
        exact s.len
      simp! only [hlen]
      refine lcM (xs := ds) (G := fun _ => True) (fun d => .bl (decide (IsO d b))) (fun r hr => by walk_at "w"; exact hr) trivial (Nat.lt_of_le_of_lt hl (by decide)) (fun d hd Y hY => ?_) ?_
      · obtain ⟨t, ht⟩ := hds d hd
        by_cases cn : d = .non
        · subst cn
          walk_at "w"
          rw [decide_eq_true (show IsO .non b from .inl rfl)] at hY
          exact hY
        · have nd : nonD d = some false := by
            cases d <;> first | rfl | exact absurd rfl cn | (unfold tyD at ht; cases ht)
          simp! only [nd]
          refine ⟨t, ht, ?_⟩
          have : IsO d b ↔ t = "int" := ⟨fun h => h.elim (fun z => absurd z cn) fun z => Option.some.inj (ht.symm.trans z), fun h => .inr (h ▸ ht)⟩
          rw [decide_eq_decide.mpr this] at hY
          exact hY
      walk_at "w"
      refine ⟨ds.map fun d => decide (IsO d b), by rw [List.map_map]; rfl, ?_⟩
      by_cases hall : ∀ d ∈ ds, IsO d b
      case neg =>
        have e : (ds.map fun d => decide (IsO d b)).all id = false := by
          rw [Bool.eq_false_iff]
          intro z
          rw [List.all_map, List.all_eq_true] at z
          exact hall fun d hd => of_decide_eq_true (z d hd)
        rw [e]
        walk_at "w"
        refine no _ rfl fun ⟨ls, os, s, _, _, _, e⟩ => hall fun d hd => ?_
        rw [tup_inj e] at hd
        obtain ⟨o, _, rfl⟩ := List.mem_map.mp hd
        exact isO_eO
      have eall : (ds.map fun d => decide (IsO d b)).all id = true := by
        rw [List.all_map, List.all_eq_true]
        exact fun d hd => decide_eq_true (hall d hd)
      rw [eall]
      clear eall
      obtain ⟨os, rfl⟩ := all_O hall
      rw [List.length_map] at hlen
      have hm0 := List.mem_of_getElem? (gE_get he0)
      have ho0 := hw.es _ hm0
      have uniqO : ∀ {ls : List (Option Int)}, D.tup (os.map eO) = .tup (ls.map eO) → os = ls := fun e => eO_inj (tup_inj e)
      have ga := getO_at (ds := os) (v := (gE g (headN ks)).a) (by rw [hlen]; exact ho0.a)
      have gb := getO_at (ds := os) (v := (gE g (headN ks)).b) (by rw [hlen]; exact ho0.b)
      by_cases c5 : getO os (gE g (headN ks)).b = some 0
      case neg =>
        simp! only [atE he0, eE_eq (gE g (headN ks)), gb, eqO, c5]
        refine no _ rfl fun ⟨ls, os', s, _, _, e3, e4⟩ => c5 ?_
        rw [uniq e3, uniqO e4]
        exact s.st
      simp! only [atE he0, eE_eq (gE g (headN ks)), gb, eqO, c5]
      refine forE g.2 eE (G := fun _ => True) (fun i s h => ∃ x5 x6 x7 x8, s = [some (.tup [.int (g.1 : Nat), .tup (g.2.map eE)]), some (.int (headN ks : Nat)), some (.int (tk : Nat)), some (.tup (ks.map eN)), some (.tup (os.map eO)), x5, x6, x7, x8, none, none] ∧ h = b ∧ ∀ j, j < i → ∀ r, getO os (gE g j).a = some r → ∃ r', getO os (gE g j).b = some r' ∧ r' ≤ r + ((gE g j).t : Nat)) (fun r hr => by walk_at "w"; exact hr) ⟨none, none, none, none, rfl, rfl, fun j hj => absurd hj (Nat.not_lt_zero _)⟩ (fun _ _ _ _ _ => trivial) ?_ ?_
      · rintro i e s h he ⟨x5, x6, x7, x8, rfl, rfl, hj⟩
        have hem := List.mem_of_getElem? he
        have ho := hw.es _ hem
        have ga := getO_at (ds := os) (v := e.a) (by rw [hlen]; exact ho.a)
        have gb := getO_at (ds := os) (v := e.b) (by rw [hlen]; exact ho.b)
        have next : (∀ r, getO os e.a = some r → ∃ r', getO os e.b = some r' ∧ r' ≤ r + (e.t : Nat)) → ∀ j, j < i + 1 → ∀ r, getO os (gE g j).a = some r → ∃ r', getO os (gE g j).b = some r' ∧ r' ≤ r + ((gE g j).t : Nat) := fun h0 j hj' => by
          rcases Nat.lt_or_eq_of_le (Nat.le_of_lt_succ hj') with h1 | h1
          · exact hj j h1
          · subst h1
            rw [gE_eq he]; exact h0
        have stop : ¬ (∀ r, getO os e.a = some r → ∃ r', getO os e.b = some r' ∧ r' ≤ r + (e.t : Nat)) → retQ q (.bl false) h := fun h0 => no _ rfl fun ⟨ls, os', s, _, _, _, e4⟩ => h0 (by rw [uniqO e4]; exact s.up e hem)
        simp only [eE_eq e]
        cases ha : getO os e.a with
        | none =>
          rw [ha] at ga
          simp! only [ga, eO]
          exact ⟨_, _, _, _, rfl, next fun r hr => by rw [ha] at hr; cases hr⟩
        | some ra =>
          rw [ha] at ga
          cases hb : getO os e.b with
          | none =>
            rw [hb] at gb
            simp! only [ga, gb, eO]
            refine stop fun h0 => ?_
            obtain ⟨r', h1, _⟩ := h0 ra ha
            rw [hb] at h1; cases h1
          | some rb =>
            rw [hb] at gb
            by_cases c6 : ra + (e.t : Nat) < rb
            · simp! only [ga, gb, eO, c6]
              refine stop fun h0 => ?_
              obtain ⟨r', h1, h2⟩ := h0 ra ha
              rw [hb] at h1; cases h1
              omega
            · simp! only [ga, gb, eO, c6]
              exact ⟨_, _, _, _, rfl, next fun r hr => by
                rw [ha] at hr; cases hr
                exact ⟨rb, hb, by omega⟩⟩
      · rintro s h ⟨x5, x6, x7, x8, rfl, rfl, hj⟩
        simp! only [atE he0, eE_eq (gE g (headN ks)), ga, eqO]
        refine ⟨_, Sub.refl, hq _ (dec_iff ⟨fun h1 => ?_, fun ⟨ls, os', s, _, _, e3, e4⟩ => ?_⟩)⟩
        · refine ⟨ks, os, ⟨ring, hlen, c5, fun e he r hr => ?_, by rw [h1, htk']⟩, rfl, by rw [htk'], rfl, rfl⟩
          obtain ⟨j, hjj⟩ := List.mem_iff_getElem?.mp he
          have := hj j (List.getElem?_eq_some_iff.mp hjj).1
          rw [gE_eq hjj] at this
          exact this r hr
        · have := s.fin
          rw [← uniq e3, ← uniqO e4, htk'] at this
          exact this
theorem h__law_shown (T : Txt K mg C_DelayError C_BadNet) (H__law_is_whole : Has P w K mg base "_law_is_whole" 2 ["value"] sp_is_integer) (H__law_tokens : Has P w K mg base "_law_tokens" 2 ["graph", "ring"] sp__law_tokens) (H__law_is_ring : Has P w K mg base "_law_is_ring" 4 ["graph", "ring"] sp_is_ring) : Has P w K mg base "_law_shown" (5) ["graph", "e", "count", "ring", "distances"] (sp_proves_bound) := by
  refine has_of T.a__law_shown fun f fd F => okD F sc__law_shown len5 fun cdv A outer s H E b ds q xx hr tk hsp => ?_
  have hr__law_is_whole := hr.mono (show 2 ≤ 4 by decide)
  have hr__law_tokens := hr.mono (show 2 ≤ 4 by decide)
  have hr__law_is_ring := hr.mono (show 4 ≤ 4 by decide)
  refine ⟨_, (dss_cons (ds_if (dt_w (dw_or (dt_not (dt_tru (de_callH H__law_is_whole hr__law_is_whole (by rfl) tk (da_cons (de_var (pv 1)) da_nil)))) (dw_or (dt_lt (de_var (pv 1)) de_int) (dw_or (dt_ge (de_var (pv 1)) (de_cb (pe_callB call_lenU (by rfl) T.m_len bt_len (da_cons (de_ix (hu_of hr) (de_var (pv 0)) de_int (fun _ _ => rfl)) da_nil)) refLen)) (dw_or (dt_not (dt_tru (de_callH H__law_is_ring hr__law_is_ring (by rfl) tk (da_cons (de_var (pv 0)) (da_cons (de_var (pv 3)) da_nil))))) (dw_or1 (dt_ne (de_ix (hu_of hr) (de_var (pv 3)) de_int (fun _ _ => rfl)) (de_var (pv 1))))))))) (dss_one (ds_ret de_bl)) dss_nil)
  (dss_cons (ds_if (dt_w (dw_or (dt_not (dt_tru (de_callH H__law_is_whole hr__law_is_whole (by rfl) tk (da_cons (de_var (pv 2)) da_nil)))) (dw_or1 (dt_ne (de_var (pv 2)) (de_callH H__law_tokens hr__law_tokens (by rfl) tk (da_cons (de_var (pv 0)) (da_cons (de_var (pv 3)) da_nil))))))) (dss_one (ds_ret de_bl)) dss_nil)
  (dss_cons (ds_if (dt_w (dw_or (dt_not (dt_tru (de_cb (pe_callB call_isi (by rfl) T.m_isinstance bt_isinstance (da_cons (de_var (pv 4)) (da_cons (de_ty (by rfl) T.m_tuple bt_tuple) da_nil))) refIsi))) (dw_or1 (dt_ne (de_cb (pe_callB call_lenU (by rfl) T.m_len bt_len (da_cons (de_var (pv 4)) da_nil)) refLen) (de_ix (hu_of hr) (de_var (pv 0)) de_int (fun _ _ => rfl)))))) (dss_one (ds_ret de_bl)) dss_nil)
  (dss_cons (ds_if (dt_w (dw_or (dt_gt (de_cl (pe_callB call_lenU (by rfl) T.m_len bt_len (one_l (dl_lc (own := [("d", 9)]) rfl sc__law_shown.nd (di_seq (de_var (pv 4))) (blkOk_by (own := [("d", 9)]) (N := ["graph", "e", "count", "ring", "distances", "a", "b", "tokens", "delay", "d"]) (sc := defScope st__law_shown) (by decide +kernel)) (ownG_name (by decide)) (fun _ _ _ _ _ => pg_name (i := 9) sc__law_shown.nd rfl (Or.inl rfl)) (fun _ _ _ _ _ => dts_one (dt_w (dw_and (dt_notN (de_var (pv 9)) de_non) (dw_and1 (dt_not (dt_tru (de_callH H__law_is_whole hr__law_is_whole (by rfl) takes_none (da_cons (de_var (pv 9)) da_nil)))))))) (fun _ _ _ _ _ => (de_var (pv 9)))))) rlLen) de_int) (dw_or1 (dt_ne (de_ix (hu_of hr) (de_var (pv 4)) (de_ix (hu_of hr) (de_ix (hu_of hr) (de_ix (hu_of hr) (de_var (pv 0)) de_int (fun _ _ => rfl)) (de_var (pv 1)) (fun _ _ => rfl)) de_int (fun _ _ => rfl)) (fun _ _ => rfl)) de_int)))) (dss_one (ds_ret de_bl)) dss_nil)
  (dss_cons (ds_for (passes_of rfl) rfl (di_seq (de_ix (hu_of hr) (de_var (pv 0)) de_int (fun _ _ => rfl))) (pg_tup (by rfl) (pgs_cons (pg_name (i := 5) sc__law_shown.nd rfl (Or.inl rfl)) (pgs_cons (pg_name (i := 6) sc__law_shown.nd rfl (Or.inl rfl)) (pgs_cons (pg_name (i := 7) sc__law_shown.nd rfl (Or.inl rfl)) (pgs_cons (pg_name (i := 8) sc__law_shown.nd rfl (Or.inl rfl)) pgs_nil))))) (refG_tup [5, 6, 7, 8]) (dss_one (ds_if (dt_w (dw_and (dt_notN (de_ix (hu_of hr) (de_var (pv 4)) (de_var (pv 5)) (fun _ _ => rfl)) de_non) (dw_and1 (dt_w (dw_or (dt_isN (de_ix (hu_of hr) (de_var (pv 4)) (de_var (pv 6)) (fun _ _ => rfl)) de_non) (dw_or1 (dt_gt (de_ix (hu_of hr) (de_var (pv 4)) (de_var (pv 6)) (fun _ _ => rfl)) (de_add (de_ix (hu_of hr) (de_var (pv 4)) (de_var (pv 5)) (fun _ _ => rfl)) (de_var (pv 7)))))))))) (dss_one (ds_ret de_bl)) dss_nil)))
  (dss_one (ds_ret (de_eq (de_ix (hu_of hr) (de_var (pv 4)) (de_ix (hu_of hr) (de_ix (hu_of hr) (de_ix (hu_of hr) (de_var (pv 0)) de_int (fun _ _ => rfl)) (de_var (pv 1)) (fun _ _ => rfl)) de_int (fun _ _ => rfl)) (fun _ _ => rfl)) (de_sub (de_var (pv 2)) (de_ix (hu_of hr) (de_ix (hu_of hr) (de_ix (hu_of hr) (de_var (pv 0)) de_int (fun _ _ => rfl)) (de_var (pv 1)) (fun _ _ => rfl)) de_int (fun _ _ => rfl))))))))))), ?_⟩
  obtain ⟨d0, d1, d2, d3, d4, rfl, hsp⟩ := inv5 hsp
  obtain ⟨g, rfl, hw, ⟨tE, hE⟩, ⟨tC, hC⟩, vR, vD, hq⟩ := hsp
  have hm := hw.m
  have no : ∀ h : DH, h = b → ¬ ShownP g d1 d2 d3 d4 → retQ q (.bl false) h := fun h e n => ⟨b, e ▸ Sub.refl, hq false (no_iff n)⟩
  walk_at "w"
  refine ⟨tE, hE, ?_⟩
  by_cases cE : tE = "int"
  case neg =>
    simp! only [cE]
    refine no _ rfl fun ⟨ks, ds, s, e, _⟩ => cE ?_
    subst e
    exact (Option.some.inj hE).symm
  subst cE
  obtain ⟨zE, rfl⟩ := int_ty hE
  by_cases c1 : zE < 0
  · simp! only [c1]
    refine no _ rfl fun ⟨ks, ds, s, e, _⟩ => ?_
    unfold eN at e; injection e with e; omega
  obtain ⟨e0, rfl⟩ : ∃ k : Nat, zE = (k : Int) := ⟨zE.toNat, by omega⟩
  unfold eG
  by_cases c2 : g.2.length ≤ e0
  · simp! only [c2]
    refine no _ rfl fun ⟨ks, ds, s, e, _⟩ => ?_
    have := s.ring.2.1.lt _ (List.mem_of_getElem? (headN_get s.ring.1))
    unfold eN at e; injection e with e; omega
  have he0 : e0 < g.2.length := by omega
  simp! only [c2]
  refine ⟨g, rfl, hw, vR, fun k hk => ?_⟩
  cases k with
  | false =>
    walk_at "w"
    refine no _ rfl fun ⟨ks, ds, s, e, _, e3, _⟩ => ?_
    exact nomatch hk.mpr ⟨ks, e3, s.ring⟩
  | true =>
    obtain ⟨ks, rfl, ring⟩ := hk.mp rfl
    have h0 : atI (ks.map eN) 0 = some (.int (headN ks : Nat)) := atI_nat (j := 0) (by rw [List.getElem?_map, headN_get ring.1]; rfl)
    have uniq : ∀ {ls : List Nat}, D.tup (ks.map eN) = .tup (ls.map eN) → ks = ls := fun e => eN_inj (tup_inj e)
    by_cases c3 : headN ks = e0
    case neg =>
      simp! only [h0, c3]
      refine no _ rfl fun ⟨ls, ds, s, e, _, e3, _⟩ => c3 ?_
      rw [uniq e3]
      exact (eN_one e).symm
    subst c3
    simp! only [h0]
    refine ⟨tC, hC, ?_⟩
    by_cases cC : tC = "int"
    case neg =>
      simp! only [cC]
      refine no _ rfl fun ⟨ls, ds, s, _, e, _⟩ => cC ?_
      subst e
      exact (Option.some.inj hC).symm
    subst cC
    obtain ⟨zC, rfl⟩ := int_ty hC
    walk_at "w"
    have ringlen : ks.length ≤ 100000 := by
      cases vR with
      | tup hl _ => rw [List.length_map] at hl; exact hl
      | oth h1 h2 _ => exact absurd (Option.some.inj h1).symm h2
    refine ⟨g, ks, rfl, rfl, hw, ring.2.1.lt, ringlen, ?_⟩
    unfold tok
    by_cases c4 : zC = ((ks.map fun k => (gE g k).t).sum : Nat)
    case neg =>
      simp! only [c4]
      refine no _ rfl fun ⟨ls, ds, s, _, e, e3, _⟩ => c4 ?_
      rw [uniq e3]
      injection e
    subst c4
    walk_at "w"
    generalize htk : (ks.map fun k => (gE g k).t).sum = tk at *
    have htk' : tok g ks = tk := htk
    cases vD with
    | oth ht hne hkk =>
      simp! only [ht, isTy_tupO hkk hne]
      refine no _ rfl fun ⟨ls, ds, s, _, _, _, e⟩ => hne ?_
      subst e
      exact (Option.some.inj ht).symm
    | tup hl hds =>
      rename_i ds
      by_cases hlen : ds.length = g.1
      case neg =>
        simp! only [hlen]
        refine no _ rfl fun ⟨ls, os, s, _, _, _, e⟩ => hlen ?_
        rw [tup_inj e, List.length_map]
        exact s.len
      simp! only [hlen]
      refine lcI (xs := ds) (G := fun _ => True) (fun d => !decide (IsO d b)) (fun d => d) (fun r hr => by walk_at "w"; exact hr) trivial (Nat.lt_of_le_of_lt hl (by decide)) (fun d hd Y Z hY hZ => ?_) ?_
      · obtain ⟨t, ht⟩ := hds d hd
        by_cases cn : d = .non
        · subst cn
          walk_at "w"
          exact hZ (by rw [decide_eq_true (show IsO .non b from .inl rfl)]; rfl)
        · have nd : nonD d = some false := by
            cases d <;> first | rfl | exact absurd rfl cn | (unfold tyD at ht; cases ht)
          simp! only [nd]
          refine ⟨t, ht, ?_⟩
          by_cases ct : t = "int"
          · simp! only [ct]
            exact hZ (by rw [decide_eq_true (show IsO d b from .inr (ct ▸ ht))]; rfl)
          · simp! only [ct]
            refine hY ?_
            rw [decide_eq_false (fun z : IsO d b => z.elim cn fun z => ct (Option.some.inj (ht.symm.trans z)))]; rfl
      walk_at "w"
      by_cases hall : ∀ d ∈ ds, IsO d b
      case neg =>
        have pos : (0 : Int) < ((ds.filter fun d => !decide (IsO d b)).length : Nat) := by
          obtain ⟨d, hd, h1⟩ : ∃ d ∈ ds, ¬ IsO d b := Classical.byContradiction fun no => hall fun d hd => Classical.byContradiction fun h1 => no ⟨d, hd, h1⟩
          have := List.length_pos_of_mem (List.mem_filter.mpr ⟨hd, by rw [decide_eq_false h1]; rfl⟩ : d ∈ ds.filter fun d => !decide (IsO d b))
          omega
        generalize (ds.filter fun d => !decide (IsO d b)).length = fl at pos ⊢
        have pos' : 0 < fl := by omega
        simp! only [pos', pos]
        refine no _ rfl fun ⟨ls, os, s, _, _, _, e⟩ => hall fun d hd => ?_
        rw [tup_inj e] at hd
        obtain ⟨o, _, rfl⟩ := List.mem_map.mp hd
        exact isO_eO
      have zero : (ds.filter fun d => !decide (IsO d b)).length = 0 := by
        rw [List.length_eq_zero_iff, List.filter_eq_nil_iff]
        exact fun d hd z => by rw [decide_eq_true (hall d hd)] at z; cases z
      rw [zero]
      clear zero
      obtain ⟨os, rfl⟩ := all_O hall
      rw [List.length_map] at hlen
      have hm0 := List.mem_of_getElem? (gE_get he0)
      have ho0 := hw.es _ hm0
      have uniqO : ∀ {ls : List (Option Int)}, D.tup (os.map eO) = .tup (ls.map eO) → os = ls := fun e => eO_inj (tup_inj e)
      have ga := getO_at (ds := os) (v := (gE g (headN ks)).a) (by rw [hlen]; exact ho0.a)
      have gb := getO_at (ds := os) (v := (gE g (headN ks)).b) (by rw [hlen]; exact ho0.b)
      by_cases c5 : getO os (gE g (headN ks)).b = some 0
      case neg =>
        simp! only [atE he0, eE_eq (gE g (headN ks)), gb, eqO, c5]
        refine no _ rfl fun ⟨ls, os', s, _, _, e3, e4⟩ => c5 ?_
        rw [uniq e3, uniqO e4]
        exact s.st
      simp! only [atE he0, eE_eq (gE g (headN ks)), gb, eqO, c5]
      refine forE g.2 eE (G := fun _ => True) (fun i s h => ∃ x5 x6 x7 x8, s = [some (.tup [.int (g.1 : Nat), .tup (g.2.map eE)]), some (.int (headN ks : Nat)), some (.int (tk : Nat)), some (.tup (ks.map eN)), some (.tup (os.map eO)), x5, x6, x7, x8, none] ∧ h = b ∧ ∀ j, j < i → ∀ r, getO os (gE g j).a = some r → ∃ r', getO os (gE g j).b = some r' ∧ r' ≤ r + ((gE g j).t : Nat)) (fun r hr => by walk_at "w"; exact hr) ⟨none, none, none, none, rfl, rfl, fun j hj => absurd hj (Nat.not_lt_zero _)⟩ (fun _ _ _ _ _ => trivial) ?_ ?_
      · rintro i e s h he ⟨x5, x6, x7, x8, rfl, rfl, hj⟩
        have hem := List.mem_of_getElem? he
        have ho := hw.es _ hem
        have ga := getO_at (ds := os) (v := e.a) (by rw [hlen]; exact ho.a)
        have gb := getO_at (ds := os) (v := e.b) (by rw [hlen]; exact ho.b)
        have next : (∀ r, getO os e.a = some r → ∃ r', getO os e.b = some r' ∧ r' ≤ r + (e.t : Nat)) → ∀ j, j < i + 1 → ∀ r, getO os (gE g j).a = some r → ∃ r', getO os (gE g j).b = some r' ∧ r' ≤ r + ((gE g j).t : Nat) := fun h0 j hj' => by
          rcases Nat.lt_or_eq_of_le (Nat.le_of_lt_succ hj') with h1 | h1
          · exact hj j h1
          · subst h1
            rw [gE_eq he]; exact h0
        have stop : ¬ (∀ r, getO os e.a = some r → ∃ r', getO os e.b = some r' ∧ r' ≤ r + (e.t : Nat)) → retQ q (.bl false) h := fun h0 => no _ rfl fun ⟨ls, os', s, _, _, _, e4⟩ => h0 (by rw [uniqO e4]; exact s.up e hem)
        simp only [eE_eq e]
        cases ha : getO os e.a with
        | none =>
          rw [ha] at ga
          simp! only [ga, eO]
          exact ⟨_, _, _, _, rfl, next fun r hr => by rw [ha] at hr; cases hr⟩
        | some ra =>
          rw [ha] at ga
          cases hb : getO os e.b with
          | none =>
            rw [hb] at gb
            simp! only [ga, gb, eO]
            refine stop fun h0 => ?_
            obtain ⟨r', h1, _⟩ := h0 ra ha
            rw [hb] at h1; cases h1
          | some rb =>
            rw [hb] at gb
            by_cases c6 : ra + (e.t : Nat) < rb
            · simp! only [ga, gb, eO, c6]
              refine stop fun h0 => ?_
              obtain ⟨r', h1, h2⟩ := h0 ra ha
              rw [hb] at h1; cases h1
              omega
            · simp! only [ga, gb, eO, c6]
              exact ⟨_, _, _, _, rfl, next fun r hr => by
                rw [ha] at hr; cases hr
                exact ⟨rb, hb, by omega⟩⟩
      · rintro s h ⟨x5, x6, x7, x8, rfl, rfl, hj⟩
        simp! only [atE he0, eE_eq (gE g (headN ks)), ga, eqO]
        refine ⟨_, Sub.refl, hq _ (dec_iff ⟨fun h1 => ?_, fun ⟨ls, os', s, _, _, e3, e4⟩ => ?_⟩)⟩
        · refine ⟨ks, os, ⟨ring, hlen, c5, fun e he r hr => ?_, by rw [h1, htk']⟩, rfl, by rw [htk'], rfl, rfl⟩
          obtain ⟨j, hjj⟩ := List.mem_iff_getElem?.mp he
          have := hj j (List.getElem?_eq_some_iff.mp hjj).1
          rw [gE_eq hjj] at this
          exact this r hr
        · have := s.fin
          rw [← uniq e3, ← uniqO e4, htk'] at this
          exact this
end
end K

set_option Elab.async false
set_option linter.all false
set_option maxRecDepth 100000
set_option maxHeartbeats 4000000
set_option pp.maxSteps 700
namespace K
open PySem PySem.Spec PyProof.Rows L2 DL
local macro_rules | `(tactic| walk_at "w") => `(tactic| try simp only [↓eSeq_nx, ↓eSeq_rt, ↓eSeq_bk, ↓eSeq_ct, ↓wz_seq, ↓wz_next, ↓wz_break, ↓wz_cont, ↓wz_drop, ↓wz_kDrop, ↓wz_ret, ↓wz_retN, ↓wz_ifS, ↓wz_kIfT, ↓wz_kIfF, ↓wz_asg, ↓wz_kAsg, ↓wz_kAsg2, ↓wz_pName, ↓wz_pTup, ↓wz_par, ↓wz_kPar, ↓wz_aug, ↓wz_kAug, ↓wz_kAug2, ↓wz_kAug3, ↓wz_set, ↓wz_kSet1, ↓wz_kSet2, ↓wz_kSet3, ↓wz_kSet4, ↓wz_raise, ↓wz_try, ↓eOut_nx, ↓eOut_rt, ↓wz_tryAs, ↓wz_var, ↓wz_kVar, ↓wz_c, ↓wz_op, ↓wz_kOp1, ↓wz_kOp2, ↓wz_un, ↓wz_kUn, ↓wz_nil, ↓wz_cons, ↓wz_kCons1, ↓wz_kCons2, ↓wz_cb, ↓wz_kCB, ↓wz_call, ↓wz_kCall, ↓wz_kW, ↓wz_tru, ↓wz_kTruNon, ↓wz_kTruBl, ↓wz_kTruInt, ↓wz_kTruTup, ↓wz_kTruL, ↓wz_truL, ↓wz_truK, ↓wz_and, ↓wz_kAndT, ↓wz_kAndF, ↓wz_or, ↓wz_kOrT, ↓wz_kOrF, ↓wz_not, ↓wz_kNot, ↓wz_if, ↓wz_kIfVT, ↓wz_kIfVF, ↓wz_andV, ↓wz_kAndVT, ↓wz_kAndVF, ↓wz_orV, ↓wz_kOrVT, ↓wz_kOrVF, ↓wz_notV, ↓wz_kNotV, ↓wz_test, ↓wz_kTest, ↓wz_yes, ↓wz_II, ↓wz_I0, ↓wz_I1, ↓wz_addI, ↓wz_addS, ↓wz_addT, ↓wz_addL, ↓wz_mulI, ↓wz_mulL, ↓wz_eqS, ↓wz_neS, ↓wz_kEq, ↓wz_kNe, ↓wz_eq_ii, ↓wz_eq_ss, ↓wz_eq_bb, ↓wz_eq_nn, ↓wz_eq_ni, ↓wz_eq_in, ↓wz_eq_nb, ↓wz_eq_bn, ↓wz_eq_ns, ↓wz_eq_sn, ↓wz_eq_is, ↓wz_eq_si, ↓wz_eq_bs, ↓wz_eq_sb, ↓wz_isN, ↓wz_notN, ↓wz_non_n, ↓wz_non_b, ↓wz_non_i, ↓wz_non_s, ↓wz_non_t, ↓wz_non_l, ↓wz_kAtD, ↓wz_ixT, ↓wz_ixL, ↓wz_put, ↓wz_noPart, ↓wz_part, ↓wz_kPart, ↓wz_sl, ↓wz_kSl1, ↓wz_kSl2, ↓wz_kSl3, ↓wz_cutT, ↓wz_cutS, ↓wz_cutL, ↓wz_rev, ↓wz_kRev, ↓wz_tup, ↓wz_kTup, ↓wz_newK, ↓wz_newT, ↓wz_len, ↓wz_kLen, ↓wz_lenT, ↓wz_lenL, ↓wz_abs, ↓wz_intI, ↓wz_intB, ↓wz_ty_n, ↓wz_ty_b, ↓wz_ty_i, ↓wz_ty_s, ↓wz_ty_t, ↓wz_ty_l, ↓wz_isi, ↓wz_kIsi, ↓wz_listT, ↓wz_listV, ↓wz_listL, ↓wz_tupT, ↓wz_tupL, ↓wz_all, ↓wz_any, ↓wz_sum, ↓wz_maxL, ↓wz_minL, ↓wz_maxI, ↓wz_minI, ↓wz_tyM, ↓wz_tyMS, ↓wz_mt, ↓wz_mt0, ↓wz_kMt, ↓wz_kMt0, ↓wz_kMt2, ↓wz_app, ↓wz_ext, ↓wz_pop, ↓wz_seqI, ↓wz_kSeqT, ↓wz_kSeqL, ↓wz_seqO, ↓wz_rng1, ↓wz_kRng1, ↓wz_rng2, ↓wz_kRng2, ↓wz_enum, ↓wz_kEnumT, ↓wz_kEnumL, ↓wz_enumO, ↓wz_iterL, ↓wz_kIterL, ↓wz_zip, ↓wz_kZip, ↓wz_new, ↓wz_kNew, ↓wz_lst, ↓wz_kLst, ↓wz_lrg1, ↓wz_kLRg1, ↓wz_tupR1, ↓wz_kTupR1, ↓wz_catVL, ↓wz_kCatVL, ↓wz_kCatVL2, ↓wz_catLV, ↓wz_kCatLV, ↓wz_kCatLV2, ↓wz_catLL, ↓wz_kCatLL, ↓wz_kCatLL2, ↓wz_lstOf, ↓wz_rep, ↓wz_kRep, ↓wz_kRep2, ↓wz_cl, ↓wz_kCL, ↓wz_eLen, ↓wz_eTuple, ↓wz_eAll, ↓wz_eAny, ↓wz_eSum, ↓wz_eMax, ↓wz_eMin, ↓wz_ixNew, ↓wz_kIxL, ↓wz_kIxL2, ↓wz_disp1, ↓wz_kDisp1, ↓wz_kDisp2, ↓wz_sortSet, ↓reduceIte, setAll, wipeD, zAddO, zMulO, kKeyK, kKeyT, zIxO, keyD, keysD, zPutAt, zPutK, zPutT, zPutO, zCutO, zRevO, zLenO, zTyO, zListO, zTupO, zTyMO, zAppO, zExtO, zPopO, kPop, zLstO, zCatO, zCatO2, nat_lt, nat_le, nat_neg, nat_pos, startD, sp1, sp2, sp3, sp4, sp5, sp6, Bool.true_and, Bool.and_true, Bool.false_and, Bool.and_false, Bool.true_or, Bool.or_true, Bool.false_or, Bool.or_false, Bool.not_not, decide_not, nat_inj, nat_zero, Nat.lt_irrefl, Nat.le_refl, ty_int, ty_bl, ty_str, ty_non, ty_tup, mem_int, mem_bool, mem_str, mem_tuple, mem_list, isTy_self, isTy_bool_int, isTy_int_bool, isTy_int_tuple, isTy_int_list, isTy_int_str, isTy_bool_tuple, isTy_bool_list, isTy_bool_str, isTy_str_bool, isTy_str_int, isTy_str_tuple, isTy_str_list, isTy_non_tuple, isTy_non_list, isTy_non_str, isTy_non_int, isTy_non_bool, isTy_tup_list, isTy_tup_int, isTy_tup_str, isTy_tup_bool, isTy_list_tup, isTy_list_int, isTy_list_bool, isTy_list_str, sp1, sp2, sp3, sp4, sp5, sp6, updD_same, updD_updD, List.map_cons, List.map_nil, List.length_cons, List.length_nil, List.set_cons_zero, List.set_cons_succ, List.getElem?_cons_zero, List.getElem?_cons_succ, List.cons_append, List.nil_append, Nat.reduceAdd, Nat.reduceSub, List.replicate, Nat.sub_self, decide_eq_true_eq, Bool.not_eq_true', decide_eq_false_iff_not, decide_true, decide_false, Bool.not_true, Bool.not_false, Bool.false_eq_true, Bool.true_eq_false, if_true, if_false, true_and, and_true, List.isEmpty_nil, List.isEmpty_cons, List.flatten_cons, List.flatten_nil, at_0, at_1, at_2, at_3, at_4, at_5, at_6, at_7, at_m1_1, at_m1_2, at_m1_3, at_m1_4, at_m1_5, at_m1_6, nc_0, nc_1, nc_2, nc_3, nc_4, nc_5, nc_6, nc_7, nc_8, nc_9, nc_10, nc_11, nc_12, len_map, not_true_eq_false, not_false_eq_true, ite_true, ite_false, Int.reduceEq, Int.reduceNe, Int.reduceLT, Int.reduceLE, Nat.reduceEqDiff, Option.some.injEq, true_implies, forall_const, sz_0, sz_1, sz_2, sz_3, sz_4, sz_5, sz_6, sz_7, sz_8, sz_9, sz_10, sz_11, sz_12, sz_13, sz_14, sz_15, sz_16, sz_17, sz_18, sz_19, sz_20, ix_4_1, ix_4_2, ix_4_3])
local macro_rules | `(tactic| simp! only [$xs,*]) => `(tactic| try simp only [↓eSeq_nx, ↓eSeq_rt, ↓eSeq_bk, ↓eSeq_ct, ↓wz_seq, ↓wz_next, ↓wz_break, ↓wz_cont, ↓wz_drop, ↓wz_kDrop, ↓wz_ret, ↓wz_retN, ↓wz_ifS, ↓wz_kIfT, ↓wz_kIfF, ↓wz_asg, ↓wz_kAsg, ↓wz_kAsg2, ↓wz_pName, ↓wz_pTup, ↓wz_par, ↓wz_kPar, ↓wz_aug, ↓wz_kAug, ↓wz_kAug2, ↓wz_kAug3, ↓wz_set, ↓wz_kSet1, ↓wz_kSet2, ↓wz_kSet3, ↓wz_kSet4, ↓wz_raise, ↓wz_try, ↓eOut_nx, ↓eOut_rt, ↓wz_tryAs, ↓wz_var, ↓wz_kVar, ↓wz_c, ↓wz_op, ↓wz_kOp1, ↓wz_kOp2, ↓wz_un, ↓wz_kUn, ↓wz_nil, ↓wz_cons, ↓wz_kCons1, ↓wz_kCons2, ↓wz_cb, ↓wz_kCB, ↓wz_call, ↓wz_kCall, ↓wz_kW, ↓wz_tru, ↓wz_kTruNon, ↓wz_kTruBl, ↓wz_kTruInt, ↓wz_kTruTup, ↓wz_kTruL, ↓wz_truL, ↓wz_truK, ↓wz_and, ↓wz_kAndT, ↓wz_kAndF, ↓wz_or, ↓wz_kOrT, ↓wz_kOrF, ↓wz_not, ↓wz_kNot, ↓wz_if, ↓wz_kIfVT, ↓wz_kIfVF, ↓wz_andV, ↓wz_kAndVT, ↓wz_kAndVF, ↓wz_orV, ↓wz_kOrVT, ↓wz_kOrVF, ↓wz_notV, ↓wz_kNotV, ↓wz_test, ↓wz_kTest, ↓wz_yes, ↓wz_II, ↓wz_I0, ↓wz_I1, ↓wz_addI, ↓wz_addS, ↓wz_addT, ↓wz_addL, ↓wz_mulI, ↓wz_mulL, ↓wz_eqS, ↓wz_neS, ↓wz_kEq, ↓wz_kNe, ↓wz_eq_ii, ↓wz_eq_ss, ↓wz_eq_bb, ↓wz_eq_nn, ↓wz_eq_ni, ↓wz_eq_in, ↓wz_eq_nb, ↓wz_eq_bn, ↓wz_eq_ns, ↓wz_eq_sn, ↓wz_eq_is, ↓wz_eq_si, ↓wz_eq_bs, ↓wz_eq_sb, ↓wz_isN, ↓wz_notN, ↓wz_non_n, ↓wz_non_b, ↓wz_non_i, ↓wz_non_s, ↓wz_non_t, ↓wz_non_l, ↓wz_kAtD, ↓wz_ixT, ↓wz_ixL, ↓wz_put, ↓wz_noPart, ↓wz_part, ↓wz_kPart, ↓wz_sl, ↓wz_kSl1, ↓wz_kSl2, ↓wz_kSl3, ↓wz_cutT, ↓wz_cutS, ↓wz_cutL, ↓wz_rev, ↓wz_kRev, ↓wz_tup, ↓wz_kTup, ↓wz_newK, ↓wz_newT, ↓wz_len, ↓wz_kLen, ↓wz_lenT, ↓wz_lenL, ↓wz_abs, ↓wz_intI, ↓wz_intB, ↓wz_ty_n, ↓wz_ty_b, ↓wz_ty_i, ↓wz_ty_s, ↓wz_ty_t, ↓wz_ty_l, ↓wz_isi, ↓wz_kIsi, ↓wz_listT, ↓wz_listV, ↓wz_listL, ↓wz_tupT, ↓wz_tupL, ↓wz_all, ↓wz_any, ↓wz_sum, ↓wz_maxL, ↓wz_minL, ↓wz_maxI, ↓wz_minI, ↓wz_tyM, ↓wz_tyMS, ↓wz_mt, ↓wz_mt0, ↓wz_kMt, ↓wz_kMt0, ↓wz_kMt2, ↓wz_app, ↓wz_ext, ↓wz_pop, ↓wz_seqI, ↓wz_kSeqT, ↓wz_kSeqL, ↓wz_seqO, ↓wz_rng1, ↓wz_kRng1, ↓wz_rng2, ↓wz_kRng2, ↓wz_enum, ↓wz_kEnumT, ↓wz_kEnumL, ↓wz_enumO, ↓wz_iterL, ↓wz_kIterL, ↓wz_zip, ↓wz_kZip, ↓wz_new, ↓wz_kNew, ↓wz_lst, ↓wz_kLst, ↓wz_lrg1, ↓wz_kLRg1, ↓wz_tupR1, ↓wz_kTupR1, ↓wz_catVL, ↓wz_kCatVL, ↓wz_kCatVL2, ↓wz_catLV, ↓wz_kCatLV, ↓wz_kCatLV2, ↓wz_catLL, ↓wz_kCatLL, ↓wz_kCatLL2, ↓wz_lstOf, ↓wz_rep, ↓wz_kRep, ↓wz_kRep2, ↓wz_cl, ↓wz_kCL, ↓wz_eLen, ↓wz_eTuple, ↓wz_eAll, ↓wz_eAny, ↓wz_eSum, ↓wz_eMax, ↓wz_eMin, ↓wz_ixNew, ↓wz_kIxL, ↓wz_kIxL2, ↓wz_disp1, ↓wz_kDisp1, ↓wz_kDisp2, ↓wz_sortSet, ↓reduceIte, setAll, wipeD, zAddO, zMulO, kKeyK, kKeyT, zIxO, keyD, keysD, zPutAt, zPutK, zPutT, zPutO, zCutO, zRevO, zLenO, zTyO, zListO, zTupO, zTyMO, zAppO, zExtO, zPopO, kPop, zLstO, zCatO, zCatO2, nat_lt, nat_le, nat_neg, nat_pos, startD, sp1, sp2, sp3, sp4, sp5, sp6, Bool.true_and, Bool.and_true, Bool.false_and, Bool.and_false, Bool.true_or, Bool.or_true, Bool.false_or, Bool.or_false, Bool.not_not, decide_not, nat_inj, nat_zero, Nat.lt_irrefl, Nat.le_refl, ty_int, ty_bl, ty_str, ty_non, ty_tup, mem_int, mem_bool, mem_str, mem_tuple, mem_list, isTy_self, isTy_bool_int, isTy_int_bool, isTy_int_tuple, isTy_int_list, isTy_int_str, isTy_bool_tuple, isTy_bool_list, isTy_bool_str, isTy_str_bool, isTy_str_int, isTy_str_tuple, isTy_str_list, isTy_non_tuple, isTy_non_list, isTy_non_str, isTy_non_int, isTy_non_bool, isTy_tup_list, isTy_tup_int, isTy_tup_str, isTy_tup_bool, isTy_list_tup, isTy_list_int, isTy_list_bool, isTy_list_str, sp1, sp2, sp3, sp4, sp5, sp6, updD_same, updD_updD, List.map_cons, List.map_nil, List.length_cons, List.length_nil, List.set_cons_zero, List.set_cons_succ, List.getElem?_cons_zero, List.getElem?_cons_succ, List.cons_append, List.nil_append, Nat.reduceAdd, Nat.reduceSub, List.replicate, Nat.sub_self, decide_eq_true_eq, Bool.not_eq_true', decide_eq_false_iff_not, decide_true, decide_false, Bool.not_true, Bool.not_false, Bool.false_eq_true, Bool.true_eq_false, if_true, if_false, true_and, and_true, List.isEmpty_nil, List.isEmpty_cons, List.flatten_cons, List.flatten_nil, at_0, at_1, at_2, at_3, at_4, at_5, at_6, at_7, at_m1_1, at_m1_2, at_m1_3, at_m1_4, at_m1_5, at_m1_6, nc_0, nc_1, nc_2, nc_3, nc_4, nc_5, nc_6, nc_7, nc_8, nc_9, nc_10, nc_11, nc_12, len_map, not_true_eq_false, not_false_eq_true, ite_true, ite_false, Int.reduceEq, Int.reduceNe, Int.reduceLT, Int.reduceLE, Nat.reduceEqDiff, Option.some.injEq, true_implies, forall_const, sz_0, sz_1, sz_2, sz_3, sz_4, sz_5, sz_6, sz_7, sz_8, sz_9, sz_10, sz_11, sz_12, sz_13, sz_14, sz_15, sz_16, sz_17, sz_18, sz_19, sz_20, ix_4_1, ix_4_2, ix_4_3, $xs,*])
/-- a value that the law asks about: nothing in it changes but that lists stay lists -/
inductive Odd (h : DH) : D → Prop
  | tup {ds} : ds.length ≤ 100000 → (∀ d ∈ ds, ∀ h', ∃ t, tyD d h' = some t) → Odd h (.tup ds)
  | val {d t} : (∀ h', tyD d h' = some t) → t ≠ "tuple" → t ∈ kTys → Odd h d
  | lst {p xs} : h p = some (.lst xs) → Odd h (.loc p)
theorem Odd.vl {h : DH} {d : D} (o : Odd h d) : Vl h d := by
  cases o with
  | tup hl hd => exact .tup hl fun d h1 => hd d h1 h
  | val h1 h2 h3 => exact .oth (h1 h) h2 h3
  | lst e => exact .oth (t := "list") (by unfold tyD; simp only [e]) (by decide) (by decide)
theorem Odd.ty {h : DH} {d : D} (o : Odd h d) : ∃ t, tyD d h = some t := by
  cases o with
  | tup hl hd => exact ⟨_, rfl⟩
  | val h1 h2 h3 => exact ⟨_, h1 h⟩
  | lst e => exact ⟨"list", by unfold tyD; simp only [e]⟩
theorem Odd.mono {h h' : DH} {d : D} (o : Odd h d) (k : ∀ p xs, h p = some (.lst xs) → ∃ ys, h' p = some (.lst ys)) : Odd h' d := by
  cases o with
  | tup hl hd => exact .tup hl hd
  | val h1 h2 h3 => exact .val h1 h2 h3
  | lst e => obtain ⟨ys, e'⟩ := k _ _ e; exact .lst e'
theorem Odd.int {h : DH} {i : Int} : Odd h (.int i) := .val (t := "int") (fun _ => rfl) (by decide) (by decide)
theorem Odd.bl {h : DH} {i : Bool} : Odd h (.bl i) := .val (t := "bool") (fun _ => rfl) (by decide) (by decide)
theorem Odd.non {h : DH} : Odd h .non := .val (t := "NoneType") (fun _ => rfl) (by decide) (by decide)
/-- what never changes -/
def Fix (d : D) : Prop := ∀ h', ∃ t, tyD d h' = some t
theorem fixN {l : List Nat} : ∀ d ∈ l.map eN, Fix d := fun d hd h' => by
  obtain ⟨i, _, rfl⟩ := List.mem_map.mp hd
  exact ⟨_, rfl⟩
theorem fixO {l : List (Option Int)} : ∀ d ∈ l.map eO, Fix d := fun d hd h' => by
  obtain ⟨i, _, rfl⟩ := List.mem_map.mp hd
  cases i <;> exact ⟨_, rfl⟩
theorem Dw.keep {b h : DH} {dl sl : Addr} {ns : List Int} (z : Dw b dl sl ns h) {p : Addr} {o : DO} (hp : p ≠ dl) (e : b p = some o) : h p = some o := by
  obtain ⟨_, _, d, _, _, s⟩ := z
  exact s p o (by rw [updD_ne hp]; exact e)
def sp__law_bent : DSp := sp3 fun a pp ed h q _ => ∃ (dl sl : Addr) (ns : List Int) (d : Dr) (e c : Int) (R S : List D), a = .loc dl ∧ pp = .tup [.int e, .int c, .tup R, .tup S] ∧ (∃ E : List D, ed = .tup E ∧ E.length ≤ 100000 ∧ ∀ d ∈ E, Fix d) ∧ 0 < R.length ∧ R.length ≤ 50000 ∧ 0 < S.length ∧ S.length ≤ 50000 ∧ (∀ d ∈ R, Fix d) ∧ (∀ d ∈ S, Fix d) ∧ IsDr h dl sl ns d ∧
  ∀ p h' x0 x1 x2 x3, Dw h dl sl ns h' → h' p = some (.lst [x0, x1, x2, x3]) → p ≠ dl → Odd h' x0 → Odd h' x1 → Odd h' x2 → Odd h' x3 → q (.loc p) h'
def sp__law_refused : DSp := sp2 fun a d h q _ => ∃ g, a = eG g ∧ WF g ∧ g.1 ≤ 20 ∧ g.2.length ≤ 60 ∧ (∀ e ∈ g.2, e.t ≤ 7) ∧ (NoEdge g d h ∨ ((∃ z : Int, d = .int z) ∧ ∀ rk, ¬ LiveG g rk)) ∧ q (.bl true) h
section
variable {P : Program} {w : World} {K : PySem.W.Frag} {mg : Str → Option Value} {base : Heap} {C_DelayError C_BadNet : Addr}
theorem h__law_refused (T : Txt K mg C_DelayError C_BadNet) (H_bound : Has P w K mg base "bound" 6 ["graph", "e"] (sp_bound C_BadNet)) (EX:ErrF K C_BadNet C_DelayError) : Has P w K mg base "_law_refused" (7) ["graph", "e"] (sp__law_refused) := by
  refine has_of T.a__law_refused fun f fd F => okD F sc__law_refused len2 fun cdv A outer s H E b ds q xx hr tk hsp => ?_
  have hr_bound := hr.mono (show 6 ≤ 6 by decide)
  refine ⟨_, (dss_cons (ds_tryAs (i := 2) rfl rfl sc__law_refused.nd rfl rfl ⟨by rfl, by decide, .inl T.g_BadNet⟩ tk (fun _ _ _ _ _ tk2 hp2 => (dss_one (ds_expr (de_callH H_bound hr_bound (by rfl) tk2 (da_cons (de_var (pv 0)) (da_cons (de_var (pv 1)) da_nil)))))) (fun _ _ _ _ _ hz hf => (dss_one (ds_ret (de_isE hz hf (by rfl) T.m_isinstance (da_cons (de_var (pv 2)) (da_cons (de_cls (by rfl) T.g_DelayError) da_nil)))))))
  (dss_one (ds_ret de_bl))), ?_⟩
  obtain ⟨d0, d1, rfl, hsp⟩ := inv2 hsp
  obtain ⟨g, rfl, hw, hn, hm, h7, bad, hq⟩ := hsp
  walk_at "w"
  refine ⟨g, rfl, hw, hn, hm, h7, .inl ⟨bad, ?_⟩⟩
  refine ⟨true, EX.bb, fun _ a _ => ?_, fun z => nomatch z⟩
  walk_at "w"
  exact ⟨C_DelayError, C_BadNet, rfl, rfl, rfl, EX.exc, true, EX.bd, b, Sub.refl, hq⟩
theorem h__law_bent (T : Txt K mg C_DelayError C_BadNet) (H__law_draw : Has P w K mg base "_law_draw" 2 ["draws", "limit"] sp__law_draw) : Has P w K mg base "_law_bent" (3) ["draws", "paper", "edges"] (sp__law_bent) := by
  refine has_of T.a__law_bent fun f fd F => okD F sc__law_bent len3 fun cdv A outer s H E b ds q xx hr tk hsp => ?_
  have hr__law_draw := hr.mono (show 2 ≤ 2 by decide)
  refine ⟨_, (dss_cons (ds_set (i := 3) sc__law_bent.nd rfl (Or.inl rfl) (de_cb (pe_callTy (call_listU rfl) (by rfl) T.m_list bt_list (da_cons (de_var (pv 1)) da_nil)) refList))
  (dss_cons (ds_set (i := 4) sc__law_bent.nd rfl (Or.inl rfl) (de_callH H__law_draw hr__law_draw (by rfl) tk (da_cons (de_var (pv 0)) (da_cons de_int da_nil))))
  (dss_cons (ds_if (dt_lt (de_var (pv 4)) de_int) (dss_one (ds_setItem (de_ixL (dl_lst (da_cons (de_add (de_ix (hu_of hr) (de_var (pv 1)) (de_var (pv 4)) (fun _ _ => rfl)) de_int) (da_cons (de_sub (de_ix (hu_of hr) (de_var (pv 1)) (de_var (pv 4)) (fun _ _ => rfl)) de_int) (da_cons de_bl (da_cons de_non (da_cons (de_tup da_nil) (da_cons (de_var (pv 2)) da_nil))))))) (de_callH H__law_draw hr__law_draw (by rfl) tk (da_cons (de_var (pv 0)) (da_cons de_int da_nil))) (fun _ _ => rfl)) (de_var (pv 3)) (de_var (pv 4)) (set_u (hu_of hr)) refPut)) (dss_cons (ds_set (i := 5) sc__law_bent.nd rfl (Or.inl rfl) (de_ix (hu_of hr) (de_var (pv 1)) (de_var (pv 4)) (fun _ _ => rfl)))
    (dss_cons (ds_set (i := 6) sc__law_bent.nd rfl (Or.inl rfl) (de_callH H__law_draw hr__law_draw (by rfl) tk (da_cons (de_var (pv 0)) (da_cons (de_cb (pe_callB call_lenU (by rfl) T.m_len bt_len (da_cons (de_var (pv 5)) da_nil)) refLen) da_nil))))
    (dss_cons (ds_set (i := 7) sc__law_bent.nd rfl (Or.inl rfl) (de_ixL (dl_lst (da_cons de_non (da_cons de_int (da_cons de_int (da_cons de_int (da_cons de_bl (da_cons (de_neg de_int) da_nil))))))) (de_callH H__law_draw hr__law_draw (by rfl) tk (da_cons (de_var (pv 0)) (da_cons de_int da_nil))) (fun _ _ => rfl)))
    (dss_one (ds_setItem (de_ixL (dl_lst (da_cons (de_add (de_add (de_slice (de_var (pv 5)) do_none (do_some (de_var (pv 6)))) (de_tup (da_cons (de_var (pv 7)) da_nil))) (de_slice (de_var (pv 5)) (do_some (de_add (de_var (pv 6)) de_int)) do_none)) (da_cons (de_add (de_slice (de_var (pv 5)) (do_some de_int) do_none) (de_slice (de_var (pv 5)) do_none (do_some de_int))) (da_cons (de_add (de_slice (de_var (pv 5)) do_none (do_some (de_var (pv 6)))) (de_slice (de_var (pv 5)) (do_some (de_add (de_var (pv 6)) de_int)) do_none)) (da_cons (de_cb (pe_callTy (call_listU rfl) (by rfl) T.m_list bt_list (da_cons (de_var (pv 5)) da_nil)) refList) (da_cons (de_add (de_var (pv 5)) (de_var (pv 5))) (da_cons de_non da_nil))))))) (de_callH H__law_draw hr__law_draw (by rfl) tk (da_cons (de_var (pv 0)) (da_cons de_int da_nil))) (fun _ _ => rfl)) (de_var (pv 3)) (de_var (pv 4)) (set_u (hu_of hr)) refPut))))))
  (dss_one (ds_ret (de_var (pv 3))))))), ?_⟩
  obtain ⟨d0, d1, d2, rfl, hsp⟩ := inv3 hsp
  obtain ⟨dl, sl, ns, d, e, c, R, S, rfl, rfl, ⟨E, rfl, hE, fE⟩, r0, r1, s0, s1, fR, fS, dr, hq⟩ := hsp
  have dw := Dw.init dr
  walk_at "w"
  intro pt hpt
  have npt : pt ≠ dl := (dw.free hpt).2
  have dw0 := dw.new (o := .lst [D.int e, D.int c, D.tup R, D.tup S]) hpt
  refine draw_use dw0 4 (by decide) (by decide) fun j H hj dw1 keep => ?_
  have lt : H pt = some (.lst [D.int e, D.int c, D.tup R, D.tup S]) := by rw [keep _ npt, updD_same]
  simp only [show eN j = D.int ((j : Nat) : Int) from rfl]
  -- the rows of a list, in general
  have row : ∀ (X : List D), 0 < X.length → X.length ≤ 50000 → (∀ d ∈ X, Fix d) → ∀ (k : Nat) (od : D), k < X.length → Fix od → (∀ d ∈ X.take k ++ [od] ++ X.drop (k + 1), Fix d) ∧ (∀ d ∈ X.drop 1 ++ X.take 1, Fix d) ∧ (∀ d ∈ X.take k ++ X.drop (k + 1), Fix d) ∧ (∀ d ∈ X ++ X, Fix d) := fun X _ _ fX k od _ fo => by
    have ft : ∀ n, ∀ d ∈ X.take n, Fix d := fun n d hd => fX d (List.mem_of_mem_take hd)
    have fd : ∀ n, ∀ d ∈ X.drop n, Fix d := fun n d hd => fX d (List.mem_of_mem_drop hd)
    refine ⟨fun d hd => ?_, fun d hd => ?_, fun d hd => ?_, fun d hd => ?_⟩
    · rcases List.mem_append.mp hd with hd | hd
      · rcases List.mem_append.mp hd with hd | hd
        · exact ft _ d hd
        · have : d = od := by simpa using hd
          rw [this]; exact fo
      · exact fd _ d hd
    · exact (List.mem_append.mp hd).elim (fd _ d) (ft _ d)
    · exact (List.mem_append.mp hd).elim (ft _ d) (fd _ d)
    · exact (List.mem_append.mp hd).elim (fX d) (fX d)
  have small : ∀ (i : Int) (x : D), (∀ h' : DH, Odd h' x) → True := fun _ _ _ => trivial
  have c6 : ∀ i, i < 6 → ∀ a0 a1 a2 a3 a4 a5 : D, ∃ x, atI [a0, a1, a2, a3, a4, a5] ((i : Nat) : Int) = some x ∧ (x = a0 ∨ x = a1 ∨ x = a2 ∨ x = a3 ∨ x = a4 ∨ x = a5) := fun i hi a0 a1 a2 a3 a4 a5 => by
    match i, hi with
    | 0, _ => exact ⟨a0, rfl, .inl rfl⟩
    | 1, _ => exact ⟨a1, rfl, .inr (.inl rfl)⟩
    | 2, _ => exact ⟨a2, rfl, .inr (.inr (.inl rfl))⟩
    | 3, _ => exact ⟨a3, rfl, .inr (.inr (.inr (.inl rfl)))⟩
    | 4, _ => exact ⟨a4, rfl, .inr (.inr (.inr (.inr (.inl rfl))))⟩
    | 5, _ => exact ⟨a5, rfl, .inr (.inr (.inr (.inr (.inr rfl))))⟩
  have fixT : ∀ {h' : DH} {X : List D}, X.length ≤ 100000 → (∀ d ∈ X, Fix d) → Odd h' (.tup X) := fun h1 h2 => .tup h1 h2
  have oR : ∀ h' : DH, Odd h' (.tup R) := fun h' => fixT (by omega) fR
  have oS : ∀ h' : DH, Odd h' (.tup S) := fun h' => fixT (by omega) fS
  match j, hj with
  | 0, _ =>
    simp! only [lt]
    refine draw_use dw1 6 (by decide) (by decide) fun i H2 hi dw2 keep2 => ?_
    have lt2 : H2 pt = some (.lst [D.int e, D.int c, D.tup R, D.tup S]) := by rw [keep2 _ npt, lt]
    obtain ⟨x, ex, hx⟩ := c6 i hi (D.int (e + 1)) (D.int (e - 1)) (D.bl true) D.non (D.tup []) (D.tup E)
    have ox : ∀ h' : DH, Odd h' x := fun h' => by
      rcases hx with rfl | rfl | rfl | rfl | rfl | rfl
      · exact .int
      · exact .int
      · exact .bl
      · exact .non
      · exact fixT (Nat.zero_le _) fun d hd => by cases hd
      · exact fixT hE fE
    simp only [show eN i = D.int ((i : Nat) : Int) from rfl]
    have ix : ixN 4 0 = some 0 := rfl
    simp! only [ex, lt2, ix]
    exact ⟨_, Sub.refl, hq pt _ _ _ _ _ (dw2.mut (dw.free hpt).1 npt) updD_same npt (ox _) .int (oR _) (oS _)⟩
  | 1, _ =>
    simp! only [lt]
    refine draw_use dw1 6 (by decide) (by decide) fun i H2 hi dw2 keep2 => ?_
    have lt2 : H2 pt = some (.lst [D.int e, D.int c, D.tup R, D.tup S]) := by rw [keep2 _ npt, lt]
    obtain ⟨x, ex, hx⟩ := c6 i hi (D.int (c + 1)) (D.int (c - 1)) (D.bl true) D.non (D.tup []) (D.tup E)
    have ox : ∀ h' : DH, Odd h' x := fun h' => by
      rcases hx with rfl | rfl | rfl | rfl | rfl | rfl
      · exact .int
      · exact .int
      · exact .bl
      · exact .non
      · exact fixT (Nat.zero_le _) fun d hd => by cases hd
      · exact fixT hE fE
    simp only [show eN i = D.int ((i : Nat) : Int) from rfl]
    have ix : ixN 4 1 = some 1 := rfl
    simp! only [ex, lt2, ix]
    exact ⟨_, Sub.refl, hq pt _ _ _ _ _ (dw2.mut (dw.free hpt).1 npt) updD_same npt .int (ox _) (oR _) (oS _)⟩
  | 2, _ =>
    simp! only [lt]
    refine draw_use dw1 R.length r0 (by omega) fun k H2 hk dw2 keep2 => ?_
    simp only [show eN k = D.int ((k : Nat) : Int) from rfl]
    walk_at "w"
    refine draw_use dw2 6 (by decide) (by decide) fun o H3 ho dw3 keep3 => ?_
    obtain ⟨od, eo, hod⟩ := c6 o ho D.non (D.int 0) (D.int 1) (D.int 7) (D.bl true) (D.int (-1))
    have fo : Fix od := by
      rcases hod with rfl | rfl | rfl | rfl | rfl | rfl <;> exact fun _ => ⟨_, rfl⟩
    simp only [show eN o = D.int ((o : Nat) : Int) from rfl]
    have lt3 : H3 pt = some (.lst [D.int e, D.int c, D.tup R, D.tup S]) := by rw [keep3 _ npt, keep2 _ npt, lt]
    have q1 : DL.cutD R none (some (k : Int)) = R.take k := cut_to _ _
    have q2 : DL.cutD R (some ((k : Int) + 1)) none = R.drop (k + 1) := by rw [show (k : Int) + 1 = ((k + 1 : Nat) : Int) by omega, cut_from]
    have q3 : DL.cutD R (some 1) none = R.drop 1 := by rw [show (1 : Int) = ((1 : Nat) : Int) from rfl, cut_from]
    have q4 : DL.cutD R none (some 1) = R.take 1 := by rw [show (1 : Int) = ((1 : Nat) : Int) from rfl, cut_to]
    have t1 : (R.take k).length = k := by rw [List.length_take]; omega
    have t2 : (R.drop (k + 1)).length = R.length - (k + 1) := List.length_drop
    have t3 : (R.drop 1).length = R.length - 1 := List.length_drop
    have t4 : (R.take 1).length ≤ R.length := by rw [List.length_take]; omega
    simp! only [eo, q1, q2, q3, q4, t1, t2, t3]
    have z1 : k + 1 ≤ sizeLine := sz_big (by omega)
    have z2 : k + 1 + (R.length - (k + 1)) ≤ sizeLine := sz_big (by omega)
    have z3 : R.length - 1 + (R.take 1).length ≤ sizeLine := Nat.le_trans (show _ ≤ 200000 by omega) (by decide)
    have z4 : k + (R.length - (k + 1)) ≤ sizeLine := sz_big (by omega)
    have z5 : R.length + R.length ≤ sizeLine := Nat.le_trans (show _ ≤ 200000 by omega) (by decide)
    simp only [List.length_append, List.length_cons, List.length_nil, t1, z1, z2, z3, z4, z5, true_and, Nat.zero_add]
    intro pl hpl
    simp! only [z5]
    have dw4 := dw3.new (o := .lst R) hpl
    have npl : pl ≠ dl := (dw3.free hpl).2
    have n1 : pt ≠ pl := fun z => by rw [← z, lt3] at hpl; cases hpl
    refine draw_use dw4 6 (by decide) (by decide) fun i H5 hi dw5 keep5 => ?_
    have lt5 : H5 pt = some (.lst [D.int e, D.int c, D.tup R, D.tup S]) := by rw [keep5 _ npt, updD_ne n1, lt3]
    have ll5 : H5 pl = some (.lst R) := by rw [keep5 _ npl, updD_same]
    obtain ⟨x, ex, hx⟩ := c6 i hi (D.tup (R.take k ++ [od] ++ R.drop (k + 1))) (D.tup (R.drop 1 ++ R.take 1)) (D.tup (R.take k ++ R.drop (k + 1))) (D.loc pl) (D.tup (R ++ R)) D.non
    obtain ⟨f1, f2, f3, f4⟩ := row R r0 r1 fR k od hk fo
    have ox : Odd (updD H5 pt (.lst [D.int e, D.int c, x, D.tup S])) x := by
      rcases hx with rfl | rfl | rfl | rfl | rfl | rfl
      · exact fixT (by simp only [List.length_append, t1, t2, List.length_cons, List.length_nil]; omega) f1
      · exact fixT (by simp only [List.length_append, t3]; omega) f2
      · exact fixT (by simp only [List.length_append, t1, t2]; omega) f3
      · exact .lst (xs := R) (by rw [updD_ne n1.symm, ll5])
      · exact fixT (by rw [List.length_append]; omega) f4
      · exact .non
    simp only [show eN i = D.int ((i : Nat) : Int) from rfl]
    have ix : ixN 4 2 = some 2 := rfl
    simp! only [ex, lt5, ix]
    exact ⟨_, Sub.refl, hq pt _ _ _ _ _ (dw5.mut (dw.free hpt).1 npt) updD_same npt .int .int ox (oS _)⟩
  | 3, _ =>
    simp! only [lt]
    refine draw_use dw1 S.length s0 (by omega) fun k H2 hk dw2 keep2 => ?_
    simp only [show eN k = D.int ((k : Nat) : Int) from rfl]
    walk_at "w"
    refine draw_use dw2 6 (by decide) (by decide) fun o H3 ho dw3 keep3 => ?_
    obtain ⟨od, eo, hod⟩ := c6 o ho D.non (D.int 0) (D.int 1) (D.int 7) (D.bl true) (D.int (-1))
    have fo : Fix od := by
      rcases hod with rfl | rfl | rfl | rfl | rfl | rfl <;> exact fun _ => ⟨_, rfl⟩
    simp only [show eN o = D.int ((o : Nat) : Int) from rfl]
    have lt3 : H3 pt = some (.lst [D.int e, D.int c, D.tup R, D.tup S]) := by rw [keep3 _ npt, keep2 _ npt, lt]
    have q1 : DL.cutD S none (some (k : Int)) = S.take k := cut_to _ _
    have q2 : DL.cutD S (some ((k : Int) + 1)) none = S.drop (k + 1) := by rw [show (k : Int) + 1 = ((k + 1 : Nat) : Int) by omega, cut_from]
    have q3 : DL.cutD S (some 1) none = S.drop 1 := by rw [show (1 : Int) = ((1 : Nat) : Int) from rfl, cut_from]
    have q4 : DL.cutD S none (some 1) = S.take 1 := by rw [show (1 : Int) = ((1 : Nat) : Int) from rfl, cut_to]
    have t1 : (S.take k).length = k := by rw [List.length_take]; omega
    have t2 : (S.drop (k + 1)).length = S.length - (k + 1) := List.length_drop
    have t3 : (S.drop 1).length = S.length - 1 := List.length_drop
    have t4 : (S.take 1).length ≤ S.length := by rw [List.length_take]; omega
    simp! only [eo, q1, q2, q3, q4, t1, t2, t3]
    have z1 : k + 1 ≤ sizeLine := sz_big (by omega)
    have z2 : k + 1 + (S.length - (k + 1)) ≤ sizeLine := sz_big (by omega)
    have z3 : S.length - 1 + (S.take 1).length ≤ sizeLine := Nat.le_trans (show _ ≤ 200000 by omega) (by decide)
    have z4 : k + (S.length - (k + 1)) ≤ sizeLine := sz_big (by omega)
    have z5 : S.length + S.length ≤ sizeLine := Nat.le_trans (show _ ≤ 200000 by omega) (by decide)
    simp only [List.length_append, List.length_cons, List.length_nil, t1, z1, z2, z3, z4, z5, true_and, Nat.zero_add]
    intro pl hpl
    simp! only [z5]
    have dw4 := dw3.new (o := .lst S) hpl
    have npl : pl ≠ dl := (dw3.free hpl).2
    have n1 : pt ≠ pl := fun z => by rw [← z, lt3] at hpl; cases hpl
    refine draw_use dw4 6 (by decide) (by decide) fun i H5 hi dw5 keep5 => ?_
    have lt5 : H5 pt = some (.lst [D.int e, D.int c, D.tup R, D.tup S]) := by rw [keep5 _ npt, updD_ne n1, lt3]
    have ll5 : H5 pl = some (.lst S) := by rw [keep5 _ npl, updD_same]
    obtain ⟨x, ex, hx⟩ := c6 i hi (D.tup (S.take k ++ [od] ++ S.drop (k + 1))) (D.tup (S.drop 1 ++ S.take 1)) (D.tup (S.take k ++ S.drop (k + 1))) (D.loc pl) (D.tup (S ++ S)) D.non
    obtain ⟨f1, f2, f3, f4⟩ := row S s0 s1 fS k od hk fo
    have ox : Odd (updD H5 pt (.lst [D.int e, D.int c, D.tup R, x])) x := by
      rcases hx with rfl | rfl | rfl | rfl | rfl | rfl
      · exact fixT (by simp only [List.length_append, t1, t2, List.length_cons, List.length_nil]; omega) f1
      · exact fixT (by simp only [List.length_append, t3]; omega) f2
      · exact fixT (by simp only [List.length_append, t1, t2]; omega) f3
      · exact .lst (xs := S) (by rw [updD_ne n1.symm, ll5])
      · exact fixT (by rw [List.length_append]; omega) f4
      · exact .non
    simp only [show eN i = D.int ((i : Nat) : Int) from rfl]
    have ix : ixN 4 3 = some 3 := rfl
    simp! only [ex, lt5, ix]
    exact ⟨_, Sub.refl, hq pt _ _ _ _ _ (dw5.mut (dw.free hpt).1 npt) updD_same npt .int .int (oR _) ox⟩
end
end K

set_option Elab.async false
set_option linter.all false
set_option maxRecDepth 100000
set_option maxHeartbeats 4000000
set_option pp.maxSteps 700
namespace K
open PySem PySem.Spec PyProof.Rows L2 DL
local macro_rules | `(tactic| walk_at "w") => `(tactic| try simp only [↓eSeq_nx, ↓eSeq_rt, ↓eSeq_bk, ↓eSeq_ct, ↓wz_seq, ↓wz_next, ↓wz_break, ↓wz_cont, ↓wz_drop, ↓wz_kDrop, ↓wz_ret, ↓wz_retN, ↓wz_ifS, ↓wz_kIfT, ↓wz_kIfF, ↓wz_asg, ↓wz_kAsg, ↓wz_kAsg2, ↓wz_pName, ↓wz_pTup, ↓wz_par, ↓wz_kPar, ↓wz_aug, ↓wz_kAug, ↓wz_kAug2, ↓wz_kAug3, ↓wz_set, ↓wz_kSet1, ↓wz_kSet2, ↓wz_kSet3, ↓wz_kSet4, ↓wz_raise, ↓wz_try, ↓eOut_nx, ↓eOut_rt, ↓wz_tryAs, ↓wz_var, ↓wz_kVar, ↓wz_c, ↓wz_op, ↓wz_kOp1, ↓wz_kOp2, ↓wz_un, ↓wz_kUn, ↓wz_nil, ↓wz_cons, ↓wz_kCons1, ↓wz_kCons2, ↓wz_cb, ↓wz_kCB, ↓wz_call, ↓wz_kCall, ↓wz_kW, ↓wz_tru, ↓wz_kTruNon, ↓wz_kTruBl, ↓wz_kTruInt, ↓wz_kTruTup, ↓wz_kTruL, ↓wz_truL, ↓wz_truK, ↓wz_and, ↓wz_kAndT, ↓wz_kAndF, ↓wz_or, ↓wz_kOrT, ↓wz_kOrF, ↓wz_not, ↓wz_kNot, ↓wz_if, ↓wz_kIfVT, ↓wz_kIfVF, ↓wz_andV, ↓wz_kAndVT, ↓wz_kAndVF, ↓wz_orV, ↓wz_kOrVT, ↓wz_kOrVF, ↓wz_notV, ↓wz_kNotV, ↓wz_test, ↓wz_kTest, ↓wz_yes, ↓wz_II, ↓wz_I0, ↓wz_I1, ↓wz_addI, ↓wz_addS, ↓wz_addT, ↓wz_addL, ↓wz_mulI, ↓wz_mulL, ↓wz_eqS, ↓wz_neS, ↓wz_kEq, ↓wz_kNe, ↓wz_eq_ii, ↓wz_eq_ss, ↓wz_eq_bb, ↓wz_eq_nn, ↓wz_eq_ni, ↓wz_eq_in, ↓wz_eq_nb, ↓wz_eq_bn, ↓wz_eq_ns, ↓wz_eq_sn, ↓wz_eq_is, ↓wz_eq_si, ↓wz_eq_bs, ↓wz_eq_sb, ↓wz_isN, ↓wz_notN, ↓wz_non_n, ↓wz_non_b, ↓wz_non_i, ↓wz_non_s, ↓wz_non_t, ↓wz_non_l, ↓wz_kAtD, ↓wz_ixT, ↓wz_ixL, ↓wz_put, ↓wz_noPart, ↓wz_part, ↓wz_kPart, ↓wz_sl, ↓wz_kSl1, ↓wz_kSl2, ↓wz_kSl3, ↓wz_cutT, ↓wz_cutS, ↓wz_cutL, ↓wz_rev, ↓wz_kRev, ↓wz_tup, ↓wz_kTup, ↓wz_newK, ↓wz_newT, ↓wz_len, ↓wz_kLen, ↓wz_lenT, ↓wz_lenL, ↓wz_abs, ↓wz_intI, ↓wz_intB, ↓wz_ty_n, ↓wz_ty_b, ↓wz_ty_i, ↓wz_ty_s, ↓wz_ty_t, ↓wz_ty_l, ↓wz_isi, ↓wz_kIsi, ↓wz_listT, ↓wz_listV, ↓wz_listL, ↓wz_tupT, ↓wz_tupL, ↓wz_all, ↓wz_any, ↓wz_sum, ↓wz_maxL, ↓wz_minL, ↓wz_maxI, ↓wz_minI, ↓wz_tyM, ↓wz_tyMS, ↓wz_mt, ↓wz_mt0, ↓wz_kMt, ↓wz_kMt0, ↓wz_kMt2, ↓wz_app, ↓wz_ext, ↓wz_pop, ↓wz_seqI, ↓wz_kSeqT, ↓wz_kSeqL, ↓wz_seqO, ↓wz_rng1, ↓wz_kRng1, ↓wz_rng2, ↓wz_kRng2, ↓wz_enum, ↓wz_kEnumT, ↓wz_kEnumL, ↓wz_enumO, ↓wz_iterL, ↓wz_kIterL, ↓wz_zip, ↓wz_kZip, ↓wz_new, ↓wz_kNew, ↓wz_lst, ↓wz_kLst, ↓wz_lrg1, ↓wz_kLRg1, ↓wz_tupR1, ↓wz_kTupR1, ↓wz_catVL, ↓wz_kCatVL, ↓wz_kCatVL2, ↓wz_catLV, ↓wz_kCatLV, ↓wz_kCatLV2, ↓wz_catLL, ↓wz_kCatLL, ↓wz_kCatLL2, ↓wz_lstOf, ↓wz_rep, ↓wz_kRep, ↓wz_kRep2, ↓wz_cl, ↓wz_kCL, ↓wz_eLen, ↓wz_eTuple, ↓wz_eAll, ↓wz_eAny, ↓wz_eSum, ↓wz_eMax, ↓wz_eMin, ↓wz_ixNew, ↓wz_kIxL, ↓wz_kIxL2, ↓wz_disp1, ↓wz_kDisp1, ↓wz_kDisp2, ↓wz_sortSet, ↓reduceIte, setAll, wipeD, zAddO, zMulO, kKeyK, kKeyT, zIxO, keyD, keysD, zPutAt, zPutK, zPutT, zPutO, zCutO, zRevO, zLenO, zTyO, zListO, zTupO, zTyMO, zAppO, zExtO, zPopO, kPop, zLstO, zCatO, zCatO2, nat_lt, nat_le, nat_neg, nat_pos, startD, sp1, sp2, sp3, sp4, sp5, sp6, Bool.true_and, Bool.and_true, Bool.false_and, Bool.and_false, Bool.true_or, Bool.or_true, Bool.false_or, Bool.or_false, Bool.not_not, decide_not, nat_inj, nat_zero, Nat.lt_irrefl, Nat.le_refl, ty_int, ty_bl, ty_str, ty_non, ty_tup, mem_int, mem_bool, mem_str, mem_tuple, mem_list, isTy_self, isTy_bool_int, isTy_int_bool, isTy_int_tuple, isTy_int_list, isTy_int_str, isTy_bool_tuple, isTy_bool_list, isTy_bool_str, isTy_str_bool, isTy_str_int, isTy_str_tuple, isTy_str_list, isTy_non_tuple, isTy_non_list, isTy_non_str, isTy_non_int, isTy_non_bool, isTy_tup_list, isTy_tup_int, isTy_tup_str, isTy_tup_bool, isTy_list_tup, isTy_list_int, isTy_list_bool, isTy_list_str, sp1, sp2, sp3, sp4, sp5, sp6, updD_same, updD_updD, List.map_cons, List.map_nil, List.length_cons, List.length_nil, List.set_cons_zero, List.set_cons_succ, List.getElem?_cons_zero, List.getElem?_cons_succ, List.cons_append, List.nil_append, Nat.reduceAdd, Nat.reduceSub, List.replicate, Nat.sub_self, decide_eq_true_eq, Bool.not_eq_true', decide_eq_false_iff_not, decide_true, decide_false, Bool.not_true, Bool.not_false, Bool.false_eq_true, Bool.true_eq_false, if_true, if_false, true_and, and_true, List.isEmpty_nil, List.isEmpty_cons, List.flatten_cons, List.flatten_nil, at_0, at_1, at_2, at_3, at_4, at_5, at_6, at_7, at_m1_1, at_m1_2, at_m1_3, at_m1_4, at_m1_5, at_m1_6, nc_0, nc_1, nc_2, nc_3, nc_4, nc_5, nc_6, nc_7, nc_8, nc_9, nc_10, nc_11, nc_12, len_map, not_true_eq_false, not_false_eq_true, ite_true, ite_false, Int.reduceEq, Int.reduceNe, Int.reduceLT, Int.reduceLE, Nat.reduceEqDiff, Option.some.injEq, true_implies, forall_const, sz_0, sz_1, sz_2, sz_3, sz_4, sz_5, sz_6, sz_7, sz_8, sz_9, sz_10, sz_11, sz_12, sz_13, sz_14, sz_15, sz_16, sz_17, sz_18, sz_19, sz_20, ix_4_1, ix_4_2, ix_4_3])
local macro_rules | `(tactic| simp! only [$xs,*]) => `(tactic| try simp only [↓eSeq_nx, ↓eSeq_rt, ↓eSeq_bk, ↓eSeq_ct, ↓wz_seq, ↓wz_next, ↓wz_break, ↓wz_cont, ↓wz_drop, ↓wz_kDrop, ↓wz_ret, ↓wz_retN, ↓wz_ifS, ↓wz_kIfT, ↓wz_kIfF, ↓wz_asg, ↓wz_kAsg, ↓wz_kAsg2, ↓wz_pName, ↓wz_pTup, ↓wz_par, ↓wz_kPar, ↓wz_aug, ↓wz_kAug, ↓wz_kAug2, ↓wz_kAug3, ↓wz_set, ↓wz_kSet1, ↓wz_kSet2, ↓wz_kSet3, ↓wz_kSet4, ↓wz_raise, ↓wz_try, ↓eOut_nx, ↓eOut_rt, ↓wz_tryAs, ↓wz_var, ↓wz_kVar, ↓wz_c, ↓wz_op, ↓wz_kOp1, ↓wz_kOp2, ↓wz_un, ↓wz_kUn, ↓wz_nil, ↓wz_cons, ↓wz_kCons1, ↓wz_kCons2, ↓wz_cb, ↓wz_kCB, ↓wz_call, ↓wz_kCall, ↓wz_kW, ↓wz_tru, ↓wz_kTruNon, ↓wz_kTruBl, ↓wz_kTruInt, ↓wz_kTruTup, ↓wz_kTruL, ↓wz_truL, ↓wz_truK, ↓wz_and, ↓wz_kAndT, ↓wz_kAndF, ↓wz_or, ↓wz_kOrT, ↓wz_kOrF, ↓wz_not, ↓wz_kNot, ↓wz_if, ↓wz_kIfVT, ↓wz_kIfVF, ↓wz_andV, ↓wz_kAndVT, ↓wz_kAndVF, ↓wz_orV, ↓wz_kOrVT, ↓wz_kOrVF, ↓wz_notV, ↓wz_kNotV, ↓wz_test, ↓wz_kTest, ↓wz_yes, ↓wz_II, ↓wz_I0, ↓wz_I1, ↓wz_addI, ↓wz_addS, ↓wz_addT, ↓wz_addL, ↓wz_mulI, ↓wz_mulL, ↓wz_eqS, ↓wz_neS, ↓wz_kEq, ↓wz_kNe, ↓wz_eq_ii, ↓wz_eq_ss, ↓wz_eq_bb, ↓wz_eq_nn, ↓wz_eq_ni, ↓wz_eq_in, ↓wz_eq_nb, ↓wz_eq_bn, ↓wz_eq_ns, ↓wz_eq_sn, ↓wz_eq_is, ↓wz_eq_si, ↓wz_eq_bs, ↓wz_eq_sb, ↓wz_isN, ↓wz_notN, ↓wz_non_n, ↓wz_non_b, ↓wz_non_i, ↓wz_non_s, ↓wz_non_t, ↓wz_non_l, ↓wz_kAtD, ↓wz_ixT, ↓wz_ixL, ↓wz_put, ↓wz_noPart, ↓wz_part, ↓wz_kPart, ↓wz_sl, ↓wz_kSl1, ↓wz_kSl2, ↓wz_kSl3, ↓wz_cutT, ↓wz_cutS, ↓wz_cutL, ↓wz_rev, ↓wz_kRev, ↓wz_tup, ↓wz_kTup, ↓wz_newK, ↓wz_newT, ↓wz_len, ↓wz_kLen, ↓wz_lenT, ↓wz_lenL, ↓wz_abs, ↓wz_intI, ↓wz_intB, ↓wz_ty_n, ↓wz_ty_b, ↓wz_ty_i, ↓wz_ty_s, ↓wz_ty_t, ↓wz_ty_l, ↓wz_isi, ↓wz_kIsi, ↓wz_listT, ↓wz_listV, ↓wz_listL, ↓wz_tupT, ↓wz_tupL, ↓wz_all, ↓wz_any, ↓wz_sum, ↓wz_maxL, ↓wz_minL, ↓wz_maxI, ↓wz_minI, ↓wz_tyM, ↓wz_tyMS, ↓wz_mt, ↓wz_mt0, ↓wz_kMt, ↓wz_kMt0, ↓wz_kMt2, ↓wz_app, ↓wz_ext, ↓wz_pop, ↓wz_seqI, ↓wz_kSeqT, ↓wz_kSeqL, ↓wz_seqO, ↓wz_rng1, ↓wz_kRng1, ↓wz_rng2, ↓wz_kRng2, ↓wz_enum, ↓wz_kEnumT, ↓wz_kEnumL, ↓wz_enumO, ↓wz_iterL, ↓wz_kIterL, ↓wz_zip, ↓wz_kZip, ↓wz_new, ↓wz_kNew, ↓wz_lst, ↓wz_kLst, ↓wz_lrg1, ↓wz_kLRg1, ↓wz_tupR1, ↓wz_kTupR1, ↓wz_catVL, ↓wz_kCatVL, ↓wz_kCatVL2, ↓wz_catLV, ↓wz_kCatLV, ↓wz_kCatLV2, ↓wz_catLL, ↓wz_kCatLL, ↓wz_kCatLL2, ↓wz_lstOf, ↓wz_rep, ↓wz_kRep, ↓wz_kRep2, ↓wz_cl, ↓wz_kCL, ↓wz_eLen, ↓wz_eTuple, ↓wz_eAll, ↓wz_eAny, ↓wz_eSum, ↓wz_eMax, ↓wz_eMin, ↓wz_ixNew, ↓wz_kIxL, ↓wz_kIxL2, ↓wz_disp1, ↓wz_kDisp1, ↓wz_kDisp2, ↓wz_sortSet, ↓reduceIte, setAll, wipeD, zAddO, zMulO, kKeyK, kKeyT, zIxO, keyD, keysD, zPutAt, zPutK, zPutT, zPutO, zCutO, zRevO, zLenO, zTyO, zListO, zTupO, zTyMO, zAppO, zExtO, zPopO, kPop, zLstO, zCatO, zCatO2, nat_lt, nat_le, nat_neg, nat_pos, startD, sp1, sp2, sp3, sp4, sp5, sp6, Bool.true_and, Bool.and_true, Bool.false_and, Bool.and_false, Bool.true_or, Bool.or_true, Bool.false_or, Bool.or_false, Bool.not_not, decide_not, nat_inj, nat_zero, Nat.lt_irrefl, Nat.le_refl, ty_int, ty_bl, ty_str, ty_non, ty_tup, mem_int, mem_bool, mem_str, mem_tuple, mem_list, isTy_self, isTy_bool_int, isTy_int_bool, isTy_int_tuple, isTy_int_list, isTy_int_str, isTy_bool_tuple, isTy_bool_list, isTy_bool_str, isTy_str_bool, isTy_str_int, isTy_str_tuple, isTy_str_list, isTy_non_tuple, isTy_non_list, isTy_non_str, isTy_non_int, isTy_non_bool, isTy_tup_list, isTy_tup_int, isTy_tup_str, isTy_tup_bool, isTy_list_tup, isTy_list_int, isTy_list_bool, isTy_list_str, sp1, sp2, sp3, sp4, sp5, sp6, updD_same, updD_updD, List.map_cons, List.map_nil, List.length_cons, List.length_nil, List.set_cons_zero, List.set_cons_succ, List.getElem?_cons_zero, List.getElem?_cons_succ, List.cons_append, List.nil_append, Nat.reduceAdd, Nat.reduceSub, List.replicate, Nat.sub_self, decide_eq_true_eq, Bool.not_eq_true', decide_eq_false_iff_not, decide_true, decide_false, Bool.not_true, Bool.not_false, Bool.false_eq_true, Bool.true_eq_false, if_true, if_false, true_and, and_true, List.isEmpty_nil, List.isEmpty_cons, List.flatten_cons, List.flatten_nil, at_0, at_1, at_2, at_3, at_4, at_5, at_6, at_7, at_m1_1, at_m1_2, at_m1_3, at_m1_4, at_m1_5, at_m1_6, nc_0, nc_1, nc_2, nc_3, nc_4, nc_5, nc_6, nc_7, nc_8, nc_9, nc_10, nc_11, nc_12, len_map, not_true_eq_false, not_false_eq_true, ite_true, ite_false, Int.reduceEq, Int.reduceNe, Int.reduceLT, Int.reduceLE, Nat.reduceEqDiff, Option.some.injEq, true_implies, forall_const, sz_0, sz_1, sz_2, sz_3, sz_4, sz_5, sz_6, sz_7, sz_8, sz_9, sz_10, sz_11, sz_12, sz_13, sz_14, sz_15, sz_16, sz_17, sz_18, sz_19, sz_20, ix_4_1, ix_4_2, ix_4_3, $xs,*])
theorem WayL.tail {g : Gr} {k l : Nat} {ks : List Nat} (w : WayL g (k :: l :: ks)) : WayL g (l :: ks) ∧ (gE g k).b = (gE g l).a :=
  ⟨⟨fun j hj => w.lt j (List.mem_cons_of_mem _ hj), fun i a c h1 h2 => w.next (i + 1) a c (by simpa using h1) (by simpa using h2)⟩, w.next 0 k l rfl rfl⟩
theorem lastN_cons {k l : Nat} {ks : List Nat} : lastN (k :: l :: ks) = lastN (l :: ks) := by
  unfold lastN
  simp [List.getD_eq_getElem?_getD]
theorem tok_cons {g : Gr} {k : Nat} {ks : List Nat} : tok g (k :: ks) = (gE g k).t + tok g ks := by
  unfold tok; rw [List.map_cons, List.sum_cons]
/-- along a way counts go up by no more than the tokens -/
theorem chain_le {g : Gr} {c : Nat → Nat} (bal : Bal0 g c) : ∀ {ks : List Nat} {k : Nat}, WayL g (k :: ks) → c (gE g (lastN (k :: ks))).b ≤ c (gE g k).b + tok g ks
  | [], k, _ => by
    have : lastN [k] = k := rfl
    rw [this]; exact Nat.le_add_right _ _
  | l :: ks, k, w => by
    obtain ⟨w1, e⟩ := w.tail
    have ih := chain_le bal w1
    have hb := bal _ (List.mem_of_getElem? (gE_get (w1.lt l List.mem_cons_self)))
    rw [lastN_cons, tok_cons, e]
    omega
theorem eOn_eq (o : Option Nat) : eOn o = eO (o.map fun (n : Nat) => (n : Int)) := by cases o <;> rfl
theorem bd_ring {g : Gr} {e0 : Nat} {ns : List Nat} {c : Nat → Nat} {w : Nat → List Nat} (z : BdR g e0 ns c w) (hg : (gE g e0).a ∈ ns) : RingL g (e0 :: w (gE g e0).a) := by
  obtain ⟨w1, w2, _⟩ := z.way _ hg
  exact ⟨by simp, w1, w2⟩
theorem getO_map {n v : Nat} {f : Nat → Option Int} (h : v < n) : getO ((List.range n).map f) v = f v := by
  unfold getO
  rw [List.getD_eq_getElem?_getD, List.getElem?_map, List.getElem?_range h]; rfl
theorem bd_shown {g : Gr} {e0 : Nat} {ns : List Nat} {c : Nat → Nat} {w : Nat → List Nat} (hw : WF g) (he : e0 < g.2.length) (z : BdR g e0 ns c w) (hg : (gE g e0).a ∈ ns) :
    ShownP g (eN e0) (.int ((gE g e0).t + c (gE g e0).a : Nat)) (.tup ((e0 :: w (gE g e0).a).map eN)) (distD g ns c) := by
  have h0 := List.mem_of_getElem? (gE_get he)
  have ho := hw.es _ h0
  obtain ⟨w1, w2, w3⟩ := z.way _ hg
  have hs : (gE g e0).b ∈ ns := (z.mem _).mpr .here
  have hd : headN (e0 :: w (gE g e0).a) = e0 := rfl
  have get : ∀ v, v < g.1 → getO ((List.range g.1).map fun v => (dist ns c v).map fun (n : Nat) => (n : Int)) v = (dist ns c v).map fun (n : Nat) => (n : Int) := fun v hv => getO_map hv
  have din : ∀ {v}, v ∈ ns → (dist ns c v).map (fun (n : Nat) => (n : Int)) = some (c v : Int) := fun hv => by unfold dist; rw [if_pos hv]; rfl
  refine ⟨e0 :: w (gE g e0).a, (List.range g.1).map fun v => (dist ns c v).map fun (n : Nat) => (n : Int), ⟨bd_ring z hg, by rw [List.length_map, List.length_range], ?_, fun e hem r hr => ?_, ?_⟩, rfl, ?_, rfl, ?_⟩
  · rw [hd, get _ ho.b, din hs, z.st]; rfl
  · have hoe := hw.es e hem
    rw [get _ hoe.a] at hr
    rw [get _ hoe.b]
    by_cases ha : e.a ∈ ns
    · rw [din ha] at hr
      cases hr
      have hb : e.b ∈ ns := (z.mem _).mpr (.on hem ((z.mem _).mp ha))
      refine ⟨_, din hb, ?_⟩
      have := z.fin e hem ha
      omega
    · unfold dist at hr; rw [if_neg ha] at hr; cases hr
  · rw [hd, get _ ho.a, din hg, tok_cons, w3]
    congr 1
    omega
  · rw [tok_cons, w3]
  · unfold distD
    rw [List.map_map]
    congr 1
    apply List.map_congr_left
    intro v _
    exact eOn_eq _
def loop1 : Ed := ⟨0, 0, 0, (1, 1)⟩
theorem wf_loop1 {g : Gr} (hw : WF g) (h : g.2.length ≤ 900) : WF (g.1, g.2 ++ [loop1]) := ⟨hw.pos, hw.n, by simp; omega, fun e he => by
  rcases List.mem_append.mp he with h | h
  · exact hw.es e h
  · have : e = loop1 := by simpa using h
    rw [this]; exact ⟨hw.pos, hw.pos, ⟨by decide, by decide, by decide, by decide⟩⟩⟩
theorem dead_loop1 {g : Gr} (hw : WF g) (h : g.2.length ≤ 900) : ∀ rk, ¬ LiveG (g.1, g.2 ++ [loop1]) rk := fun rk lv => by
  have := rk_up (wf_loop1 hw h) lv (e := loop1) (List.mem_append_right _ (by simp)) rfl
  exact Nat.lt_irrefl _ this
theorem Dw.sub {b b0 : DH} {dl sl : Addr} {ns : List Int} {h : DH} (z : Dw b0 dl sl ns h) (hb : b dl = none) (s : DL.Sub b b0) : DL.Sub b h := by
  obtain ⟨_, _, d, _, _, h5⟩ := z
  intro a o e
  have ne : a ≠ dl := fun z => by rw [z, hb] at e; cases e
  exact h5 a o (by rw [updD_ne ne]; exact s a o e)
theorem dIn_tupN {ns : List Nat} {v : Nat} {neg : Bool} {h : DH} {q : DK} : dIn neg (.int (v : Nat)) (.tup (ns.map eN)) h q = q (.bl (if neg then !decide (v ∈ ns) else decide (v ∈ ns))) h := by
  unfold dIn
  simp only [inN, flatN, flatD, true_and]
theorem fixE {g : Gr} : ∀ d ∈ g.2.map eE, Fix d := fun d hd h' => by
  obtain ⟨i, _, rfl⟩ := List.mem_map.mp hd
  exact ⟨_, rfl⟩
def sp_law : DSp := sp1 fun a h q _ => ∃ ns : List Int, a = .lsv (ns.map D.int) ∧ ns.length ≤ 100 ∧ q (.bl true) h
section
variable {P : Program} {w : World} {K : PySem.W.Frag} {mg : Str → Option Value} {base : Heap} {C_DelayError C_BadNet : Addr}
theorem f_law (T : Txt K mg C_DelayError C_BadNet) (H__law_reached : Has P w K mg base "_law_reached" 3 ["graph", "counts"] sp__law_reached) (H__law_same : Has P w K mg base "_law_same" 3 ["actual", "expected"] (sp__law_same 3)) (H__law_bent : Has P w K mg base "_law_bent" 3 ["draws", "paper", "edges"] sp__law_bent) (H_proves_bound : Has P w K mg base "proves_bound" 6 ["graph", "e", "count", "ring", "distances"] sp_proves_bound) (H__law_shown : Has P w K mg base "_law_shown" 5 ["graph", "e", "count", "ring", "distances"] sp_proves_bound) (H__law_strolled : Has P w K mg base "_law_strolled" 3 ["draws", "graph", "many"] sp__law_strolled) (H__law_led : Has P w K mg base "_law_led" 2 ["graph", "start"] sp__law_led) (H_bound : Has P w K mg base "bound" 6 ["graph", "e"] (sp_bound C_BadNet)) (H__law_draw : Has P w K mg base "_law_draw" 2 ["draws", "limit"] sp__law_draw) (H__law_refused : Has P w K mg base "_law_refused" 7 ["graph", "e"] sp__law_refused) (H__law_live_graph : Has P w K mg base "_law_live_graph" 5 ["draws", "most"] sp__law_live_graph) (H__law_draws : Has P w K mg base "_law_draws" 2 ["script"] sp__law_draws) {f : Addr} {fd : FuncData} (F : Fun K "law" "law" st_law f fd) : FnOk P w K mg base (L2.CX P w) (8) f fd ["script"] (liftSp K sp_law) := by
  refine okD F sc_law len1 fun cdv A outer s H E b ds q xx hr tk hsp => ?_
  have hr__law_reached := hr.mono (show 3 ≤ 7 by decide)
  have hr__law_same := hr.mono (show 3 ≤ 7 by decide)
  have hr__law_bent := hr.mono (show 3 ≤ 7 by decide)
  have hr_proves_bound := hr.mono (show 6 ≤ 7 by decide)
  have hr__law_shown := hr.mono (show 5 ≤ 7 by decide)
  have hr__law_strolled := hr.mono (show 3 ≤ 7 by decide)
  have hr__law_led := hr.mono (show 2 ≤ 7 by decide)
  have hr_bound := hr.mono (show 6 ≤ 7 by decide)
  have hr__law_draw := hr.mono (show 2 ≤ 7 by decide)
  have hr__law_refused := hr.mono (show 7 ≤ 7 by decide)
  have hr__law_live_graph := hr.mono (show 5 ≤ 7 by decide)
  have hr__law_draws := hr.mono (show 2 ≤ 7 by decide)
  refine ⟨_, (dss_cons (ds_set (i := 1) sc_law.nd rfl (Or.inl rfl) (de_callH H__law_draws hr__law_draws (by rfl) tk (da_cons (de_var (pv 0)) da_nil)))
  (dss_cons (ds_for (passes_of rfl) rfl (di_rng1 (by rfl) T.m_range (da_cons de_int da_nil)) (pg_name (i := 2) sc_law.nd rfl (Or.inl rfl)) (refG_name 2) (dss_cons (ds_set (i := 3) sc_law.nd rfl (Or.inl rfl) (de_callH H__law_live_graph hr__law_live_graph (by rfl) tk (da_cons (de_var (pv 1)) (da_cons de_int da_nil))))
    (dss_cons (ds_for (passes_of rfl) rfl (di_l (dl_lst (da_cons (de_cb (pe_callB call_lenU (by rfl) T.m_len bt_len (da_cons (de_ix (hu_of hr) (de_var (pv 3)) de_int (fun _ _ => rfl)) da_nil)) refLen) (da_cons (de_neg de_int) (da_cons de_bl (da_cons de_non (da_cons de_str da_nil))))))) (pg_name (i := 4) sc_law.nd rfl (Or.inl rfl)) (refG_name 4) (dss_one (ds_if (dt_not (dt_tru (de_callH H__law_refused hr__law_refused (by rfl) tk (da_cons (de_var (pv 3)) (da_cons (de_var (pv 4)) da_nil))))) (dss_one (ds_ret de_bl)) dss_nil)))
    (dss_cons (ds_if (dt_not (dt_tru (de_callH H__law_refused hr__law_refused (by rfl) tk (da_cons (de_tup (da_cons (de_ix (hu_of hr) (de_var (pv 3)) de_int (fun _ _ => rfl)) (da_cons (de_add (de_ix (hu_of hr) (de_var (pv 3)) de_int (fun _ _ => rfl)) (de_tup (da_cons (de_tup (da_cons de_int (da_cons de_int (da_cons de_int (da_cons (de_tup (da_cons de_int (da_cons de_int da_nil))) da_nil))))) da_nil))) da_nil))) (da_cons de_int da_nil))))) (dss_one (ds_ret de_bl)) dss_nil)
    (dss_one (ds_if (dt_gt (de_cb (pe_callB call_lenU (by rfl) T.m_len bt_len (da_cons (de_ix (hu_of hr) (de_var (pv 3)) de_int (fun _ _ => rfl)) da_nil)) refLen) de_int) (dss_cons (ds_set (i := 5) sc_law.nd rfl (Or.inl rfl) (de_callH H__law_draw hr__law_draw (by rfl) tk (da_cons (de_var (pv 1)) (da_cons (de_cb (pe_callB call_lenU (by rfl) T.m_len bt_len (da_cons (de_ix (hu_of hr) (de_var (pv 3)) de_int (fun _ _ => rfl)) da_nil)) refLen) da_nil))))
      (dss_cons (ds_par (i := 6) (j := 7) (by rfl) sc_law.nd rfl rfl (by decide) rfl rfl (da_cons (de_ix (hu_of hr) (de_ix (hu_of hr) (de_ix (hu_of hr) (de_var (pv 3)) de_int (fun _ _ => rfl)) (de_var (pv 5)) (fun _ _ => rfl)) de_int (fun _ _ => rfl)) (da_cons (de_ix (hu_of hr) (de_ix (hu_of hr) (de_ix (hu_of hr) (de_var (pv 3)) de_int (fun _ _ => rfl)) (de_var (pv 5)) (fun _ _ => rfl)) de_int (fun _ _ => rfl)) da_nil)) (by rfl))
      (dss_cons (ds_asg (de_tup (da_cons (de_callH H_bound hr_bound (by rfl) tk (da_cons (de_var (pv 3)) (da_cons (de_var (pv 5)) da_nil))) (da_cons (de_callH H__law_led hr__law_led (by rfl) tk (da_cons (de_var (pv 3)) (da_cons (de_var (pv 6)) da_nil))) da_nil))) (pg_tup (by rfl) (pgs_cons (pg_name (i := 8) sc_law.nd rfl (Or.inr rfl)) (pgs_cons (pg_name (i := 9) sc_law.nd rfl (Or.inr rfl)) pgs_nil))) (refG_tup [8, 9]))
      (dss_one (ds_if (dt_notIn (hu_of hr) (de_var (pv 7)) (de_var (pv 9)) (by rfl)) (dss_cons (ds_if (dt_not (dt_tru (de_callH H__law_same hr__law_same (by rfl) tk (da_cons (de_var (pv 8)) (da_cons (de_tup (da_cons de_str (da_cons (de_var (pv 9)) da_nil))) da_nil))))) (dss_one (ds_ret de_bl)) dss_nil)
        (dss_cons (ds_set (i := 10) sc_law.nd rfl (Or.inl rfl) (de_callH H__law_reached hr__law_reached (by rfl) tk (da_cons (de_var (pv 3)) (da_cons (de_new (dl_lc (own := [("v", 16)]) rfl sc_law.nd (di_rng1 (by rfl) T.m_range (da_cons (de_ix (hu_of hr) (de_var (pv 3)) de_int (fun _ _ => rfl)) da_nil)) (blkOk_by (own := [("v", 16)]) (N := ["script", "draws", "turn", "graph", "bad", "e", "start", "goal", "told", "led", "marking", "paper", "most", "k", "value", "due", "v", "d"]) (sc := defScope st_law) (by decide +kernel)) (ownG_name (by decide)) (fun _ _ _ _ _ => pg_name (i := 16) sc_law.nd rfl (Or.inl rfl)) (fun _ _ _ _ _ => dts_nil) (fun _ _ _ _ _ => (de_mul de_int (de_cb (pe_callTy call_int1 (by rfl) T.m_int bt_int (da_cons (de_notIn (hu_of hr) (de_var (pv 16)) (de_var (pv 9)) (by rfl)) da_nil)) refInt))))) da_nil))))
        (dss_one (ds_if (dt_w (dw_or (dt_isN (de_var (pv 10)) de_non) (dw_or1 (dt_lt (de_ix (hu_of hr) (de_var (pv 10)) (de_var (pv 5)) (fun _ _ => rfl)) (de_add (de_ix (hu_of hr) (de_ix (hu_of hr) (de_ix (hu_of hr) (de_var (pv 3)) de_int (fun _ _ => rfl)) (de_var (pv 5)) (fun _ _ => rfl)) de_int (fun _ _ => rfl)) de_int))))) (dss_one (ds_ret de_bl)) dss_nil)))) (dss_cons (ds_if (dt_w (dw_or (dt_not (dt_tru (de_cb (pe_callB call_isi (by rfl) T.m_isinstance bt_isinstance (da_cons (de_var (pv 8)) (da_cons (de_ty (by rfl) T.m_tuple bt_tuple) da_nil))) refIsi))) (dw_or (dt_ne (de_cb (pe_callB call_lenU (by rfl) T.m_len bt_len (da_cons (de_var (pv 8)) da_nil)) refLen) de_int) (dw_or1 (dt_not (dt_tru (de_callH H__law_same hr__law_same (by rfl) tk (da_cons (de_ix (hu_of hr) (de_var (pv 8)) de_int (fun _ _ => rfl)) (da_cons de_str da_nil))))))))) (dss_one (ds_ret de_bl)) dss_nil)
        (dss_cons (ds_set (i := 11) sc_law.nd rfl (Or.inl rfl) (de_tup (da_cons (de_var (pv 5)) (da_cons (de_ix (hu_of hr) (de_var (pv 8)) de_int (fun _ _ => rfl)) (da_cons (de_ix (hu_of hr) (de_var (pv 8)) de_int (fun _ _ => rfl)) (da_cons (de_ix (hu_of hr) (de_var (pv 8)) de_int (fun _ _ => rfl)) da_nil))))))
        (dss_cons (ds_if (dt_not (dt_tru (de_callH H__law_shown hr__law_shown (by rfl) tk (da_cons (de_var (pv 3)) (da_cons (de_ix (hu_of hr) (de_var (pv 11)) de_int (fun _ _ => rfl)) (da_cons (de_ix (hu_of hr) (de_var (pv 11)) de_int (fun _ _ => rfl)) (da_cons (de_ix (hu_of hr) (de_var (pv 11)) de_int (fun _ _ => rfl)) (da_cons (de_ix (hu_of hr) (de_var (pv 11)) de_int (fun _ _ => rfl)) da_nil)))))))) (dss_one (ds_ret de_bl)) dss_nil)
        (dss_cons (ds_if (dt_gt (de_cl (pe_callB call_lenU (by rfl) T.m_len bt_len (one_l (dl_lc (own := [("v", 16)]) rfl sc_law.nd (di_rng1 (by rfl) T.m_range (da_cons (de_ix (hu_of hr) (de_var (pv 3)) de_int (fun _ _ => rfl)) da_nil)) (blkOk_by (own := [("v", 16)]) (N := ["script", "draws", "turn", "graph", "bad", "e", "start", "goal", "told", "led", "marking", "paper", "most", "k", "value", "due", "v", "d"]) (sc := defScope st_law) (by decide +kernel)) (ownG_name (by decide)) (fun _ _ _ _ _ => pg_name (i := 16) sc_law.nd rfl (Or.inl rfl)) (fun _ _ _ _ _ => dts_one (dt_eq (de_isN (de_ix (hu_of hr) (de_ix (hu_of hr) (de_var (pv 8)) de_int (fun _ _ => rfl)) (de_var (pv 16)) (fun _ _ => rfl)) de_non) (de_in (hu_of hr) (de_var (pv 16)) (de_var (pv 9)) (by rfl)))) (fun _ _ _ _ _ => (de_var (pv 16)))))) rlLen) de_int) (dss_one (ds_ret de_bl)) dss_nil)
        (dss_cons (ds_set (i := 12) sc_law.nd rfl (Or.inr rfl) (de_cl (pe_callB (cr_max rfl) (by rfl) T.m_max bt_max (one_l (dl_lc (own := [("d", 17)]) rfl sc_law.nd (di_seq (de_ix (hu_of hr) (de_var (pv 8)) de_int (fun _ _ => rfl))) (blkOk_by (own := [("d", 17)]) (N := ["script", "draws", "turn", "graph", "bad", "e", "start", "goal", "told", "led", "marking", "paper", "most", "k", "value", "due", "v", "d"]) (sc := defScope st_law) (by decide +kernel)) (ownG_name (by decide)) (fun _ _ _ _ _ => pg_name (i := 17) sc_law.nd rfl (Or.inl rfl)) (fun _ _ _ _ _ => dts_one (dt_notN (de_var (pv 17)) de_non)) (fun _ _ _ _ _ => (de_var (pv 17)))))) rlMax))
        (dss_cons (ds_set (i := 10) sc_law.nd rfl (Or.inl rfl) (de_callH H__law_reached hr__law_reached (by rfl) tk (da_cons (de_var (pv 3)) (da_cons (de_new (dl_lc (own := [("d", 17)]) rfl sc_law.nd (di_seq (de_ix (hu_of hr) (de_var (pv 8)) de_int (fun _ _ => rfl))) (blkOk_by (own := [("d", 17)]) (N := ["script", "draws", "turn", "graph", "bad", "e", "start", "goal", "told", "led", "marking", "paper", "most", "k", "value", "due", "v", "d"]) (sc := defScope st_law) (by decide +kernel)) (ownG_name (by decide)) (fun _ _ _ _ _ => pg_name (i := 17) sc_law.nd rfl (Or.inl rfl)) (fun _ _ _ _ _ => dts_nil) (fun _ _ _ _ _ => (de_if (dt_isN (de_var (pv 17)) de_non) (de_var (pv 12)) (de_var (pv 17)))))) da_nil))))
        (dss_cons (ds_if (dt_w (dw_or (dt_isN (de_var (pv 10)) de_non) (dw_or1 (dt_ne (de_ix (hu_of hr) (de_var (pv 10)) (de_var (pv 5)) (fun _ _ => rfl)) (de_ix (hu_of hr) (de_var (pv 8)) de_int (fun _ _ => rfl)))))) (dss_one (ds_ret de_bl)) dss_nil)
        (dss_cons (ds_for (passes_of rfl) rfl (di_rng1 (by rfl) T.m_range (da_cons de_int da_nil)) (pg_name (i := 13) sc_law.nd rfl (Or.inl rfl)) (refG_name 13) (dss_one (ds_if (dt_gt (de_ix (hu_of hr) (de_ix (hu_of hr) (de_callH H__law_strolled hr__law_strolled (by rfl) tk (da_cons (de_var (pv 1)) (da_cons (de_var (pv 3)) (da_cons de_int da_nil)))) de_int (fun _ _ => rfl)) (de_var (pv 5)) (fun _ _ => rfl)) (de_ix (hu_of hr) (de_var (pv 8)) de_int (fun _ _ => rfl))) (dss_one (ds_ret de_bl)) dss_nil)))
        (dss_one (ds_for (passes_of rfl) rfl (di_l (dl_lst (da_cons (de_var (pv 11)) (da_cons (de_callH H__law_bent hr__law_bent (by rfl) tk (da_cons (de_var (pv 1)) (da_cons (de_var (pv 11)) (da_cons (de_ix (hu_of hr) (de_var (pv 3)) de_int (fun _ _ => rfl)) da_nil)))) (da_cons (de_callH H__law_bent hr__law_bent (by rfl) tk (da_cons (de_var (pv 1)) (da_cons (de_var (pv 11)) (da_cons (de_ix (hu_of hr) (de_var (pv 3)) de_int (fun _ _ => rfl)) da_nil)))) da_nil))))) (pg_name (i := 14) sc_law.nd rfl (Or.inl rfl)) (refG_name 14) (dss_cons (ds_set (i := 15) sc_law.nd rfl (Or.inl rfl) (de_callH H__law_shown hr__law_shown (by rfl) tk (da_cons (de_var (pv 3)) (da_cons (de_ix (hu_of hr) (de_var (pv 14)) de_int (fun _ _ => rfl)) (da_cons (de_ix (hu_of hr) (de_var (pv 14)) de_int (fun _ _ => rfl)) (da_cons (de_ix (hu_of hr) (de_var (pv 14)) de_int (fun _ _ => rfl)) (da_cons (de_ix (hu_of hr) (de_var (pv 14)) de_int (fun _ _ => rfl)) da_nil)))))))
          (dss_one (ds_if (dt_not (dt_tru (de_callH H__law_same hr__law_same (by rfl) tk (da_cons (de_callH H_proves_bound hr_proves_bound (by rfl) tk (da_cons (de_var (pv 3)) (da_cons (de_ix (hu_of hr) (de_var (pv 14)) de_int (fun _ _ => rfl)) (da_cons (de_ix (hu_of hr) (de_var (pv 14)) de_int (fun _ _ => rfl)) (da_cons (de_ix (hu_of hr) (de_var (pv 14)) de_int (fun _ _ => rfl)) (da_cons (de_ix (hu_of hr) (de_var (pv 14)) de_int (fun _ _ => rfl)) da_nil)))))) (da_cons (de_var (pv 15)) da_nil))))) (dss_one (ds_ret de_bl)) dss_nil)))))))))))))))))) dss_nil))))))
  (dss_one (ds_ret de_bl)))), ?_⟩
  obtain ⟨d0, rfl, hsp⟩ := inv1 hsp
  obtain ⟨ns, rfl, hlen, hq⟩ := hsp
  walk_at "w"
  refine ⟨ns, rfl, fun sl dl hsl hdl nsd => ?_⟩
  have sb0 : DL.Sub b (updD (updD b sl (.lst (ns.map D.int))) dl (drL sl ⟨0, 0, 1⟩)) := (Sub.new hsl).trans (Sub.new (by rw [updD_ne nsd.symm]; exact hdl))
  have dr0 : IsDr (updD (updD b sl (.lst (ns.map D.int))) dl (drL sl ⟨0, 0, 1⟩)) dl sl ns ⟨0, 0, 1⟩ := ⟨updD_same, by rw [updD_ne nsd, updD_same], nsd, Int.le_refl _, Int.le_refl _⟩
  have dw0 := Dw.init dr0
  generalize updD (updD b sl (.lst (ns.map D.int))) dl (drL sl ⟨0, 0, 1⟩) = B0 at sb0 dr0 dw0
  walk_at "w"
  refine forG (xs := rgD 0 3) (G := fun _ => True) (fun i s h' => ∃ x2 x3 x4 x5 x6 x7 x8 x9 x10 x11 x12 x13 x14 x15 x16 x17, s = [some (.lsv (ns.map D.int)), some (.loc dl), x2, x3, x4, x5, x6, x7, x8, x9, x10, x11, x12, x13, x14, x15, x16, x17] ∧ Dw B0 dl sl ns h') (fun r hr => by walk_at "w"; exact ⟨by decide, by decide, hr⟩) ⟨none, none, none, none, none, none, none, none, none, none, none, none, none, none, none, none, rfl, dw0⟩ (fun _ _ _ _ _ => trivial) ?_ ?_
  · rintro i x s h' hx ⟨x2, x3, x4, x5, x6, x7, x8, x9, x10, x11, x12, x13, x14, x15, x16, x17, rfl, dw⟩
    walk_at "w"
    obtain ⟨d, dr⟩ := dw.isdr
    refine ⟨dl, sl, ns, d, 6, rfl, rfl, by decide, by decide, dr, fun g d' gok lv i0 b0 => ?_⟩
    have dw1 := dw.put i0 b0
    generalize updD h' dl (drL sl d') = H1 at dw1
    have hw := gok.wf (by decide)
    have gn := gok.n
    have gm := gok.m
    have g7 := gok.t
    have eg : eG g = .tup [.int (g.1 : Nat), .tup (g.2.map eE)] := rfl
    simp only [eg]
    walk_at "w"
    rw [for_b]
    walk_at "w"
    refine forB (xs := [.int (g.2.length : Nat), .int (-1), .bl true, .non, .str (Str.ofString "0")]) (fun i s h => ∃ x4, s = [some (.lsv (ns.map D.int)), some (.loc dl), some x, some (.tup [.int (g.1 : Nat), .tup (g.2.map eE)]), x4, x5, x6, x7, x8, x9, x10, x11, x12, x13, x14, x15, x16, x17] ∧ h = H1) ⟨_, rfl, rfl⟩ (fun _ _ _ _ _ => trivial) ?_ ?_
    · rintro j y s h hy ⟨x4, rfl, rfl⟩
      have hy := List.mem_of_getElem? hy
      have bad : NoEdge g y h := by
        simp at hy
        rcases hy with rfl | rfl | rfl | rfl | rfl
        · exact .inr ⟨_, rfl, .inr (Int.le_refl _)⟩
        · exact .inr ⟨_, rfl, .inl (by decide)⟩
        · exact .inl ⟨"bool", rfl, by decide⟩
        · exact .inl ⟨"NoneType", rfl, by decide⟩
        · exact .inl ⟨"str", rfl, by decide⟩
      walk_at "w"
      refine ⟨g, rfl, hw, by omega, by omega, g7, .inl bad, ?_⟩
      walk_at "w"
      exact ⟨_, rfl⟩
    rintro s h ⟨x4, rfl, rfl⟩
    walk_at "w"
    refine ⟨sz_big (by omega), (g.1, g.2 ++ [loop1]), ?_, wf_loop1 hw (by omega), by omega, by simp; omega, fun e he => ?_, .inr ⟨⟨0, rfl⟩, dead_loop1 hw (by omega)⟩, ?_⟩
    · unfold eG
      rw [List.map_append]; rfl
    · rcases List.mem_append.mp he with h | h
      · exact g7 e h
      · have : e = loop1 := by simpa using h
        rw [this]; decide
    by_cases c0 : 0 < g.2.length
    case neg =>
      simp! only [c0]
      exact ⟨_, _, _, _, _, _, _, _, _, _, _, _, _, _, _, _, rfl, dw1⟩
    simp! only [c0]
    refine draw_use dw1 g.2.length c0 (by omega) fun e0 H2 he0 dw2 keep2 => ?_
    simp only [show eN e0 = D.int ((e0 : Nat) : Int) from rfl]
    have h0m := List.mem_of_getElem? (gE_get he0)
    have ho0 := hw.es _ h0m
    simp! only [atE he0, eE_eq (gE g e0)]
    -- what bound tells
    refine ⟨g, rfl, hw, by omega, by omega, g7, .inr ⟨e0, rfl, he0, lv, fun nled ns1 L1 => ?_, fun ns1 c w hg bd => ?_⟩⟩
    · walk_at "w"
      refine ⟨g, (gE g e0).b, rfl, rfl, hw, ho0.b, by omega, fun ns2 L2 => ?_⟩
      obtain rfl := ledL_one L2 L1
      have ng : (gE g e0).a ∉ ns2 := fun z => nled ((L2.2 _).mp z)
      have lns : ns2.length ≤ g.1 := nodup_le (pw_nodup L2.1) fun v hv => led_lt hw ho0.b ((L2.2 v).mp hv)
      simp! only [dIn_tupN, ng]
      refine ⟨rfl, .tup (by simp) fun d hd => ?_, ?_⟩
      · have : d = .str (Str.ofString "free") ∨ d = .tup (ns2.map eN) := by simpa using hd
        rcases this with rfl | rfl
        · exact .str
        · refine .tup (by rw [List.length_map]; omega) fun d hd => ?_
          obtain ⟨v, _, rfl⟩ := List.mem_map.mp hd
          exact .int
      walk_at "w"
      refine lcEM (List.range g.1) eN (G := fun _ => True) (fun v => eN (if v ∈ ns2 then 0 else 5)) (fun r hr => by walk_at "w"; rw [rg0]; exact ⟨by omega, by omega, hr⟩) trivial (accMax_big (by rw [List.length_range]; omega)) (fun v hv Y hY => ?_) ?_
      · simp only [show eN v = D.int ((v : Nat) : Int) from rfl]
        by_cases cv : v ∈ ns2
        · simp! only [dIn_tupN, cv]
          refine ⟨.inl ⟨by decide, by decide⟩, ?_⟩
          rw [if_pos cv] at hY
          exact hY
        · simp! only [dIn_tupN, cv]
          refine ⟨.inl ⟨by decide, by decide⟩, ?_⟩
          rw [if_neg cv] at hY
          exact hY
      walk_at "w"
      intro pm hpm
      walk_at "w"
      refine ⟨g, pm, fun v => if v ∈ ns2 then 0 else 5, rfl, rfl, updD_same, hw, lv, fun e he => ?_, ?_⟩
      · show (if e.b ∈ ns2 then 0 else 5) ≤ e.t + (if e.a ∈ ns2 then 0 else 5)
        by_cases ha : e.a ∈ ns2
        · have : e.b ∈ ns2 := (L2.2 _).mpr (.on he ((L2.2 _).mp ha))
          rw [if_pos this]; exact Nat.zero_le _
        · rw [if_neg ha]
          split <;> omega
      have gm1 : atI (g.2.map fun e => eN (mk (fun v => if v ∈ ns2 then 0 else 5) e)) (e0 : Int) = some (.int ((gE g e0).t + 5 : Nat)) := atI_nat (by
        rw [List.getElem?_map, gE_get he0]
        show some (eN (mk _ (gE g e0))) = _
        unfold mk
        dsimp only
        rw [if_neg ng, if_pos ((L2.2 _).mpr .here)]
        rfl)
      have lt5 : ¬ (((gE g e0).t + 5 : Nat) : Int) < ((gE g e0).t : Nat) + 5 := by omega
      unfold eM
      simp! only [gm1, atE he0, eE_eq (gE g e0), lt5]
      exact ⟨_, _, _, _, _, _, _, _, _, _, _, _, _, _, _, _, rfl, dw2.new hpm⟩
    · skip
      have hs1 : (gE g e0).b ∈ ns1 := (bd.mem _).mpr .here
      have shown := bd_shown hw he0 bd hg
      have wlen := bd.len _ hg
      have chain := fun {c' : Nat → Nat} (bal : Bal0 g c') => chain_le bal (bd.way _ hg).1
      obtain ⟨_, wend, wtok⟩ := bd.way _ hg
      obtain ⟨ring, hring⟩ : ∃ ring, ring = e0 :: w (gE g e0).a := ⟨_, rfl⟩
      have rlen : ring.length ≤ 40001 := by rw [hring, List.length_cons]; omega
      have rpos : 0 < ring.length := by rw [hring, List.length_cons]; omega
      rw [← hring] at shown ⊢
      obtain ⟨cnt, hcnt⟩ : ∃ cnt : Nat, cnt = (gE g e0).t + c (gE g e0).a := ⟨_, rfl⟩
      rw [← hcnt] at shown ⊢
      obtain ⟨DD, hDD⟩ : ∃ DD, DD = (List.range g.1).map fun v => eOn (dist ns1 c v) := ⟨_, rfl⟩
      have eDD : distD g ns1 c = .tup DD := by rw [hDD]; rfl
      have lDD : DD.length = g.1 := by rw [hDD, List.length_map, List.length_range]
      have fDD : ∀ d ∈ DD, Fix d := fun d hd h' => by
        rw [hDD] at hd
        obtain ⟨v, _, rfl⟩ := List.mem_map.mp hd
        cases dist ns1 c v <;> exact ⟨_, rfl⟩
      have gDD : ∀ v, v < g.1 → atI DD (v : Int) = some (eOn (dist ns1 c v)) := fun v hv => by rw [hDD]; exact at_range _ hv
      rw [eDD] at shown ⊢
      walk_at "w"
      refine ⟨g, (gE g e0).b, rfl, rfl, hw, ho0.b, by omega, fun ns2 L2 => ?_⟩
      have same : ∀ v, v ∈ ns2 ↔ v ∈ ns1 := fun v => (L2.2 v).trans (bd.mem v).symm
      have hg2 : (gE g e0).a ∈ ns2 := (same _).mpr hg
      simp! only [dIn_tupN, hg2]
      refine ⟨rfl, .str, ?_⟩
      walk_at "w"
      have oR : ∀ h : DH, Odd h (.tup (ring.map eN)) := fun h => .tup (by rw [List.length_map]; omega) fixN
      have oD : ∀ h : DH, Odd h (.tup DD) := fun h => .tup (by omega) fDD
      refine ⟨g, rfl, hw, ⟨_, rfl⟩, ⟨_, rfl⟩, (oR _).vl, (oD _).vl, fun k hk => ?_⟩
      obtain rfl : k = true := hk.mpr shown
      walk_at "w"
      refine lcE (List.range g.1) eN (G := fun _ => True) (fun _ => false) eN (fun r hr => by walk_at "w"; rw [rg0]; exact ⟨by omega, by omega, hr⟩) trivial (accMax_big (by rw [List.length_range]; omega)) (fun v hv Y Z hY hZ => ?_) ?_
      · have hv := List.mem_range.mp hv
        have gv := gDD v hv
        simp only [show eN v = D.int ((v : Nat) : Int) from rfl]
        by_cases cv : v ∈ ns1
        · have cv2 := (same v).mpr cv
          rw [show dist ns1 c v = some (c v) from if_pos cv] at gv
          simp! only [gv, dIn_tupN, cv2, eOn, eN]
          exact hZ rfl
        · have cv2 : v ∉ ns2 := fun z => cv ((same v).mp z)
          rw [show dist ns1 c v = none from if_neg cv] at gv
          simp! only [gv, dIn_tupN, cv2, eOn]
          exact hZ rfl
      rw [show (List.range g.1).filter (fun _ => false) = [] from List.filter_eq_nil_iff.mpr fun _ _ z => nomatch z]
      walk_at "w"
      refine lcE (List.range g.1) (fun v => eOn (dist ns1 c v)) (G := fun _ => True) (fun v => decide (v ∈ ns1)) (fun v => eOn (dist ns1 c v)) (fun r hr => by walk_at "w"; rw [hDD]; exact hr) trivial (accMax_big (by rw [List.length_range]; omega)) (fun v hv Y Z hY hZ => ?_) ?_
      · by_cases cv : v ∈ ns1
        · rw [show dist ns1 c v = some (c v) from if_pos cv] at hY ⊢
          simp! only [eOn, eN]
          exact hY (decide_eq_true cv)
        · rw [show dist ns1 c v = none from if_neg cv]
          simp! only [eOn]
          exact hZ (decide_eq_false cv)
      have emap : ((List.range g.1).filter fun v => decide (v ∈ ns1)).map (fun v => eOn (dist ns1 c v)) = ((((List.range g.1).filter fun v => decide (v ∈ ns1)).map c).map fun (n : Nat) => (n : Int)).map D.int := by
        rw [List.map_map, List.map_map]
        apply List.map_congr_left
        intro v hv
        have hv := of_decide_eq_true (List.mem_filter.mp hv).2
        rw [show dist ns1 c v = some (c v) from if_pos hv]; rfl
      rw [emap]
      have memM : ∀ v, v < g.1 → v ∈ ns1 → c v ∈ ((List.range g.1).filter fun v => decide (v ∈ ns1)).map c := fun v hv h => List.mem_map.mpr ⟨v, List.mem_filter.mpr ⟨List.mem_range.mpr hv, decide_eq_true h⟩, rfl⟩
      generalize ((List.range g.1).filter fun v => decide (v ∈ ns1)).map c = ML at memM
      walk_at "w"
      refine ⟨ML.map fun (n : Nat) => (n : Int), rfl, ?_, fun m hm hmax => ?_⟩
      · rw [List.length_map]
        exact List.length_pos_of_mem (memM _ ho0.b hs1)
      obtain ⟨most, _, rfl⟩ := List.mem_map.mp hm
      have hmost : ∀ v, v < g.1 → v ∈ ns1 → c v ≤ most := fun v hv h => by
        have := hmax _ (List.mem_map.mpr ⟨_, memM v hv h, rfl⟩)
        omega
      walk_at "w"
      refine lcEM (List.range g.1) (fun v => eOn (dist ns1 c v)) (G := fun _ => True) (fun v => eN (if v ∈ ns1 then c v else most)) (fun r hr => by walk_at "w"; rw [hDD]; exact hr) trivial (accMax_big (by rw [List.length_range]; omega)) (fun v hv Y hY => ?_) ?_
      · by_cases cv : v ∈ ns1
        · rw [show dist ns1 c v = some (c v) from if_pos cv]
          rw [if_pos cv] at hY
          simp! only [eOn, eN]
          exact hY
        · rw [show dist ns1 c v = none from if_neg cv]
          rw [if_neg cv] at hY
          simp! only [eOn]
          exact hY
      walk_at "w"
      intro pm hpm
      walk_at "w"
      have balM : Bal0 g fun v => if v ∈ ns1 then c v else most := fun e he => by
        have ho := hw.es e he
        show (if e.b ∈ ns1 then c e.b else most) ≤ e.t + (if e.a ∈ ns1 then c e.a else most)
        by_cases ha : e.a ∈ ns1
        · have hb : e.b ∈ ns1 := (bd.mem _).mpr (.on he ((bd.mem _).mp ha))
          rw [if_pos hb, if_pos ha]
          have := bd.fin e he ha
          omega
        · rw [if_neg ha]
          split
          · rename_i hb
            have := hmost _ ho.b hb
            omega
          · omega
      refine ⟨g, pm, fun v => if v ∈ ns1 then c v else most, rfl, rfl, updD_same, hw, lv, balM, ?_⟩
      have gm1 : atI (g.2.map fun e => eN (mk (fun v => if v ∈ ns1 then c v else most) e)) (e0 : Int) = some (.int (cnt : Nat)) := atI_nat (by
        rw [List.getElem?_map, gE_get he0]
        show some (eN (mk _ (gE g e0))) = _
        unfold mk
        dsimp only
        rw [if_pos hg, if_pos hs1, bd.st, hcnt]
        rfl)
      unfold eM
      simp! only [gm1]
      have dw3 := dw2.new (o := .lst ((List.range g.1).map fun v => eN (if v ∈ ns1 then c v else most))) hpm
      generalize updD H2 pm (.lst ((List.range g.1).map fun v => eN (if v ∈ ns1 then c v else most))) = H3 at dw3
      rw [for_b]
      walk_at "w"
      refine ⟨by decide, by decide, ?_⟩
      refine forB (fun i s h => ∃ x13 y16 y17, s = [some (.lsv (ns.map D.int)), some (.loc dl), some x, some (.tup [.int (g.1 : Nat), .tup (g.2.map eE)]), x4, some (.int (e0 : Nat)), some (.int ((gE g e0).b : Nat)), some (.int ((gE g e0).a : Nat)), some (.tup [.str (Str.ofString "bound"), .int (cnt : Nat), .tup (ring.map eN), .tup DD]), some (.tup (ns2.map eN)), some (.tup (g.2.map fun e => eN (mk (fun v => if v ∈ ns1 then c v else most) e))), some (.tup [.int (e0 : Nat), .int (cnt : Nat), .tup (ring.map eN), .tup DD]), some (.int (most : Nat)), x13, x14, x15, y16, y17] ∧ Dw B0 dl sl ns h) ⟨_, _, _, rfl, dw3⟩ (fun _ _ _ _ _ => trivial) ?_ ?_
      · rintro j y s h hy ⟨x13, y16, y17, rfl, dw4⟩
        obtain ⟨d4, dr4⟩ := dw4.isdr
        walk_at "w"
        refine ⟨dl, sl, ns, d4, g, 20, rfl, rfl, rfl, by omega, hw, dr4, fun cr d5 pc run i5 b5 hpc npc => ?_⟩
        have dw5 := (dw4.put i5 b5).new (o := cntD g cr) (p := pc) (by rw [updD_ne npc]; exact hpc)
        have gr : atI (g.2.map fun e => eN (mk cr e)) (e0 : Int) = some (.int (mk cr (gE g e0) : Nat)) := atI_nat (by rw [List.getElem?_map, gE_get he0]; rfl)
        have le : ¬ cnt < mk cr (gE g e0) := by
          have h1 := chain run.bal
          rw [wend, wtok] at h1
          rw [hcnt]
          unfold mk
          omega
        unfold eM
        simp! only [gr, le]
        exact ⟨_, _, _, rfl, dw5⟩
      rintro s h ⟨x13, y16, y17, rfl, dw4⟩
      walk_at "w"
      rw [for_b]
      walk_at "w"
      obtain ⟨d4, dr4⟩ := dw4.isdr
      have eEd : ∃ E : List D, D.tup (g.2.map eE) = .tup E ∧ E.length ≤ 100000 ∧ ∀ d ∈ E, Fix d := ⟨_, rfl, by rw [List.length_map]; omega, fixE⟩
      refine ⟨dl, sl, ns, d4, (e0 : Int), (cnt : Int), ring.map eN, DD, rfl, rfl, eEd, by rw [List.length_map]; exact rpos, by rw [List.length_map]; omega, by rw [lDD]; exact gok.pos, by omega, fixN, fDD, dr4, fun p1 H4 a0 a1 a2 a3 dw5 lp1 np1 oa0 oa1 oa2 oa3 => ?_⟩
      walk_at "w"
      obtain ⟨d5, dr5⟩ := dw5.isdr
      refine ⟨dl, sl, ns, d5, (e0 : Int), (cnt : Int), ring.map eN, DD, rfl, rfl, eEd, by rw [List.length_map]; exact rpos, by rw [List.length_map]; omega, by rw [lDD]; exact gok.pos, by omega, fixN, fDD, dr5, fun p2 H5 c0' c1 c2 c3 dw6 lp2 np2 oc0 oc1 oc2 oc3 => ?_⟩
      have dwF := (dw4.trans dw5).trans dw6
      have lp1' := dw6.keep np1 lp1
      have ob0 := oa0.mono dw6.lists
      have ob1 := oa1.mono dw6.lists
      have ob2 := oa2.mono dw6.lists
      have ob3 := oa3.mono dw6.lists
      walk_at "w"
      refine forB (xs := [.tup [.int (e0 : Nat), .int (cnt : Nat), .tup (ring.map eN), .tup DD], .loc p1, .loc p2]) (fun i s h => ∃ x13 x14 x15 y16 y17, s = [some (.lsv (ns.map D.int)), some (.loc dl), some x, some (.tup [.int (g.1 : Nat), .tup (g.2.map eE)]), x4, some (.int (e0 : Nat)), some (.int ((gE g e0).b : Nat)), some (.int ((gE g e0).a : Nat)), some (.tup [.str (Str.ofString "bound"), .int (cnt : Nat), .tup (ring.map eN), .tup DD]), some (.tup (ns2.map eN)), some (.tup (g.2.map fun e => eN (mk (fun v => if v ∈ ns1 then c v else most) e))), some (.tup [.int (e0 : Nat), .int (cnt : Nat), .tup (ring.map eN), .tup DD]), some (.int (most : Nat)), x13, x14, x15, y16, y17] ∧ h = H5) ⟨_, _, _, _, _, rfl, rfl⟩ (fun _ _ _ _ _ => trivial) ?_ ?_
      · rintro j y s h hy ⟨x13, x14, x15, y16, y17, rfl, rfl⟩
        have hy := List.mem_of_getElem? hy
        have four : ∃ y0 y1 y2 y3, Odd h y0 ∧ Odd h y1 ∧ Odd h y2 ∧ Odd h y3 ∧ (y = .tup [y0, y1, y2, y3] ∨ ∃ p, y = .loc p ∧ h p = some (.lst [y0, y1, y2, y3])) := by
          simp only [List.mem_cons, List.not_mem_nil, or_false] at hy
          rcases hy with rfl | rfl | rfl
          · exact ⟨_, _, _, _, .int, .int, oR _, oD _, .inl rfl⟩
          · exact ⟨_, _, _, _, ob0, ob1, ob2, ob3, .inr ⟨p1, rfl, lp1'⟩⟩
          · exact ⟨_, _, _, _, oc0, oc1, oc2, oc3, .inr ⟨p2, rfl, lp2⟩⟩
        obtain ⟨y0, y1, y2, y3, o0, o1, o2, o3, hy⟩ := four
        rcases hy with rfl | ⟨p, rfl, lp⟩
        · walk_at "w"
          refine ⟨g, rfl, hw, o0.ty, o1.ty, o2.vl, o3.vl, fun k1 hk1 => ?_⟩
          walk_at "w"
          refine ⟨g, rfl, hw, o0.ty, o1.ty, o2.vl, o3.vl, fun k2 hk2 => ?_⟩
          have : k1 = k2 := Bool.eq_iff_iff.mpr (hk1.trans hk2.symm)
          subst this
          walk_at "w"
          refine ⟨rfl, .bl, ?_⟩
          walk_at "w"
          exact ⟨_, _, _, _, _, rfl⟩
        · simp! only [lp]
          refine ⟨g, rfl, hw, o0.ty, o1.ty, o2.vl, o3.vl, fun k1 hk1 => ?_⟩
          simp! only [lp]
          refine ⟨g, rfl, hw, o0.ty, o1.ty, o2.vl, o3.vl, fun k2 hk2 => ?_⟩
          have : k1 = k2 := Bool.eq_iff_iff.mpr (hk1.trans hk2.symm)
          subst this
          walk_at "w"
          refine ⟨rfl, .bl, ?_⟩
          walk_at "w"
          exact ⟨_, _, _, _, _, rfl⟩
      · rintro s h ⟨x13, x14, x15, y16, y17, rfl, rfl⟩
        exact ⟨_, _, _, _, _, _, _, _, _, _, _, _, _, _, _, _, rfl, dwF⟩
  · rintro s h' ⟨x2, x3, x4, x5, x6, x7, x8, x9, x10, x11, x12, x13, x14, x15, x16, x17, rfl, dw⟩
    walk_at "w"
    exact ⟨b, dw.sub hdl sb0, hq⟩
end
end K

set_option Elab.async false
set_option linter.all false
set_option maxRecDepth 100000
set_option maxHeartbeats 4000000
namespace K
open PySem PySem.Spec PyProof.Rows L2 DL
/-- an error of the class at S is what «except S» names -/
theorem kit_cls' {K : PySem.W.Frag} {S : Addr} {c : Value} (h2 : PySem.W.isClsIn K S = true) (h3 : PySem.W.typeIn K (.ref S) = some (.type "type")) (h4 : PySem.W.subIn K c (.ref S) = some true) : PySem.W.kitCls K c (.ref S) = some true := by
  have e2 : ((PySem.W.clsIn K S).isSome && PySem.W.typeIn K (.ref S) == some (.type "type")) = true := by
    have h2' : (PySem.W.clsIn K S).isSome = true := h2
    rw [h2', h3] <;> rfl
  show (if ((PySem.W.clsIn K S).isSome && PySem.W.typeIn K (.ref S) == some (.type "type")) = true then PySem.W.subIn K c (.ref S) else none) = some true
  rw [if_pos e2]
  exact h4
theorem exm_self {K : PySem.W.Frag} {S : Addr} (h1 : PySem.W.subIn K (.ref S) (.type "BaseException") = some true) (h2 : PySem.W.isClsIn K S = true) (h3 : PySem.W.typeIn K (.ref S) = some (.type "type")) (h4 : PySem.W.subIn K (.ref S) (.ref S) = some true) :
    PySem.W.exmOne K (.ref S) (.ref S) = some true := by
  have e1 : (PySem.W.subIn K (.ref S) (.type "BaseException") == some true) = true := by rw [h1] <;> rfl
  unfold PySem.W.exmOne
  rw [if_pos e1]
  exact kit_cls' h2 h3 h4
theorem kit_sub {K : PySem.W.Frag} {S : Addr} {c : Value} (h2 : PySem.W.isClsIn K S = true) (h3 : PySem.W.typeIn K (.ref S) = some (.type "type")) (h4 : PySem.W.subIn K c (.ref S) = some true) : PySem.W.kitOne K c (.ref S) = some true := by
  unfold PySem.W.kitOne
  split
  · rfl
  · exact kit_cls' h2 h3 h4
theorem sp_start {K : PySem.W.Frag} {H : Hp} {a : Addr} {ns : List Int} (hl : ns.length ≤ 63) (hO : Only H) (hS : SqL K H a (ns.map V.int)) : liftSp K sp_law [.ref a] H (fun v _ => v = .bl true) fun _ _ _ => False := by
  have hr : Reps K H (ns.map V.int) (ns.map D.int) := by
    clear hl hS
    induction ns with
    | nil => exact .nil
    | cons n r ih => exact .cons (.int n) ih
  refine ⟨[.lsv (ns.map D.int)], fun _ => none, fun d _ => d = .bl true, fun _ _ _ => False, .cons (.lsv (frz_of hO hS) hr) .nil, (fun a u z => nomatch z), ?_, ?_, fun _ _ _ z => z.elim⟩
  · exact ⟨ns, rfl, by omega, rfl⟩
  · intro d h1 z v H1 g r
    subst z
    exact r.bl_inv
theorem cx_none {P : Program} {w : World} {H : Hp} {s : Shared} {e : Value} {s' : Shared} (z : L2.CX P w [] H s (fun _ _ _ => False) e s') : False := by
  obtain ⟨_, _, _, _, _, _, _, _, _, _, _, _, z⟩ := z
  exact z
theorem all_mk {P : Program} {w : World} {K : PySem.W.Frag} {h : Heap} {mg : Str → Option Value} {fa C_DelayError C_BadNet f0 f1 f2 f3 f4 f5 f6 f7 f8 f9 f10 f11 f12 f13 f14 f15 f16 f17 f18 f19 f20 f21 f22 f23 f24 f25 f26 f27 f28 f29 f30 f31 f32 : Addr} (X : K.In h) (G : h.Ns mainGlobals mg) (hfa : mg "law" = some (.ref fa))
    {od0 an0 od1 an1 od2 an2 od3 an3 od4 an4 od5 an5 od6 an6 od7 an7 od8 an8 od9 an9 od10 an10 od11 an11 od12 an12 od13 an13 od14 an14 od15 an15 od16 an16 od17 an17 od18 an18 od19 an19 od20 an20 od21 an21 od22 an22 od23 an23 od24 an24 od25 an25 od26 an26 od27 an27 od28 an28 od29 an29 od30 an30 od31 an31 od32 an32 : Option Addr} {sl0 sl1 sl2 sl3 sl4 sl5 sl6 sl7 sl8 sl9 sl10 sl11 sl12 sl13 sl14 sl15 sl16 sl17 sl18 sl19 sl20 sl21 sl22 sl23 sl24 sl25 sl26 sl27 sl28 sl29 sl30 sl31 sl32 : Array (Option Value)} {oc0 kV0 dc0 pm0 cd0 ct0 oc1 kV1 dc1 pm1 cd1 ct1 oc2 kV2 dc2 pm2 cd2 ct2 oc3 kV3 dc3 pm3 cd3 ct3 oc4 kV4 dc4 pm4 cd4 ct4 oc5 kV5 dc5 pm5 cd5 ct5 oc6 kV6 dc6 pm6 cd6 ct6 oc7 kV7 dc7 pm7 cd7 ct7 oc8 kV8 dc8 pm8 cd8 ct8 oc9 kV9 dc9 pm9 cd9 ct9 oc10 kV10 dc10 pm10 cd10 ct10 oc11 kV11 dc11 pm11 cd11 ct11 oc12 kV12 dc12 pm12 cd12 ct12 oc13 kV13 dc13 pm13 cd13 ct13 oc14 kV14 dc14 pm14 cd14 ct14 oc15 kV15 dc15 pm15 cd15 ct15 oc16 kV16 dc16 pm16 cd16 ct16 oc17 kV17 dc17 pm17 cd17 ct17 oc18 kV18 dc18 pm18 cd18 ct18 oc19 kV19 dc19 pm19 cd19 ct19 oc20 kV20 dc20 pm20 cd20 ct20 oc21 kV21 dc21 pm21 cd21 ct21 oc22 kV22 dc22 pm22 cd22 ct22 oc23 kV23 dc23 pm23 cd23 ct23 oc24 kV24 dc24 pm24 cd24 ct24 oc25 kV25 dc25 pm25 cd25 ct25 oc26 kV26 dc26 pm26 cd26 ct26 oc27 kV27 dc27 pm27 cd27 ct27 oc28 kV28 dc28 pm28 cd28 ct28 oc29 kV29 dc29 pm29 cd29 ct29 oc30 kV30 dc30 pm30 cd30 ct30 oc31 kV31 dc31 pm31 cd31 ct31 oc32 kV32 dc32 pm32 cd32 ct32 : Value}
    (a0 : PySem.W.nsIn K mainGlobals "common" = some (some (.ref f0))) (l0 : K.lookup f0 = some ⟨oc0, od0, .func (PySem.W.fnOf "common" "common" (defArgs st_common) (defBody st_common) (defScope st_common) .none kV0 dc0 pm0 an0 cd0 ct0), sl0⟩) (c0 : PySem.W.codeIn K cd0 "common" = true) (k0 : PySem.W.keepIn K (.ref f0) = true)
    (a1 : PySem.W.nsIn K mainGlobals "is_ratio" = some (some (.ref f1))) (l1 : K.lookup f1 = some ⟨oc1, od1, .func (PySem.W.fnOf "is_ratio" "is_ratio" (defArgs st_is_ratio) (defBody st_is_ratio) (defScope st_is_ratio) .none kV1 dc1 pm1 an1 cd1 ct1), sl1⟩) (c1 : PySem.W.codeIn K cd1 "is_ratio" = true) (k1 : PySem.W.keepIn K (.ref f1) = true)
    (a2 : PySem.W.nsIn K mainGlobals "is_integer" = some (some (.ref f2))) (l2 : K.lookup f2 = some ⟨oc2, od2, .func (PySem.W.fnOf "is_integer" "is_integer" (defArgs st_is_integer) (defBody st_is_integer) (defScope st_is_integer) .none kV2 dc2 pm2 an2 cd2 ct2), sl2⟩) (c2 : PySem.W.codeIn K cd2 "is_integer" = true) (k2 : PySem.W.keepIn K (.ref f2) = true)
    (a3 : PySem.W.nsIn K mainGlobals "look_at_graph" = some (some (.ref f3))) (l3 : K.lookup f3 = some ⟨oc3, od3, .func (PySem.W.fnOf "look_at_graph" "look_at_graph" (defArgs st_look_at_graph) (defBody st_look_at_graph) (defScope st_look_at_graph) .none kV3 dc3 pm3 an3 cd3 ct3), sl3⟩) (c3 : PySem.W.codeIn K cd3 "look_at_graph" = true) (k3 : PySem.W.keepIn K (.ref f3) = true)
    (a4 : PySem.W.nsIn K mainGlobals "is_edge" = some (some (.ref f4))) (l4 : K.lookup f4 = some ⟨oc4, od4, .func (PySem.W.fnOf "is_edge" "is_edge" (defArgs st_is_edge) (defBody st_is_edge) (defScope st_is_edge) .none kV4 dc4 pm4 an4 cd4 ct4), sl4⟩) (c4 : PySem.W.codeIn K cd4 "is_edge" = true) (k4 : PySem.W.keepIn K (.ref f4) = true)
    (a5 : PySem.W.nsIn K mainGlobals "empty_ring" = some (some (.ref f5))) (l5 : K.lookup f5 = some ⟨oc5, od5, .func (PySem.W.fnOf "empty_ring" "empty_ring" (defArgs st_empty_ring) (defBody st_empty_ring) (defScope st_empty_ring) .none kV5 dc5 pm5 an5 cd5 ct5), sl5⟩) (c5 : PySem.W.codeIn K cd5 "empty_ring" = true) (k5 : PySem.W.keepIn K (.ref f5) = true)
    (a6 : PySem.W.nsIn K mainGlobals "ranks_of" = some (some (.ref f6))) (l6 : K.lookup f6 = some ⟨oc6, od6, .func (PySem.W.fnOf "ranks_of" "ranks_of" (defArgs st_ranks_of) (defBody st_ranks_of) (defScope st_ranks_of) .none kV6 dc6 pm6 an6 cd6 ct6), sl6⟩) (c6 : PySem.W.codeIn K cd6 "ranks_of" = true) (k6 : PySem.W.keepIn K (.ref f6) = true)
    (a7 : PySem.W.nsIn K mainGlobals "is_way" = some (some (.ref f7))) (l7 : K.lookup f7 = some ⟨oc7, od7, .func (PySem.W.fnOf "is_way" "is_way" (defArgs st_is_way) (defBody st_is_way) (defScope st_is_way) .none kV7 dc7 pm7 an7 cd7 ct7), sl7⟩) (c7 : PySem.W.codeIn K cd7 "is_way" = true) (k7 : PySem.W.keepIn K (.ref f7) = true)
    (a8 : PySem.W.nsIn K mainGlobals "is_ring" = some (some (.ref f8))) (l8 : K.lookup f8 = some ⟨oc8, od8, .func (PySem.W.fnOf "is_ring" "is_ring" (defArgs st_is_ring) (defBody st_is_ring) (defScope st_is_ring) .none kV8 dc8 pm8 an8 cd8 ct8), sl8⟩) (c8 : PySem.W.codeIn K cd8 "is_ring" = true) (k8 : PySem.W.keepIn K (.ref f8) = true)
    (a9 : PySem.W.nsIn K mainGlobals "bound" = some (some (.ref f9))) (l9 : K.lookup f9 = some ⟨oc9, od9, .func (PySem.W.fnOf "bound" "bound" (defArgs st_bound) (defBody st_bound) (defScope st_bound) .none kV9 dc9 pm9 an9 cd9 ct9), sl9⟩) (c9 : PySem.W.codeIn K cd9 "bound" = true) (k9 : PySem.W.keepIn K (.ref f9) = true)
    (a10 : PySem.W.nsIn K mainGlobals "proves_bound" = some (some (.ref f10))) (l10 : K.lookup f10 = some ⟨oc10, od10, .func (PySem.W.fnOf "proves_bound" "proves_bound" (defArgs st_proves_bound) (defBody st_proves_bound) (defScope st_proves_bound) .none kV10 dc10 pm10 an10 cd10 ct10), sl10⟩) (c10 : PySem.W.codeIn K cd10 "proves_bound" = true) (k10 : PySem.W.keepIn K (.ref f10) = true)
    (a11 : PySem.W.nsIn K mainGlobals "_law_draws" = some (some (.ref f11))) (l11 : K.lookup f11 = some ⟨oc11, od11, .func (PySem.W.fnOf "_law_draws" "_law_draws" (defArgs st__law_draws) (defBody st__law_draws) (defScope st__law_draws) .none kV11 dc11 pm11 an11 cd11 ct11), sl11⟩) (c11 : PySem.W.codeIn K cd11 "_law_draws" = true) (k11 : PySem.W.keepIn K (.ref f11) = true)
    (a12 : PySem.W.nsIn K mainGlobals "_law_draw" = some (some (.ref f12))) (l12 : K.lookup f12 = some ⟨oc12, od12, .func (PySem.W.fnOf "_law_draw" "_law_draw" (defArgs st__law_draw) (defBody st__law_draw) (defScope st__law_draw) .none kV12 dc12 pm12 an12 cd12 ct12), sl12⟩) (c12 : PySem.W.codeIn K cd12 "_law_draw" = true) (k12 : PySem.W.keepIn K (.ref f12) = true)
    (a13 : PySem.W.nsIn K mainGlobals "_law_same" = some (some (.ref f13))) (l13 : K.lookup f13 = some ⟨oc13, od13, .func (PySem.W.fnOf "_law_same" "_law_same" (defArgs st__law_same) (defBody st__law_same) (defScope st__law_same) .none kV13 dc13 pm13 an13 cd13 ct13), sl13⟩) (c13 : PySem.W.codeIn K cd13 "_law_same" = true) (k13 : PySem.W.keepIn K (.ref f13) = true)
    (a14 : PySem.W.nsIn K mainGlobals "_law_gcd" = some (some (.ref f14))) (l14 : K.lookup f14 = some ⟨oc14, od14, .func (PySem.W.fnOf "_law_gcd" "_law_gcd" (defArgs st__law_gcd) (defBody st__law_gcd) (defScope st__law_gcd) .none kV14 dc14 pm14 an14 cd14 ct14), sl14⟩) (c14 : PySem.W.codeIn K cd14 "_law_gcd" = true) (k14 : PySem.W.keepIn K (.ref f14) = true)
    (a15 : PySem.W.nsIn K mainGlobals "_law_ratio" = some (some (.ref f15))) (l15 : K.lookup f15 = some ⟨oc15, od15, .func (PySem.W.fnOf "_law_ratio" "_law_ratio" (defArgs st__law_ratio) (defBody st__law_ratio) (defScope st__law_ratio) .none kV15 dc15 pm15 an15 cd15 ct15), sl15⟩) (c15 : PySem.W.codeIn K cd15 "_law_ratio" = true) (k15 : PySem.W.keepIn K (.ref f15) = true)
    (a16 : PySem.W.nsIn K mainGlobals "_law_graph" = some (some (.ref f16))) (l16 : K.lookup f16 = some ⟨oc16, od16, .func (PySem.W.fnOf "_law_graph" "_law_graph" (defArgs st__law_graph) (defBody st__law_graph) (defScope st__law_graph) .none kV16 dc16 pm16 an16 cd16 ct16), sl16⟩) (c16 : PySem.W.codeIn K cd16 "_law_graph" = true) (k16 : PySem.W.keepIn K (.ref f16) = true)
    (a17 : PySem.W.nsIn K mainGlobals "_law_stuck" = some (some (.ref f17))) (l17 : K.lookup f17 = some ⟨oc17, od17, .func (PySem.W.fnOf "_law_stuck" "_law_stuck" (defArgs st__law_stuck) (defBody st__law_stuck) (defScope st__law_stuck) .none kV17 dc17 pm17 an17 cd17 ct17), sl17⟩) (c17 : PySem.W.codeIn K cd17 "_law_stuck" = true) (k17 : PySem.W.keepIn K (.ref f17) = true)
    (a18 : PySem.W.nsIn K mainGlobals "_law_is_whole" = some (some (.ref f18))) (l18 : K.lookup f18 = some ⟨oc18, od18, .func (PySem.W.fnOf "_law_is_whole" "_law_is_whole" (defArgs st__law_is_whole) (defBody st__law_is_whole) (defScope st__law_is_whole) .none kV18 dc18 pm18 an18 cd18 ct18), sl18⟩) (c18 : PySem.W.codeIn K cd18 "_law_is_whole" = true) (k18 : PySem.W.keepIn K (.ref f18) = true)
    (a19 : PySem.W.nsIn K mainGlobals "_law_is_way" = some (some (.ref f19))) (l19 : K.lookup f19 = some ⟨oc19, od19, .func (PySem.W.fnOf "_law_is_way" "_law_is_way" (defArgs st__law_is_way) (defBody st__law_is_way) (defScope st__law_is_way) .none kV19 dc19 pm19 an19 cd19 ct19), sl19⟩) (c19 : PySem.W.codeIn K cd19 "_law_is_way" = true) (k19 : PySem.W.keepIn K (.ref f19) = true)
    (a20 : PySem.W.nsIn K mainGlobals "_law_is_ring" = some (some (.ref f20))) (l20 : K.lookup f20 = some ⟨oc20, od20, .func (PySem.W.fnOf "_law_is_ring" "_law_is_ring" (defArgs st__law_is_ring) (defBody st__law_is_ring) (defScope st__law_is_ring) .none kV20 dc20 pm20 an20 cd20 ct20), sl20⟩) (c20 : PySem.W.codeIn K cd20 "_law_is_ring" = true) (k20 : PySem.W.keepIn K (.ref f20) = true)
    (a21 : PySem.W.nsIn K mainGlobals "_law_tokens" = some (some (.ref f21))) (l21 : K.lookup f21 = some ⟨oc21, od21, .func (PySem.W.fnOf "_law_tokens" "_law_tokens" (defArgs st__law_tokens) (defBody st__law_tokens) (defScope st__law_tokens) .none kV21 dc21 pm21 an21 cd21 ct21), sl21⟩) (c21 : PySem.W.codeIn K cd21 "_law_tokens" = true) (k21 : PySem.W.keepIn K (.ref f21) = true)
    (a22 : PySem.W.nsIn K mainGlobals "_law_fed" = some (some (.ref f22))) (l22 : K.lookup f22 = some ⟨oc22, od22, .func (PySem.W.fnOf "_law_fed" "_law_fed" (defArgs st__law_fed) (defBody st__law_fed) (defScope st__law_fed) .none kV22 dc22 pm22 an22 cd22 ct22), sl22⟩) (c22 : PySem.W.codeIn K cd22 "_law_fed" = true) (k22 : PySem.W.keepIn K (.ref f22) = true)
    (a23 : PySem.W.nsIn K mainGlobals "_law_fired" = some (some (.ref f23))) (l23 : K.lookup f23 = some ⟨oc23, od23, .func (PySem.W.fnOf "_law_fired" "_law_fired" (defArgs st__law_fired) (defBody st__law_fired) (defScope st__law_fired) .none kV23 dc23 pm23 an23 cd23 ct23), sl23⟩) (c23 : PySem.W.codeIn K cd23 "_law_fired" = true) (k23 : PySem.W.keepIn K (.ref f23) = true)
    (a24 : PySem.W.nsIn K mainGlobals "_law_first" = some (some (.ref f24))) (l24 : K.lookup f24 = some ⟨oc24, od24, .func (PySem.W.fnOf "_law_first" "_law_first" (defArgs st__law_first) (defBody st__law_first) (defScope st__law_first) .none kV24 dc24 pm24 an24 cd24 ct24), sl24⟩) (c24 : PySem.W.codeIn K cd24 "_law_first" = true) (k24 : PySem.W.keepIn K (.ref f24) = true)
    (a25 : PySem.W.nsIn K mainGlobals "_law_strolled" = some (some (.ref f25))) (l25 : K.lookup f25 = some ⟨oc25, od25, .func (PySem.W.fnOf "_law_strolled" "_law_strolled" (defArgs st__law_strolled) (defBody st__law_strolled) (defScope st__law_strolled) .none kV25 dc25 pm25 an25 cd25 ct25), sl25⟩) (c25 : PySem.W.codeIn K cd25 "_law_strolled" = true) (k25 : PySem.W.keepIn K (.ref f25) = true)
    (a26 : PySem.W.nsIn K mainGlobals "_law_live_graph" = some (some (.ref f26))) (l26 : K.lookup f26 = some ⟨oc26, od26, .func (PySem.W.fnOf "_law_live_graph" "_law_live_graph" (defArgs st__law_live_graph) (defBody st__law_live_graph) (defScope st__law_live_graph) .none kV26 dc26 pm26 an26 cd26 ct26), sl26⟩) (c26 : PySem.W.codeIn K cd26 "_law_live_graph" = true) (k26 : PySem.W.keepIn K (.ref f26) = true)
    (a27 : PySem.W.nsIn K mainGlobals "_law_led" = some (some (.ref f27))) (l27 : K.lookup f27 = some ⟨oc27, od27, .func (PySem.W.fnOf "_law_led" "_law_led" (defArgs st__law_led) (defBody st__law_led) (defScope st__law_led) .none kV27 dc27 pm27 an27 cd27 ct27), sl27⟩) (c27 : PySem.W.codeIn K cd27 "_law_led" = true) (k27 : PySem.W.keepIn K (.ref f27) = true)
    (a28 : PySem.W.nsIn K mainGlobals "_law_reached" = some (some (.ref f28))) (l28 : K.lookup f28 = some ⟨oc28, od28, .func (PySem.W.fnOf "_law_reached" "_law_reached" (defArgs st__law_reached) (defBody st__law_reached) (defScope st__law_reached) .none kV28 dc28 pm28 an28 cd28 ct28), sl28⟩) (c28 : PySem.W.codeIn K cd28 "_law_reached" = true) (k28 : PySem.W.keepIn K (.ref f28) = true)
    (a29 : PySem.W.nsIn K mainGlobals "_law_shown" = some (some (.ref f29))) (l29 : K.lookup f29 = some ⟨oc29, od29, .func (PySem.W.fnOf "_law_shown" "_law_shown" (defArgs st__law_shown) (defBody st__law_shown) (defScope st__law_shown) .none kV29 dc29 pm29 an29 cd29 ct29), sl29⟩) (c29 : PySem.W.codeIn K cd29 "_law_shown" = true) (k29 : PySem.W.keepIn K (.ref f29) = true)
    (a30 : PySem.W.nsIn K mainGlobals "_law_bent" = some (some (.ref f30))) (l30 : K.lookup f30 = some ⟨oc30, od30, .func (PySem.W.fnOf "_law_bent" "_law_bent" (defArgs st__law_bent) (defBody st__law_bent) (defScope st__law_bent) .none kV30 dc30 pm30 an30 cd30 ct30), sl30⟩) (c30 : PySem.W.codeIn K cd30 "_law_bent" = true) (k30 : PySem.W.keepIn K (.ref f30) = true)
    (a31 : PySem.W.nsIn K mainGlobals "_law_refused" = some (some (.ref f31))) (l31 : K.lookup f31 = some ⟨oc31, od31, .func (PySem.W.fnOf "_law_refused" "_law_refused" (defArgs st__law_refused) (defBody st__law_refused) (defScope st__law_refused) .none kV31 dc31 pm31 an31 cd31 ct31), sl31⟩) (c31 : PySem.W.codeIn K cd31 "_law_refused" = true) (k31 : PySem.W.keepIn K (.ref f31) = true)
    (a32 : PySem.W.nsIn K mainGlobals "law" = some (some (.ref f32))) (l32 : K.lookup f32 = some ⟨oc32, od32, .func (PySem.W.fnOf "law" "law" (defArgs st_law) (defBody st_law) (defScope st_law) .none kV32 dc32 pm32 an32 cd32 ct32), sl32⟩) (c32 : PySem.W.codeIn K cd32 "law" = true) (k32 : PySem.W.keepIn K (.ref f32) = true)
    (z_abs : PySem.W.nsIn K mainGlobals "abs" = some none)
    (z_all : PySem.W.nsIn K mainGlobals "all" = some none)
    (z_bool : PySem.W.nsIn K mainGlobals "bool" = some none)
    (z_enumerate : PySem.W.nsIn K mainGlobals "enumerate" = some none)
    (z_int : PySem.W.nsIn K mainGlobals "int" = some none)
    (z_isinstance : PySem.W.nsIn K mainGlobals "isinstance" = some none)
    (z_len : PySem.W.nsIn K mainGlobals "len" = some none)
    (z_list : PySem.W.nsIn K mainGlobals "list" = some none)
    (z_max : PySem.W.nsIn K mainGlobals "max" = some none)
    (z_range : PySem.W.nsIn K mainGlobals "range" = some none)
    (z_set : PySem.W.nsIn K mainGlobals "set" = some none)
    (z_sorted : PySem.W.nsIn K mainGlobals "sorted" = some none)
    (z_str : PySem.W.nsIn K mainGlobals "str" = some none)
    (z_sum : PySem.W.nsIn K mainGlobals "sum" = some none)
    (z_tuple : PySem.W.nsIn K mainGlobals "tuple" = some none)
    (g_DelayError : PySem.W.nsIn K mainGlobals "DelayError" = some (some (.ref C_DelayError))) (x_DelayError : PySem.W.excIn K C_DelayError [.type "ValueError", .type "Exception", .type "BaseException", .type "object"] "ValueError.__new__" = true) (kk_DelayError : PySem.W.keepIn K (.ref C_DelayError) = true) (b_DelayError : PySem.W.subIn K (.ref C_DelayError) (.type "BaseException") = some true) (t_DelayError : PySem.W.typeIn K (.ref C_DelayError) = some (.type "type"))
    (g_BadNet : PySem.W.nsIn K mainGlobals "BadNet" = some (some (.ref C_BadNet))) (x_BadNet : PySem.W.excIn K C_BadNet [.type "ValueError", .type "Exception", .type "BaseException", .type "object"] "ValueError.__new__" = true) (kk_BadNet : PySem.W.keepIn K (.ref C_BadNet) = true) (b_BadNet : PySem.W.subIn K (.ref C_BadNet) (.type "BaseException") = some true) (t_BadNet : PySem.W.typeIn K (.ref C_BadNet) = some (.type "type"))
    (e1 : PySem.W.findIn K (.ref C_BadNet) "__getattribute__" = some (some (.builtin "BaseException.__getattribute__"))) (e2 : PySem.W.findIn K (.ref C_BadNet) "__getattr__" = some none) (e4 : PySem.W.hasDictIn K C_BadNet = true) (e5 : PySem.W.findIn K (.ref C_BadNet) "__class__" = some (some (.builtin "object.__class__"))) (e6 : PySem.W.specialIn K (.builtin "object.__class__") "__get__" = some (some (.builtin "getset_descriptor.__get__"))) (e7 : PySem.W.takesIn K (.builtin "object.__class__") = some true) (e8 : PySem.W.mroIn K C_BadNet (.type "object") = some true) (e9 : PySem.W.isClsIn K C_BadNet = true) (e10 : PySem.W.subIn K (.ref C_BadNet) (.ref C_BadNet) = some true) (e11 : PySem.W.subIn K (.ref C_BadNet) (.ref C_DelayError) = some true) (e12 : PySem.W.isClsIn K C_DelayError = true)
    : ∃ fd : FuncData, (∀ (s : Shared) (v : Value), BindsTo s fd ⟨[v], []⟩ [("script", v)]) ∧ ∀ base : Heap, K.In base → base.Ns mainGlobals mg → FnOk P w K mg base (L2.CX P w) 8 fa fd ["script"] (liftSp K sp_law) := by
  have F0 := fun_mk (st := st_common) l0 c0 k0
  have A0 : DefAt K mg "common" st_common ["a", "b"] := ⟨f0, _, PySem.W.mg_of X G a0, F0, F0.binds (ps := ["a", "b"]) fun _ _ _ _ _ _ us hl => match us, hl with | [_, _], _ => rfl⟩
  have F1 := fun_mk (st := st_is_ratio) l1 c1 k1
  have A1 : DefAt K mg "is_ratio" st_is_ratio ["value"] := ⟨f1, _, PySem.W.mg_of X G a1, F1, F1.binds (ps := ["value"]) fun _ _ _ _ _ _ us hl => match us, hl with | [_], _ => rfl⟩
  have F2 := fun_mk (st := st_is_integer) l2 c2 k2
  have A2 : DefAt K mg "is_integer" st_is_integer ["value"] := ⟨f2, _, PySem.W.mg_of X G a2, F2, F2.binds (ps := ["value"]) fun _ _ _ _ _ _ us hl => match us, hl with | [_], _ => rfl⟩
  have F3 := fun_mk (st := st_look_at_graph) l3 c3 k3
  have A3 : DefAt K mg "look_at_graph" st_look_at_graph ["graph"] := ⟨f3, _, PySem.W.mg_of X G a3, F3, F3.binds (ps := ["graph"]) fun _ _ _ _ _ _ us hl => match us, hl with | [_], _ => rfl⟩
  have F4 := fun_mk (st := st_is_edge) l4 c4 k4
  have A4 : DefAt K mg "is_edge" st_is_edge ["edge", "nodes"] := ⟨f4, _, PySem.W.mg_of X G a4, F4, F4.binds (ps := ["edge", "nodes"]) fun _ _ _ _ _ _ us hl => match us, hl with | [_, _], _ => rfl⟩
  have F5 := fun_mk (st := st_empty_ring) l5 c5 k5
  have A5 : DefAt K mg "empty_ring" st_empty_ring ["graph", "held"] := ⟨f5, _, PySem.W.mg_of X G a5, F5, F5.binds (ps := ["graph", "held"]) fun _ _ _ _ _ _ us hl => match us, hl with | [_, _], _ => rfl⟩
  have F6 := fun_mk (st := st_ranks_of) l6 c6 k6
  have A6 : DefAt K mg "ranks_of" st_ranks_of ["graph", "held"] := ⟨f6, _, PySem.W.mg_of X G a6, F6, F6.binds (ps := ["graph", "held"]) fun _ _ _ _ _ _ us hl => match us, hl with | [_, _], _ => rfl⟩
  have F7 := fun_mk (st := st_is_way) l7 c7 k7
  have A7 : DefAt K mg "is_way" st_is_way ["graph", "way"] := ⟨f7, _, PySem.W.mg_of X G a7, F7, F7.binds (ps := ["graph", "way"]) fun _ _ _ _ _ _ us hl => match us, hl with | [_, _], _ => rfl⟩
  have F8 := fun_mk (st := st_is_ring) l8 c8 k8
  have A8 : DefAt K mg "is_ring" st_is_ring ["graph", "ring"] := ⟨f8, _, PySem.W.mg_of X G a8, F8, F8.binds (ps := ["graph", "ring"]) fun _ _ _ _ _ _ us hl => match us, hl with | [_, _], _ => rfl⟩
  have F9 := fun_mk (st := st_bound) l9 c9 k9
  have A9 : DefAt K mg "bound" st_bound ["graph", "e"] := ⟨f9, _, PySem.W.mg_of X G a9, F9, F9.binds (ps := ["graph", "e"]) fun _ _ _ _ _ _ us hl => match us, hl with | [_, _], _ => rfl⟩
  have F10 := fun_mk (st := st_proves_bound) l10 c10 k10
  have A10 : DefAt K mg "proves_bound" st_proves_bound ["graph", "e", "count", "ring", "distances"] := ⟨f10, _, PySem.W.mg_of X G a10, F10, F10.binds (ps := ["graph", "e", "count", "ring", "distances"]) fun _ _ _ _ _ _ us hl => match us, hl with | [_, _, _, _, _], _ => rfl⟩
  have F11 := fun_mk (st := st__law_draws) l11 c11 k11
  have A11 : DefAt K mg "_law_draws" st__law_draws ["script"] := ⟨f11, _, PySem.W.mg_of X G a11, F11, F11.binds (ps := ["script"]) fun _ _ _ _ _ _ us hl => match us, hl with | [_], _ => rfl⟩
  have F12 := fun_mk (st := st__law_draw) l12 c12 k12
  have A12 : DefAt K mg "_law_draw" st__law_draw ["draws", "limit"] := ⟨f12, _, PySem.W.mg_of X G a12, F12, F12.binds (ps := ["draws", "limit"]) fun _ _ _ _ _ _ us hl => match us, hl with | [_, _], _ => rfl⟩
  have F13 := fun_mk (st := st__law_same) l13 c13 k13
  have A13 : DefAt K mg "_law_same" st__law_same ["actual", "expected"] := ⟨f13, _, PySem.W.mg_of X G a13, F13, F13.binds (ps := ["actual", "expected"]) fun _ _ _ _ _ _ us hl => match us, hl with | [_, _], _ => rfl⟩
  have F14 := fun_mk (st := st__law_gcd) l14 c14 k14
  have A14 : DefAt K mg "_law_gcd" st__law_gcd ["a", "b"] := ⟨f14, _, PySem.W.mg_of X G a14, F14, F14.binds (ps := ["a", "b"]) fun _ _ _ _ _ _ us hl => match us, hl with | [_, _], _ => rfl⟩
  have F15 := fun_mk (st := st__law_ratio) l15 c15 k15
  have A15 : DefAt K mg "_law_ratio" st__law_ratio ["n", "d"] := ⟨f15, _, PySem.W.mg_of X G a15, F15, F15.binds (ps := ["n", "d"]) fun _ _ _ _ _ _ us hl => match us, hl with | [_, _], _ => rfl⟩
  have F16 := fun_mk (st := st__law_graph) l16 c16 k16
  have A16 : DefAt K mg "_law_graph" st__law_graph ["draws", "most"] := ⟨f16, _, PySem.W.mg_of X G a16, F16, F16.binds (ps := ["draws", "most"]) fun _ _ _ _ _ _ us hl => match us, hl with | [_, _], _ => rfl⟩
  have F17 := fun_mk (st := st__law_stuck) l17 c17 k17
  have A17 : DefAt K mg "_law_stuck" st__law_stuck ["graph"] := ⟨f17, _, PySem.W.mg_of X G a17, F17, F17.binds (ps := ["graph"]) fun _ _ _ _ _ _ us hl => match us, hl with | [_], _ => rfl⟩
  have F18 := fun_mk (st := st__law_is_whole) l18 c18 k18
  have A18 : DefAt K mg "_law_is_whole" st__law_is_whole ["value"] := ⟨f18, _, PySem.W.mg_of X G a18, F18, F18.binds (ps := ["value"]) fun _ _ _ _ _ _ us hl => match us, hl with | [_], _ => rfl⟩
  have F19 := fun_mk (st := st__law_is_way) l19 c19 k19
  have A19 : DefAt K mg "_law_is_way" st__law_is_way ["graph", "way"] := ⟨f19, _, PySem.W.mg_of X G a19, F19, F19.binds (ps := ["graph", "way"]) fun _ _ _ _ _ _ us hl => match us, hl with | [_, _], _ => rfl⟩
  have F20 := fun_mk (st := st__law_is_ring) l20 c20 k20
  have A20 : DefAt K mg "_law_is_ring" st__law_is_ring ["graph", "ring"] := ⟨f20, _, PySem.W.mg_of X G a20, F20, F20.binds (ps := ["graph", "ring"]) fun _ _ _ _ _ _ us hl => match us, hl with | [_, _], _ => rfl⟩
  have F21 := fun_mk (st := st__law_tokens) l21 c21 k21
  have A21 : DefAt K mg "_law_tokens" st__law_tokens ["graph", "ring"] := ⟨f21, _, PySem.W.mg_of X G a21, F21, F21.binds (ps := ["graph", "ring"]) fun _ _ _ _ _ _ us hl => match us, hl with | [_, _], _ => rfl⟩
  have F22 := fun_mk (st := st__law_fed) l22 c22 k22
  have A22 : DefAt K mg "_law_fed" st__law_fed ["graph", "marking", "v"] := ⟨f22, _, PySem.W.mg_of X G a22, F22, F22.binds (ps := ["graph", "marking", "v"]) fun _ _ _ _ _ _ us hl => match us, hl with | [_, _, _], _ => rfl⟩
  have F23 := fun_mk (st := st__law_fired) l23 c23 k23
  have A23 : DefAt K mg "_law_fired" st__law_fired ["graph", "marking", "v"] := ⟨f23, _, PySem.W.mg_of X G a23, F23, F23.binds (ps := ["graph", "marking", "v"]) fun _ _ _ _ _ _ us hl => match us, hl with | [_, _, _], _ => rfl⟩
  have F24 := fun_mk (st := st__law_first) l24 c24 k24
  have A24 : DefAt K mg "_law_first" st__law_first ["graph"] := ⟨f24, _, PySem.W.mg_of X G a24, F24, F24.binds (ps := ["graph"]) fun _ _ _ _ _ _ us hl => match us, hl with | [_], _ => rfl⟩
  have F25 := fun_mk (st := st__law_strolled) l25 c25 k25
  have A25 : DefAt K mg "_law_strolled" st__law_strolled ["draws", "graph", "many"] := ⟨f25, _, PySem.W.mg_of X G a25, F25, F25.binds (ps := ["draws", "graph", "many"]) fun _ _ _ _ _ _ us hl => match us, hl with | [_, _, _], _ => rfl⟩
  have F26 := fun_mk (st := st__law_live_graph) l26 c26 k26
  have A26 : DefAt K mg "_law_live_graph" st__law_live_graph ["draws", "most"] := ⟨f26, _, PySem.W.mg_of X G a26, F26, F26.binds (ps := ["draws", "most"]) fun _ _ _ _ _ _ us hl => match us, hl with | [_, _], _ => rfl⟩
  have F27 := fun_mk (st := st__law_led) l27 c27 k27
  have A27 : DefAt K mg "_law_led" st__law_led ["graph", "start"] := ⟨f27, _, PySem.W.mg_of X G a27, F27, F27.binds (ps := ["graph", "start"]) fun _ _ _ _ _ _ us hl => match us, hl with | [_, _], _ => rfl⟩
  have F28 := fun_mk (st := st__law_reached) l28 c28 k28
  have A28 : DefAt K mg "_law_reached" st__law_reached ["graph", "counts"] := ⟨f28, _, PySem.W.mg_of X G a28, F28, F28.binds (ps := ["graph", "counts"]) fun _ _ _ _ _ _ us hl => match us, hl with | [_, _], _ => rfl⟩
  have F29 := fun_mk (st := st__law_shown) l29 c29 k29
  have A29 : DefAt K mg "_law_shown" st__law_shown ["graph", "e", "count", "ring", "distances"] := ⟨f29, _, PySem.W.mg_of X G a29, F29, F29.binds (ps := ["graph", "e", "count", "ring", "distances"]) fun _ _ _ _ _ _ us hl => match us, hl with | [_, _, _, _, _], _ => rfl⟩
  have F30 := fun_mk (st := st__law_bent) l30 c30 k30
  have A30 : DefAt K mg "_law_bent" st__law_bent ["draws", "paper", "edges"] := ⟨f30, _, PySem.W.mg_of X G a30, F30, F30.binds (ps := ["draws", "paper", "edges"]) fun _ _ _ _ _ _ us hl => match us, hl with | [_, _, _], _ => rfl⟩
  have F31 := fun_mk (st := st__law_refused) l31 c31 k31
  have A31 : DefAt K mg "_law_refused" st__law_refused ["graph", "e"] := ⟨f31, _, PySem.W.mg_of X G a31, F31, F31.binds (ps := ["graph", "e"]) fun _ _ _ _ _ _ us hl => match us, hl with | [_, _], _ => rfl⟩
  have F32 := fun_mk (st := st_law) l32 c32 k32
  have A32 : DefAt K mg "law" st_law ["script"] := ⟨f32, _, PySem.W.mg_of X G a32, F32, F32.binds (ps := ["script"]) fun _ _ _ _ _ _ us hl => match us, hl with | [_], _ => rfl⟩
  have T : Txt K mg C_DelayError C_BadNet := { m_abs := PySem.W.mg_none_of X G z_abs, m_all := PySem.W.mg_none_of X G z_all, m_bool := PySem.W.mg_none_of X G z_bool, m_enumerate := PySem.W.mg_none_of X G z_enumerate, m_int := PySem.W.mg_none_of X G z_int, m_isinstance := PySem.W.mg_none_of X G z_isinstance, m_len := PySem.W.mg_none_of X G z_len, m_list := PySem.W.mg_none_of X G z_list, m_max := PySem.W.mg_none_of X G z_max, m_range := PySem.W.mg_none_of X G z_range, m_set := PySem.W.mg_none_of X G z_set, m_sorted := PySem.W.mg_none_of X G z_sorted, m_str := PySem.W.mg_none_of X G z_str, m_sum := PySem.W.mg_none_of X G z_sum, m_tuple := PySem.W.mg_none_of X G z_tuple, a_common := A0, a_is_ratio := A1, a_is_integer := A2, a_look_at_graph := A3, a_is_edge := A4, a_empty_ring := A5, a_ranks_of := A6, a_is_way := A7, a_is_ring := A8, a_bound := A9, a_proves_bound := A10, a__law_draws := A11, a__law_draw := A12, a__law_same := A13, a__law_gcd := A14, a__law_ratio := A15, a__law_graph := A16, a__law_stuck := A17, a__law_is_whole := A18, a__law_is_way := A19, a__law_is_ring := A20, a__law_tokens := A21, a__law_fed := A22, a__law_fired := A23, a__law_first := A24, a__law_strolled := A25, a__law_live_graph := A26, a__law_led := A27, a__law_reached := A28, a__law_shown := A29, a__law_bent := A30, a__law_refused := A31, a_law := A32, g_DelayError := PySem.W.mg_of X G g_DelayError, x_DelayError := x_DelayError, k_DelayError := kk_DelayError, b_DelayError := b_DelayError, t_DelayError := t_DelayError, g_BadNet := PySem.W.mg_of X G g_BadNet, x_BadNet := x_BadNet, k_BadNet := kk_BadNet, b_BadNet := b_BadNet, t_BadNet := t_BadNet }
  have EX : ErrF K C_BadNet C_DelayError := ⟨⟨e1, e2, b_BadNet, e4, e5, e6, e7, e8⟩, exm_self b_BadNet e9 t_BadNet e10, kit_sub e12 t_DelayError e11⟩
  have e := hfa.symm.trans (PySem.W.mg_of X G a32)
  cases e
  refine ⟨PySem.W.fnOf "law" "law" (defArgs st_law) (defBody st_law) (defScope st_law) .none kV32 dc32 pm32 an32 cd32 ct32, fun s v => .of_eq rfl, fun base _ _ => ?_⟩
  have H_common : Has P w K mg base "common" 2 ["a", "b"] sp_common := h_common T  
  have H_is_integer : Has P w K mg base "is_integer" 2 ["value"] sp_is_integer := h_is_integer T  
  have H_ranks_of : Has P w K mg base "ranks_of" 2 ["graph", "held"] sp_ranks_of := h_ranks_of T  
  have H__law_draws : Has P w K mg base "_law_draws" 2 ["script"] sp__law_draws := h__law_draws T  
  have H__law_draw : Has P w K mg base "_law_draw" 2 ["draws", "limit"] sp__law_draw := h__law_draw T  
  have H__law_gcd : Has P w K mg base "_law_gcd" 2 ["a", "b"] sp__law_gcd := h__law_gcd T  
  have H__law_stuck : Has P w K mg base "_law_stuck" 2 ["graph"] sp__law_stuck := h__law_stuck T  
  have H__law_is_whole : Has P w K mg base "_law_is_whole" 2 ["value"] sp_is_integer := h__law_is_whole T  
  have H__law_tokens : Has P w K mg base "_law_tokens" 2 ["graph", "ring"] sp__law_tokens := h__law_tokens T  
  have H__law_fed : Has P w K mg base "_law_fed" 2 ["graph", "marking", "v"] sp__law_fed := h__law_fed T  
  have H__law_fired : Has P w K mg base "_law_fired" 2 ["graph", "marking", "v"] sp__law_fired := h__law_fired T  
  have H__law_first : Has P w K mg base "_law_first" 2 ["graph"] sp__law_first := h__law_first T  
  have H__law_led : Has P w K mg base "_law_led" 2 ["graph", "start"] sp__law_led := h__law_led T  
  have H_is_ratio : Has P w K mg base "is_ratio" 3 ["value"] sp_is_ratio := h_is_ratio T H_common H_is_integer 
  have H_empty_ring : Has P w K mg base "empty_ring" 3 ["graph", "held"] sp_empty_ring := h_empty_ring T H_ranks_of 
  have H_is_way : Has P w K mg base "is_way" 3 ["graph", "way"] sp_is_way := h_is_way T H_is_integer 
  have R0 : Has P w K mg base "_law_same" 0 ["actual", "expected"] (sp__law_same 0) := has_none' T.a__law_same fun ds h q xx z => by obtain ⟨_, _, _, z⟩ := inv2 z; exact z
  have R1 := h__law_same (w := w) (base := base) T  R0
  have R2 := h__law_same (w := w) (base := base) T  R1
  have R3 := h__law_same (w := w) (base := base) T  R2
  have H__law_same : Has P w K mg base "_law_same" 3 ["actual", "expected"] (sp__law_same 3) := R3
  have H__law_ratio : Has P w K mg base "_law_ratio" 3 ["n", "d"] sp__law_ratio := h__law_ratio T H__law_gcd 
  have H__law_is_way : Has P w K mg base "_law_is_way" 3 ["graph", "way"] sp_is_way := h__law_is_way T H__law_is_whole 
  have H__law_strolled : Has P w K mg base "_law_strolled" 3 ["draws", "graph", "many"] sp__law_strolled := h__law_strolled T H__law_fired H__law_draw H__law_fed H__law_first 
  have H__law_reached : Has P w K mg base "_law_reached" 3 ["graph", "counts"] sp__law_reached := h__law_reached T H__law_fired H__law_fed H__law_first 
  have H__law_bent : Has P w K mg base "_law_bent" 3 ["draws", "paper", "edges"] sp__law_bent := h__law_bent T H__law_draw 
  have H_is_edge : Has P w K mg base "is_edge" 4 ["edge", "nodes"] sp_is_edge := h_is_edge T H_is_ratio H_is_integer 
  have H_is_ring : Has P w K mg base "is_ring" 4 ["graph", "ring"] sp_is_ring := h_is_ring T H_is_way 
  have H__law_graph : Has P w K mg base "_law_graph" 4 ["draws", "most"] sp__law_graph := h__law_graph T H__law_ratio H__law_draw 
  have H__law_is_ring : Has P w K mg base "_law_is_ring" 4 ["graph", "ring"] sp_is_ring := h__law_is_ring T H__law_is_way 
  have H_look_at_graph : Has P w K mg base "look_at_graph" 5 ["graph"] sp_look_at_graph := h_look_at_graph T H_is_edge H_is_integer 
  have H__law_live_graph : Has P w K mg base "_law_live_graph" 5 ["draws", "most"] sp__law_live_graph := h__law_live_graph T H__law_stuck H__law_graph 
  have H__law_shown : Has P w K mg base "_law_shown" 5 ["graph", "e", "count", "ring", "distances"] sp_proves_bound := h__law_shown T H__law_is_whole H__law_tokens H__law_is_ring 
  have H_bound : Has P w K mg base "bound" 6 ["graph", "e"] (sp_bound C_BadNet) := h_bound T H_empty_ring H_is_integer H_look_at_graph 
  have H_proves_bound : Has P w K mg base "proves_bound" 6 ["graph", "e", "count", "ring", "distances"] sp_proves_bound := h_proves_bound T H_is_integer H_is_ring H_look_at_graph 
  have H__law_refused : Has P w K mg base "_law_refused" 7 ["graph", "e"] sp__law_refused := h__law_refused T H_bound EX
  exact f_law T H__law_reached H__law_same H__law_bent H_proves_bound H__law_shown H__law_strolled H__law_led H_bound H__law_draw H__law_refused H__law_live_graph H__law_draws  F32
end K
open PySem PySem.W PyProof.Rows
set_option maxHeartbeats 0 in
theorem PySem.Challenge.cw_unhurried_k77_whole_bounds_of_edges_holds : PySem.Challenge.rw_unhurried_k77_whole_bounds_of_edges.Holds := by
  w_on; o_law; k_head; (case hw => w_witness2)
  k_fill
  refine L2.walk_of (l := PySem.Challenge.rw_unhurried_k77_whole_bounds_of_edges) (n := 63) (k := 8) (x := "script") (CX := fun w => L2.CX (PySem.Challenge.rw_unhurried_k77_whole_bounds_of_edges.prog) w) (sp := fun w => DL.liftSp _ K.sp_law) rfl (by decide) rfl ⟨rfl, by decide, by decide⟩ (fun w h Y => PySem.W.kIn_of Y) ?F (fun _ H a ns hl hO hS => K.sp_start hl hO hS) (fun w H s e t z => K.cx_none z)
  case F =>
    intro w mg fa h KX G hmg
    refine' K.all_mk KX G hmg ?a0 ?l0 ?c0 ?k0 ?a1 ?l1 ?c1 ?k1 ?a2 ?l2 ?c2 ?k2 ?a3 ?l3 ?c3 ?k3 ?a4 ?l4 ?c4 ?k4 ?a5 ?l5 ?c5 ?k5 ?a6 ?l6 ?c6 ?k6 ?a7 ?l7 ?c7 ?k7 ?a8 ?l8 ?c8 ?k8 ?a9 ?l9 ?c9 ?k9 ?a10 ?l10 ?c10 ?k10 ?a11 ?l11 ?c11 ?k11 ?a12 ?l12 ?c12 ?k12 ?a13 ?l13 ?c13 ?k13 ?a14 ?l14 ?c14 ?k14 ?a15 ?l15 ?c15 ?k15 ?a16 ?l16 ?c16 ?k16 ?a17 ?l17 ?c17 ?k17 ?a18 ?l18 ?c18 ?k18 ?a19 ?l19 ?c19 ?k19 ?a20 ?l20 ?c20 ?k20 ?a21 ?l21 ?c21 ?k21 ?a22 ?l22 ?c22 ?k22 ?a23 ?l23 ?c23 ?k23 ?a24 ?l24 ?c24 ?k24 ?a25 ?l25 ?c25 ?k25 ?a26 ?l26 ?c26 ?k26 ?a27 ?l27 ?c27 ?k27 ?a28 ?l28 ?c28 ?k28 ?a29 ?l29 ?c29 ?k29 ?a30 ?l30 ?c30 ?k30 ?a31 ?l31 ?c31 ?k31 ?a32 ?l32 ?c32 ?k32 ?z_abs ?z_all ?z_bool ?z_enumerate ?z_int ?z_isinstance ?z_len ?z_list ?z_max ?z_range ?z_set ?z_sorted ?z_str ?z_sum ?z_tuple ?g_DelayError ?x_DelayError ?kk_DelayError ?b_DelayError ?t_DelayError ?g_BadNet ?x_BadNet ?kk_BadNet ?b_BadNet ?t_BadNet ?e1 ?e2 ?e4 ?e5 ?e6 ?e7 ?e8 ?e9 ?e10 ?e11 ?e12
    (case a0 => k_is); (case l0 => k_is); (case c0 => k_is); (case k0 => k_is); (case a1 => k_is); (case l1 => k_is); (case c1 => k_is); (case k1 => k_is); (case a2 => k_is); (case l2 => k_is); (case c2 => k_is); (case k2 => k_is); (case a3 => k_is); (case l3 => k_is); (case c3 => k_is); (case k3 => k_is); (case a4 => k_is); (case l4 => k_is); (case c4 => k_is); (case k4 => k_is); (case a5 => k_is); (case l5 => k_is); (case c5 => k_is); (case k5 => k_is); (case a6 => k_is); (case l6 => k_is); (case c6 => k_is); (case k6 => k_is); (case a7 => k_is); (case l7 => k_is); (case c7 => k_is); (case k7 => k_is); (case a8 => k_is); (case l8 => k_is); (case c8 => k_is); (case k8 => k_is); (case a9 => k_is); (case l9 => k_is); (case c9 => k_is); (case k9 => k_is); (case a10 => k_is); (case l10 => k_is); (case c10 => k_is); (case k10 => k_is); (case a11 => k_is); (case l11 => k_is); (case c11 => k_is); (case k11 => k_is); (case a12 => k_is); (case l12 => k_is); (case c12 => k_is); (case k12 => k_is); (case a13 => k_is); (case l13 => k_is); (case c13 => k_is); (case k13 => k_is); (case a14 => k_is); (case l14 => k_is); (case c14 => k_is); (case k14 => k_is); (case a15 => k_is); (case l15 => k_is); (case c15 => k_is); (case k15 => k_is); (case a16 => k_is); (case l16 => k_is); (case c16 => k_is); (case k16 => k_is); (case a17 => k_is); (case l17 => k_is); (case c17 => k_is); (case k17 => k_is); (case a18 => k_is); (case l18 => k_is); (case c18 => k_is); (case k18 => k_is); (case a19 => k_is); (case l19 => k_is); (case c19 => k_is); (case k19 => k_is); (case a20 => k_is); (case l20 => k_is); (case c20 => k_is); (case k20 => k_is); (case a21 => k_is); (case l21 => k_is); (case c21 => k_is); (case k21 => k_is); (case a22 => k_is); (case l22 => k_is); (case c22 => k_is); (case k22 => k_is); (case a23 => k_is); (case l23 => k_is); (case c23 => k_is); (case k23 => k_is); (case a24 => k_is); (case l24 => k_is); (case c24 => k_is); (case k24 => k_is); (case a25 => k_is); (case l25 => k_is); (case c25 => k_is); (case k25 => k_is); (case a26 => k_is); (case l26 => k_is); (case c26 => k_is); (case k26 => k_is); (case a27 => k_is); (case l27 => k_is); (case c27 => k_is); (case k27 => k_is); (case a28 => k_is); (case l28 => k_is); (case c28 => k_is); (case k28 => k_is); (case a29 => k_is); (case l29 => k_is); (case c29 => k_is); (case k29 => k_is); (case a30 => k_is); (case l30 => k_is); (case c30 => k_is); (case k30 => k_is); (case a31 => k_is); (case l31 => k_is); (case c31 => k_is); (case k31 => k_is); (case a32 => k_is); (case l32 => k_is); (case c32 => k_is); (case k32 => k_is); (case z_abs => k_is); (case z_all => k_is); (case z_bool => k_is); (case z_enumerate => k_is); (case z_int => k_is); (case z_isinstance => k_is); (case z_len => k_is); (case z_list => k_is); (case z_max => k_is); (case z_range => k_is); (case z_set => k_is); (case z_sorted => k_is); (case z_str => k_is); (case z_sum => k_is); (case z_tuple => k_is); (case g_DelayError => k_is); (case x_DelayError => k_exc); (case kk_DelayError => k_is); (case b_DelayError => k_is); (case t_DelayError => k_is); (case g_BadNet => k_is); (case x_BadNet => k_exc); (case kk_BadNet => k_is); (case b_BadNet => k_is); (case t_BadNet => k_is); (case e1 => k_is); (case e2 => k_is); (case e4 => k_is); (case e5 => k_is); (case e6 => k_is); (case e7 => k_is); (case e8 => k_is); (case e9 => k_is); (case e10 => k_is); (case e11 => k_is); (case e12 => k_is)

