import PyProof.Rows.All
import Wide.All
import OpenK.AllK
import Wide.FinOn
import HandS.ForMost
import HandS.Wide
import HandS.Defaults
import HandS.TupAny
import HandS.IsInst
import HandS.DeepEq
import KE.KStateDown
import HandS.Head0
import HandS.Head1
import HandS.Head2
import HandS.Head3
import HandS.HeadEnd
import HandS.HeadHook1
import HandS.HeadHook2
import PySem.Challenge.RW_eightsides_k14_ring_walked
set_option Elab.async false
set_option linter.all false
set_option maxRecDepth 100000
set_option maxHeartbeats 0
/-! Values as trees, some parts of them owned; what a state is; steps. -/
namespace E8
open PySem PySem.Spec PyProof.Rows L2

/-- a value that changes no more -/
inductive SD where
  | non | bl (b : Bool) | int (i : Int) | str (x : Str) | rf (a : Addr) | ty (n : String)
  | lst (xs : List SD) | scr (xs : List SD) | tup (xs : List SD)
  | dic (ks : List Key) (xs : List SD)
  | ins (C : Addr) (ns : List Str) (xs : List SD)
/-- a value some of whose lists, dicts, instances are owned here and may change; each with its address -/
inductive OD where
  | sh (d : SD)
  | lst (a : Addr) (xs : List OD)
  | tup (xs : List OD)
  | dic (a : Addr) (ks : List Key) (xs : List OD)
  | ins (a dx C : Addr) (ns : List Str) (xs : List OD)

mutual
def fp : OD → List Addr
  | .sh _ => []
  | .lst a xs => a :: fps xs
  | .tup xs => fps xs
  | .dic a _ xs => a :: fps xs
  | .ins a dx _ _ xs => a :: dx :: fps xs
def fps : List OD → List Addr
  | [] => []
  | x :: xs => fp x ++ fps xs
end
mutual
def frz : OD → SD
  | .sh d => d
  | .lst _ xs => .lst (frzs xs)
  | .tup xs => .tup (frzs xs)
  | .dic _ ks xs => .dic ks (frzs xs)
  | .ins _ _ C ns xs => .ins C ns (frzs xs)
def frzs : List OD → List SD
  | [] => []
  | x :: xs => frz x :: frzs xs
end
abbrev Env := List (Option OD)
def fpo : Option OD → List Addr
  | none => []
  | some d => fp d
def fpE : Env → List Addr
  | [] => []
  | o :: r => fpo o ++ fpE r

theorem frzs_len : ∀ xs, (frzs xs).length = xs.length
  | [] => rfl
  | x :: xs => by simp only [frzs, List.length_cons, frzs_len xs]
theorem frzs_map : ∀ xs, frzs xs = xs.map frz
  | [] => rfl
  | x :: xs => by simp only [frzs, List.map_cons, frzs_map xs]
theorem fps_append : ∀ xs ys, fps (xs ++ ys) = fps xs ++ fps ys
  | [], _ => rfl
  | x :: xs, ys => by simp only [List.cons_append, fps, fps_append xs ys, List.append_assoc]
theorem fpE_append : ∀ xs ys, fpE (xs ++ ys) = fpE xs ++ fpE ys
  | [], _ => rfl
  | x :: xs, ys => by simp only [List.cons_append, fpE, fpE_append xs ys, List.append_assoc]

mutual
inductive RepS (K : PySem.W.Frag) (Z : Hp) : V → SD → Prop
  | non : RepS K Z .non .non
  | bl (b : Bool) : RepS K Z (.bl b) (.bl b)
  | int (i : Int) : RepS K Z (.int i) (.int i)
  | str (x : Str) : RepS K Z (.str x) (.str x)
  | rf (a : Addr) : RepS K Z (.ref a) (.rf a)
  | ty (n : String) : RepS K Z (.ty n) (.ty n)
  | lst {a : Addr} {vs : List V} {ds : List SD} : Z a = some (.lst vs) → RepSs K Z vs ds → RepS K Z (.ref a) (.lst ds)
  | scr {a : Addr} {vs : List V} {ds : List SD} : SqL K Z a vs → RepSs K Z vs ds → RepS K Z (.ref a) (.scr ds)
  | tup {a : Addr} {vs : List V} {ds : List SD} : SqT K Z a vs → RepSs K Z vs ds → RepS K Z (.ref a) (.tup ds)
  | dic {a : Addr} {ks : List Key} {vs : List V} {ds : List SD} : Z a = some (.dK (ks.zip vs)) → ks.length = vs.length → ks.Nodup → RepSs K Z vs ds → RepS K Z (.ref a) (.dic ks ds)
  | ins {a dx C : Addr} {ns : List Str} {vs : List V} {ds : List SD} : Z a = some (.ins C dx (ns.zip vs)) → Z dx = some (.own a) → ns.length = vs.length → RepSs K Z vs ds → RepS K Z (.ref a) (.ins C ns ds)
inductive RepSs (K : PySem.W.Frag) (Z : Hp) : List V → List SD → Prop
  | nil : RepSs K Z [] []
  | cons {v : V} {vs : List V} {d : SD} {ds : List SD} : RepS K Z v d → RepSs K Z vs ds → RepSs K Z (v :: vs) (d :: ds)
end
mutual
inductive RepO (K : PySem.W.Frag) (Z H : Hp) : V → OD → Prop
  | sh {v : V} {d : SD} : RepS K Z v d → RepO K Z H v (.sh d)
  | lst {a : Addr} {vs : List V} {ds : List OD} : H a = some (.lst vs) → RepOs K Z H vs ds → RepO K Z H (.ref a) (.lst a ds)
  | tup {a : Addr} {vs : List V} {ds : List OD} : SqT K Z a vs → RepOs K Z H vs ds → RepO K Z H (.ref a) (.tup ds)
  | dic {a : Addr} {ks : List Key} {vs : List V} {ds : List OD} : H a = some (.dK (ks.zip vs)) → ks.length = vs.length → ks.Nodup → RepOs K Z H vs ds → RepO K Z H (.ref a) (.dic a ks ds)
  | ins {a dx C : Addr} {ns : List Str} {vs : List V} {ds : List OD} : H a = some (.ins C dx (ns.zip vs)) → H dx = some (.own a) → ns.length = vs.length → RepOs K Z H vs ds → RepO K Z H (.ref a) (.ins a dx C ns ds)
inductive RepOs (K : PySem.W.Frag) (Z H : Hp) : List V → List OD → Prop
  | nil : RepOs K Z H [] []
  | cons {v : V} {vs : List V} {d : OD} {ds : List OD} : RepO K Z H v d → RepOs K Z H vs ds → RepOs K Z H (v :: vs) (d :: ds)
end
section
variable {K : PySem.W.Frag} {Z Z' H H' : Hp}
theorem sqt_mono {a : Addr} {xs : List V} (e : Same Z Z') (h : SqT K Z a xs) : SqT K Z' a xs := by
  rcases h with (h | ⟨o, h⟩) | h
  · exact .inl (.inl (e _ _ h))
  · exact .inl (.inr ⟨o, e _ _ h⟩)
  · exact .inr h
mutual
theorem RepS.mono (e : Same Z Z') : ∀ {d : SD} {v : V}, RepS K Z v d → RepS K Z' v d
  | _, _, .non => .non
  | _, _, .bl b => .bl b
  | _, _, .int b => .int b
  | _, _, .str b => .str b
  | _, _, .rf b => .rf b
  | _, _, .ty b => .ty b
  | _, _, .lst h r => .lst (e _ _ h) (RepSs.mono e r)
  | _, _, .scr h r => .scr (e.seq h) (RepSs.mono e r)
  | _, _, .tup h r => .tup (sqt_mono e h) (RepSs.mono e r)
  | _, _, .dic h l n r => .dic (e _ _ h) l n (RepSs.mono e r)
  | _, _, .ins h h2 l r => .ins (e _ _ h) (e _ _ h2) l (RepSs.mono e r)
theorem RepSs.mono (e : Same Z Z') : ∀ {ds : List SD} {vs : List V}, RepSs K Z vs ds → RepSs K Z' vs ds
  | _, _, .nil => .nil
  | _, _, .cons a b => .cons (RepS.mono e a) (RepSs.mono e b)
end
mutual
/-- the owned parts kept, the others grown -/
theorem RepO.mono (e : Same Z Z') : ∀ {d : OD} {v : V}, (∀ a ∈ fp d, ∀ o, H a = some o → H' a = some o) → RepO K Z H v d → RepO K Z' H' v d
  | _, _, _, .sh r => .sh (r.mono e)
  | .lst a xs, _, k, .lst h r => .lst (k a (by simp [fp]) _ h) (RepOs.mono e (fun b hb => k b (by simp [fp, hb])) r)
  | .tup xs, _, k, .tup h r => .tup (sqt_mono e h) (RepOs.mono e (fun b hb => k b (by simpa [fp] using hb)) r)
  | .dic a ks xs, _, k, .dic h l n r => .dic (k a (by simp [fp]) _ h) l n (RepOs.mono e (fun b hb => k b (by simp [fp, hb])) r)
  | .ins a dx C ns xs, _, k, .ins h h2 l r => .ins (k a (by simp [fp]) _ h) (k dx (by simp [fp]) _ h2) l (RepOs.mono e (fun b hb => k b (by simp [fp, hb])) r)
theorem RepOs.mono (e : Same Z Z') : ∀ {ds : List OD} {vs : List V}, (∀ a ∈ fps ds, ∀ o, H a = some o → H' a = some o) → RepOs K Z H vs ds → RepOs K Z' H' vs ds
  | _, _, _, .nil => .nil
  | d :: ds, _, k, .cons a b => .cons (RepO.mono e (fun x hx => k x (by simp [fps, hx])) a) (RepOs.mono e (fun x hx => k x (by simp [fps, hx])) b)
end
mutual
theorem RepO.there : ∀ {d : OD} {v : V}, RepO K Z H v d → ∀ a ∈ fp d, ∃ o, H a = some o
  | .sh _, _, .sh _, a, h => by simp [fp] at h
  | .lst b xs, _, .lst h r, a, m => by
    rcases List.mem_cons.mp (show a ∈ b :: fps xs by simpa [fp] using m) with e | e
    · exact ⟨_, e ▸ h⟩
    · exact RepOs.there r a e
  | .tup xs, _, .tup h r, a, m => RepOs.there r a (by simpa [fp] using m)
  | .dic b ks xs, _, .dic h l n r, a, m => by
    rcases List.mem_cons.mp (show a ∈ b :: fps xs by simpa [fp] using m) with e | e
    · exact ⟨_, e ▸ h⟩
    · exact RepOs.there r a e
  | .ins b dx C ns xs, _, .ins h h2 l r, a, m => by
    rcases List.mem_cons.mp (show a ∈ b :: dx :: fps xs by simpa [fp] using m) with e | e
    · exact ⟨_, e ▸ h⟩
    · rcases List.mem_cons.mp e with e | e
      · exact ⟨_, e ▸ h2⟩
      · exact RepOs.there r a e
theorem RepOs.there : ∀ {ds : List OD} {vs : List V}, RepOs K Z H vs ds → ∀ a ∈ fps ds, ∃ o, H a = some o
  | [], _, .nil, a, h => by simp [fps] at h
  | d :: ds, _, .cons x y, a, m => by
    rcases List.mem_append.mp (show a ∈ fp d ++ fps ds by simpa [fps] using m) with e | e
    · exact RepO.there x a e
    · exact RepOs.there y a e
end
mutual
/-- frozen: where Z' has the owned parts too -/
theorem RepO.frz (e : Same Z Z') : ∀ {d : OD} {v : V}, (∀ a ∈ fp d, ∀ o, H a = some o → Z' a = some o) → RepO K Z H v d → RepS K Z' v (frz d)
  | .sh _, _, _, .sh r => r.mono e
  | .lst a xs, _, k, .lst h r => .lst (k a (by simp [fp]) _ h) (RepOs.frz e (fun b hb => k b (by simp [fp, hb])) r)
  | .tup xs, _, k, .tup h r => .tup (sqt_mono e h) (RepOs.frz e (fun b hb => k b (by simpa [fp] using hb)) r)
  | .dic a ks xs, _, k, .dic h l n r => .dic (k a (by simp [fp]) _ h) l n (RepOs.frz e (fun b hb => k b (by simp [fp, hb])) r)
  | .ins a dx C ns xs, _, k, .ins h h2 l r => .ins (k a (by simp [fp]) _ h) (k dx (by simp [fp]) _ h2) l (RepOs.frz e (fun b hb => k b (by simp [fp, hb])) r)
theorem RepOs.frz (e : Same Z Z') : ∀ {ds : List OD} {vs : List V}, (∀ a ∈ fps ds, ∀ o, H a = some o → Z' a = some o) → RepOs K Z H vs ds → RepSs K Z' vs (frzs ds)
  | [], _, _, .nil => .nil
  | d :: ds, _, k, .cons a b => .cons (RepO.frz e (fun x hx => k x (by simp [fps, hx])) a) (RepOs.frz e (fun x hx => k x (by simp [fps, hx])) b)
end
theorem RepSs.length : ∀ {ds : List SD} {vs : List V}, RepSs K Z vs ds → vs.length = ds.length
  | _, _, .nil => rfl
  | _, _, .cons _ r => by rw [List.length_cons, List.length_cons, RepSs.length r]
theorem RepOs.length : ∀ {ds : List OD} {vs : List V}, RepOs K Z H vs ds → vs.length = ds.length
  | _, _, .nil => rfl
  | _, _, .cons _ r => by rw [List.length_cons, List.length_cons, RepOs.length r]
theorem RepSs.get : ∀ {ds : List SD} {vs : List V} {i : Nat} {d : SD}, RepSs K Z vs ds → ds[i]? = some d → ∃ v, vs[i]? = some v ∧ RepS K Z v d
  | _, _, _, _, .nil, e => by simp at e
  | _, _, 0, _, .cons r _, e => by simp at e; subst e; exact ⟨_, rfl, r⟩
  | _, _, i + 1, d, .cons _ t, e => by
    obtain ⟨v, h1, h2⟩ := RepSs.get (i := i) (d := d) t (by simpa using e)
    exact ⟨v, by simpa using h1, h2⟩
theorem RepOs.get : ∀ {ds : List OD} {vs : List V} {i : Nat} {d : OD}, RepOs K Z H vs ds → ds[i]? = some d → ∃ v, vs[i]? = some v ∧ RepO K Z H v d
  | _, _, _, _, .nil, e => by simp at e
  | _, _, 0, _, .cons r _, e => by simp at e; subst e; exact ⟨_, rfl, r⟩
  | _, _, i + 1, d, .cons _ t, e => by
    obtain ⟨v, h1, h2⟩ := RepOs.get (i := i) (d := d) t (by simpa using e)
    exact ⟨v, by simpa using h1, h2⟩
theorem RepSs.append : ∀ {xs ys : List SD} {us ws : List V}, RepSs K Z us xs → RepSs K Z ws ys → RepSs K Z (us ++ ws) (xs ++ ys)
  | _, _, _, _, .nil, s => s
  | _, _, _, _, .cons r t, s => .cons r (RepSs.append t s)
theorem RepOs.append : ∀ {xs ys : List OD} {us ws : List V}, RepOs K Z H us xs → RepOs K Z H ws ys → RepOs K Z H (us ++ ws) (xs ++ ys)
  | _, _, _, _, .nil, s => s
  | _, _, _, _, .cons r t, s => .cons r (RepOs.append t s)
theorem RepSs.take (n : Nat) : ∀ {xs : List SD} {us : List V}, RepSs K Z us xs → RepSs K Z (us.take n) (xs.take n) := by
  induction n with
  | zero => intro _ _ _; exact .nil
  | succ n ih => intro xs us r; cases r with
    | nil => exact .nil
    | cons a b => exact .cons a (ih b)
theorem RepSs.drop (n : Nat) : ∀ {xs : List SD} {us : List V}, RepSs K Z us xs → RepSs K Z (us.drop n) (xs.drop n) := by
  induction n with
  | zero => intro _ _ r; exact r
  | succ n ih => intro xs us r; cases r with
    | nil => exact .nil
    | cons a b => exact ih b
theorem RepSs.mapO : ∀ {ds : List SD} {vs : List V}, RepSs K Z vs ds → RepOs K Z H vs (ds.map .sh)
  | _, _, .nil => .nil
  | _, _, .cons r t => .cons (.sh r) (RepSs.mapO t)
theorem fps_sh : ∀ ds : List SD, fps (ds.map OD.sh) = []
  | [] => rfl
  | d :: ds => by simp only [List.map_cons, fps, fp, fps_sh ds, List.nil_append]
theorem frzs_sh : ∀ ds : List SD, frzs (ds.map OD.sh) = ds
  | [] => rfl
  | d :: ds => by simp only [List.map_cons, frzs, frz, frzs_sh ds]
end

/-- the slots -/
inductive Slots (K : PySem.W.Frag) (Z H : Hp) : L2.St → Env → Prop
  | nil : Slots K Z H [] []
  | any {o : Option V} {σ : L2.St} {env : Env} : Slots K Z H σ env → Slots K Z H (o :: σ) (none :: env)
  | cons {v : V} {d : OD} {σ : L2.St} {env : Env} : RepO K Z H v d → Slots K Z H σ env → Slots K Z H (some v :: σ) (some d :: env)
section
variable {K : PySem.W.Frag} {Z Z' H H' : Hp} {σ : L2.St} {env : Env}
theorem Slots.mono (e : Same Z Z') : ∀ {σ : L2.St} {env : Env}, (∀ a ∈ fpE env, ∀ o, H a = some o → H' a = some o) → Slots K Z H σ env → Slots K Z' H' σ env
  | _, _, _, .nil => .nil
  | _, _, k, .any r => .any (Slots.mono e (fun a ha => k a (by simpa [fpE, fpo] using ha)) r)
  | _, _, k, .cons r t => .cons (r.mono e fun a ha => k a (by simp [fpE, fpo, ha])) (Slots.mono e (fun a ha => k a (by simp [fpE, ha])) t)
theorem Slots.there : ∀ {σ : L2.St} {env : Env}, Slots K Z H σ env → ∀ a ∈ fpE env, ∃ o, H a = some o
  | _, _, .nil, a, h => by simp [fpE] at h
  | _, _, .any r, a, h => Slots.there r a (by simpa [fpE, fpo] using h)
  | _, _, .cons r t, a, h => by
    rcases List.mem_append.mp (show a ∈ fpo (some _) ++ fpE _ from h) with e | e
    · exact r.there a e
    · exact Slots.there t a e
theorem Slots.get : ∀ {σ : L2.St} {env : Env} {i : Nat} {d : OD}, Slots K Z H σ env → env[i]? = some (some d) → ∃ v, σ[i]? = some (some v) ∧ RepO K Z H v d
  | _, _, _, _, .nil, e => by simp at e
  | _, _, 0, _, .any _, e => by simp at e
  | _, _, i + 1, d, .any t, e => by
    obtain ⟨v, h1, h2⟩ := Slots.get (i := i) (d := d) t (by simpa using e)
    exact ⟨v, by simpa using h1, h2⟩
  | _, _, 0, _, .cons r _, e => by simp at e; subst e; exact ⟨_, rfl, r⟩
  | _, _, i + 1, d, .cons _ t, e => by
    obtain ⟨v, h1, h2⟩ := Slots.get (i := i) (d := d) t (by simpa using e)
    exact ⟨v, by simpa using h1, h2⟩
theorem Slots.length : ∀ {σ : L2.St} {env : Env}, Slots K Z H σ env → σ.length = env.length
  | _, _, .nil => rfl
  | _, _, .any r => by rw [List.length_cons, List.length_cons, Slots.length r]
  | _, _, .cons _ r => by rw [List.length_cons, List.length_cons, Slots.length r]
theorem Slots.set {v : V} {d : OD} (r : RepO K Z H v d) : ∀ {σ : L2.St} {env : Env} (i : Nat), Slots K Z H σ env → Slots K Z H (σ.set i (some v)) (env.set i (some d))
  | _, _, _, .nil => .nil
  | _, _, 0, .any t => .cons r t
  | _, _, i + 1, .any t => .any (Slots.set r i t)
  | _, _, 0, .cons _ t => .cons r t
  | _, _, i + 1, .cons q t => .cons q (Slots.set r i t)
theorem Slots.drop {o : Option V} : ∀ {σ : L2.St} {env : Env} (i : Nat), Slots K Z H σ env → Slots K Z H (σ.set i o) (env.set i none)
  | _, _, _, .nil => .nil
  | _, _, 0, .any t => .any t
  | _, _, i + 1, .any t => .any (Slots.drop i t)
  | _, _, 0, .cons _ t => .any t
  | _, _, i + 1, .cons q t => .cons q (Slots.drop i t)
/-- the slot's value is forgotten, σ stays -/
theorem Slots.forget : ∀ {σ : L2.St} {env : Env} (i : Nat), Slots K Z H σ env → Slots K Z H σ (env.set i none)
  | _, _, _, .nil => .nil
  | _, _, 0, .any t => .any t
  | _, _, i + 1, .any t => .any (Slots.forget i t)
  | _, _, 0, .cons _ t => .any t
  | _, _, i + 1, .cons q t => .cons q (Slots.forget i t)
/-- another reading of the same value -/
theorem Slots.reread {v : V} {d : OD} (r : RepO K Z H v d) : ∀ {σ : L2.St} {env : Env} (i : Nat), σ[i]? = some (some v) → Slots K Z H σ env → Slots K Z H σ (env.set i (some d))
  | _, _, _, _, .nil => .nil
  | _, _, 0, e, .any t => by
    have e1 := Option.some.inj (show some _ = some (some v) from e)
    subst e1
    exact .cons r t
  | _, _, i + 1, e, .any t => .any (Slots.reread r i (by simpa using e) t)
  | _, _, 0, e, .cons _ t => by
    have e1 := Option.some.inj (Option.some.inj (show some (some _) = some (some v) from e))
    subst e1
    exact .cons r t
  | _, _, i + 1, e, .cons q t => .cons q (Slots.reread r i (by simpa using e) t)
end
/-- a place of the env taken out -/
theorem fpE_split : ∀ {env : Env} {i : Nat} {o : Option OD}, env[i]? = some o → ∃ A B, fpE env = A ++ (fpo o ++ B) ∧ ∀ o', fpE (env.set i o') = A ++ (fpo o' ++ B)
  | [], _, _, e => by simp at e
  | x :: r, 0, o, e => by
    have e1 : x = o := by simpa using e
    subst e1
    exact ⟨[], fpE r, rfl, fun o' => rfl⟩
  | x :: r, i + 1, o, e => by
    obtain ⟨A, B, h1, h2⟩ := fpE_split (env := r) (i := i) (o := o) (by simpa using e)
    exact ⟨fpo x ++ A, B, by simp only [fpE, h1, List.append_assoc], fun o' => by simp only [List.set_cons_succ, fpE, h2, List.append_assoc]⟩
theorem fpE_set_none_sub {env : Env} {i : Nat} : (fpE (env.set i none)).Sublist (fpE env) := by
  cases h : env[i]? with
  | none =>
    rw [List.set_eq_of_length_le (by simpa using h)]
    exact List.Sublist.refl _
  | some o =>
    obtain ⟨A, B, h1, h2⟩ := fpE_split h
    rw [h1, h2]
    exact (List.Sublist.refl A).append (by simpa [fpo] using List.sublist_append_right (fpo o) B)

/-- a state with some values held beside -/
structure Good (K : PySem.W.Frag) (Z H : Hp) (σ : L2.St) (env : Env) (vs : List V) (ds : List OD) : Prop where
  same : Same Z H
  slots : Slots K Z H σ env
  vals : RepOs K Z H vs ds
  nd : (fps ds ++ fpE env).Nodup
  free : ∀ a, a ∈ fps ds ++ fpE env → Z a = none
/-- what a piece of code may do: F is what was owned ahead, F' behind -/
structure Step (Z H : Hp) (F : List Addr) (Z' H' : Hp) (F' : List Addr) : Prop where
  keep : ∀ a o, H a = some o → a ∉ F → H' a = some o
  grow : ∀ a o, H a = some o → ∃ o', H' a = some o'
  ext : Same Z Z'
  znew : ∀ a o, Z' a = some o → (∃ u, Z a = some u) ∨ H a = none ∨ a ∈ F
  fnew : ∀ a, a ∈ F' → H a = none ∨ a ∈ F
section
variable {K : PySem.W.Frag} {Z Z' Z2 H H' H2 : Hp} {F F' F2 : List Addr} {σ σ' : L2.St} {env env' : Env} {vs vs' : List V} {ds ds' : List OD}
theorem Step.refl : Step Z H F Z H F := ⟨fun _ _ h _ => h, fun _ o h => ⟨o, h⟩, Same.refl _, fun _ o h => .inl ⟨o, h⟩, fun _ h => .inr h⟩
theorem Step.trans (a : Step Z H F Z' H' F') (b : Step Z' H' F' Z2 H2 F2) : Step Z H F Z2 H2 F2 where
  keep := fun x o h n => b.keep x o (a.keep x o h n) fun m => by
    rcases a.fnew x m with q | q
    · rw [h] at q; cases q
    · exact n q
  grow := fun x o h => by
    obtain ⟨o', h'⟩ := a.grow x o h
    exact b.grow x o' h'
  ext := a.ext.trans b.ext
  znew := fun x o h => by
    rcases b.znew x o h with ⟨u, h'⟩ | h' | h'
    · exact a.znew x u h'
    · refine .inr (.inl ?_)
      cases q : H x with
      | none => rfl
      | some u =>
        obtain ⟨o', h2⟩ := a.grow x u q
        rw [h2] at h'; cases h'
    · exact (a.fnew x h').elim (fun q => .inr (.inl q)) fun q => .inr (.inr q)
  fnew := fun x m => by
    rcases b.fnew x m with q | q
    · refine .inl ?_
      cases r : H x with
      | none => rfl
      | some u =>
        obtain ⟨o', h2⟩ := a.grow x u r
        rw [h2] at q; cases q
    · exact a.fnew x q
theorem Step.less (a : Step Z H F Z' H' F') (h : ∀ x ∈ F2, x ∈ F') : Step Z H F Z' H' F2 := ⟨a.keep, a.grow, a.ext, a.znew, fun x m => a.fnew x (h x m)⟩
theorem Step.more (a : Step Z H F Z' H' F') (h : ∀ x ∈ F, x ∈ F2) : Step Z H F2 Z' H' F' :=
  ⟨fun x o e n => a.keep x o e fun m => n (h x m), a.grow, a.ext, fun x o e => (a.znew x o e).imp id fun q => q.imp id (h x), fun x m => (a.fnew x m).imp id (h x)⟩
/-- framed by what is held beside -/
theorem Step.frame (a : Step Z H F Z' H' F') (G : List Addr) : Step Z H (G ++ F) Z' H' (G ++ F') :=
  ⟨fun x o e n => a.keep x o e fun m => n (List.mem_append_right _ m), a.grow, a.ext, fun x o e => (a.znew x o e).imp id fun q => q.imp id (List.mem_append_right _),
    fun x m => (List.mem_append.mp m).elim (fun q => .inr (List.mem_append_left _ q)) fun q => (a.fnew x q).imp id (List.mem_append_right _)⟩
/-- what is held beside stays through a step of the rest -/
theorem Good.beside (g : Good K Z H σ env vs ds) (a : Step Z H (fpE env) Z' H' (fps ds' ++ fpE env')) (g' : Good K Z' H' σ' env' vs' ds') : Good K Z' H' σ' env' (vs' ++ vs) (ds' ++ ds) := by
  have dj : ∀ x ∈ fps ds, x ∉ fpE env := fun x h1 h2 => (List.nodup_append.mp g.nd).2.2 x h1 x h2 rfl
  have dj' : ∀ x ∈ fps ds, x ∉ fps ds' ++ fpE env' := fun x h1 h2 => by
    rcases a.fnew x h2 with q | q
    · obtain ⟨o, e⟩ := g.vals.there x h1
      rw [e] at q; cases q
    · exact dj x h1 q
  refine ⟨g'.same, g'.slots, g'.vals.append (g.vals.mono a.ext fun x hx o e => a.keep x o e (dj x hx)), ?_, fun x hx => ?_⟩
  · rw [fps_append]
    have n1 := List.nodup_append.mp g'.nd
    have n2 := List.nodup_append.mp g.nd
    refine List.nodup_append.mpr ⟨List.nodup_append.mpr ⟨n1.1, n2.1, fun x h1 y h2 e => ?_⟩, n1.2.1, fun x h1 y h2 e => ?_⟩
    · subst e
      exact dj' x h2 (List.mem_append_left _ h1)
    · subst e
      rcases List.mem_append.mp h1 with q | q
      · exact n1.2.2 x q x h2 rfl
      · exact dj' x q (List.mem_append_right _ h2)
  · rw [fps_append, List.append_assoc] at hx
    rcases List.mem_append.mp hx with q | q
    · exact g'.free x (List.mem_append_left _ q)
    · rcases List.mem_append.mp q with q | q
      · cases r : Z' x with
        | none => rfl
        | some u =>
          rcases a.znew x u r with ⟨w, z⟩ | z | z
          · rw [g.free x (List.mem_append_left _ q)] at z; cases z
          · obtain ⟨o, e⟩ := g.vals.there x q
            rw [e] at z; cases z
          · exact absurd z (dj x q)
      · exact g'.free x (List.mem_append_right _ q)
theorem Good.base (g : Good K Z H σ env vs ds) : Good K Z H σ env [] [] :=
  ⟨g.same, g.slots, .nil, (List.nodup_append.mp g.nd).2.1, fun a h => g.free a (List.mem_append_right _ (by simpa [fps] using h))⟩
end
end E8
/-! Judgements over trees: expressions. -/
namespace E8
open PySem PySem.Spec PyProof.Rows L2

abbrev WE := Env → (OD → Env → Prop) → Prop
abbrev WT := Env → (Bool → Env → Prop) → Prop
abbrev WA := Env → (List OD → Env → Prop) → Prop

section
variable {K : PySem.W.Frag} {Z Z' H H' : Hp} {σ : L2.St} {env env' : Env} {vs us ws : List V} {ds xs ys : List OD} {v : V} {d : OD}

/-! ### what one does with held values -/
theorem Good.mk' (g : Good K Z H σ env vs ds) (r : RepOs K Z H us xs) (hs : ∀ a ∈ fps xs, a ∈ fps ds) (nd : (fps xs).Nodup) : Good K Z H σ env us xs := by
  have n := List.nodup_append.mp g.nd
  refine ⟨g.same, g.slots, r, List.nodup_append.mpr ⟨nd, n.2.1, fun x h1 y h2 e => n.2.2 x (hs x h1) y h2 e⟩, fun a h => ?_⟩
  rcases List.mem_append.mp h with q | q
  · exact g.free a (List.mem_append_left _ (hs a q))
  · exact g.free a (List.mem_append_right _ q)
theorem Step.mk' (hs : ∀ a ∈ fps xs, a ∈ fps ds) : Step Z H (fps ds ++ fpE env) Z H (fps xs ++ fpE env) :=
  Step.refl.less fun x h => (List.mem_append.mp h).elim (fun q => List.mem_append_left _ (hs x q)) fun q => List.mem_append_right _ q
/-- nothing but a shared result -/
theorem Good.result {d : SD} (g : Good K Z H σ env vs ds) (r : RepS K Z v d) : Good K Z H σ env [v] [.sh d] :=
  g.mk' (.cons (.sh r) .nil) (by simp [fps, fp]) (by simp [fps, fp])
theorem Step.result {d : SD} : Step Z H (fps ds ++ fpE env) Z H (fps [.sh d] ++ fpE env) := Step.mk' (by simp [fps, fp])
/-- a new object, owned -/
theorem Good.alloc {p : Addr} {o : HO} (g : Good K Z H σ env vs ds) (hp : H p = none) :
    Good K Z (upd H p o) σ env vs ds ∧ Step Z H (fps ds ++ fpE env) Z (upd H p o) (p :: fps ds ++ fpE env) ∧ p ∉ fps ds ++ fpE env ∧ Z p = none := by
  have zp : Z p = none := g.same.free hp
  have np : p ∉ fps ds ++ fpE env := fun m => by
    rcases List.mem_append.mp m with q | q
    · obtain ⟨o, e⟩ := g.vals.there p q
      rw [hp] at e; cases e
    · obtain ⟨o, e⟩ := g.slots.there p q
      rw [hp] at e; cases e
  have kp : ∀ a u, H a = some u → upd H p o a = some u := fun a u e => by
    rw [upd_ne (ne_of_none e hp)]; exact e
  refine ⟨⟨fun a u e => kp a u (g.same a u e), g.slots.mono (Same.refl Z) fun a _ => kp a, g.vals.mono (Same.refl Z) fun a _ => kp a, g.nd, g.free⟩, ?_, np, zp⟩
  refine ⟨fun a u e _ => kp a u e, fun a u e => ⟨u, kp a u e⟩, Same.refl _, fun a u e => .inl ⟨u, e⟩, fun a m => ?_⟩
  rcases List.mem_cons.mp m with q | q
  · exact .inl (q ▸ hp)
  · exact .inr q
/-- the held values in a new list -/
theorem Good.newList {p : Addr} (g : Good K Z H σ env vs ds) (hp : H p = none) :
    Good K Z (upd H p (.lst vs)) σ env [.ref p] [.lst p ds] ∧ Step Z H (fps ds ++ fpE env) Z (upd H p (.lst vs)) (fps [.lst p ds] ++ fpE env) := by
  obtain ⟨g1, st, np, zp⟩ := g.alloc (o := .lst vs) hp
  have e : fps [OD.lst p ds] = p :: fps ds := by simp [fps, fp]
  refine ⟨⟨g1.same, g1.slots, .cons (.lst upd_same g1.vals) .nil, ?_, fun a m => ?_⟩, ?_⟩
  · rw [e]
    exact List.nodup_cons.mpr ⟨np, g1.nd⟩
  · rw [e] at m
    rcases List.mem_cons.mp m with q | q
    · exact q ▸ zp
    · exact g1.free a q
  · rw [e]; exact st
/-- all that is held is frozen -/
def zOf (Z H : Hp) (F : List Addr) : Hp := fun a => if a ∈ F then H a else Z a
theorem zOf_in {F : List Addr} {a : Addr} (h : a ∈ F) : zOf Z H F a = H a := if_pos h
theorem zOf_out {F : List Addr} {a : Addr} (h : a ∉ F) : zOf Z H F a = Z a := if_neg h
theorem zOf_same {F : List Addr} (s : Same Z H) (f : ∀ a ∈ F, Z a = none) : Same Z (zOf Z H F) ∧ Same (zOf Z H F) H := by
  constructor
  · intro a o e
    have n : a ∉ F := fun m => by rw [f a m] at e; cases e
    rw [zOf_out n]; exact e
  · intro a o e
    by_cases m : a ∈ F
    · rw [zOf_in m] at e; exact e
    · rw [zOf_out m] at e; exact s a o e
theorem Good.freeze (g : Good K Z H σ env vs ds) : Good K (zOf Z H (fps ds)) H σ env vs ((frzs ds).map .sh) ∧ Step Z H (fps ds ++ fpE env) (zOf Z H (fps ds)) H (fps ((frzs ds).map .sh) ++ fpE env) ∧ RepSs K (zOf Z H (fps ds)) vs (frzs ds) := by
  obtain ⟨s1, s2⟩ := zOf_same g.same fun a m => g.free a (List.mem_append_left _ m)
  have n := List.nodup_append.mp g.nd
  have r : RepSs K (zOf Z H (fps ds)) vs (frzs ds) := g.vals.frz s1 fun a m o e => by rw [zOf_in m]; exact e
  refine ⟨⟨s2, g.slots.mono s1 fun _ _ _ e => e, r.mapO, ?_, fun a m => ?_⟩, ⟨fun _ _ e _ => e, fun _ o e => ⟨o, e⟩, s1, fun a o e => ?_, fun a m => ?_⟩, r⟩
  · rw [fps_sh]; exact n.2.1
  · rw [fps_sh] at m
    have m' : a ∈ fpE env := by simpa using m
    rw [zOf_out fun q => n.2.2 a q a m' rfl]
    exact g.free a (List.mem_append_right _ m')
  · by_cases m : a ∈ fps ds
    · exact .inr (.inr (List.mem_append_left _ m))
    · rw [zOf_out m] at e; exact .inl ⟨o, e⟩
  · rw [fps_sh] at m
    exact .inr (List.mem_append_right _ (by simpa using m))
/-- the held values in a new tuple that is frozen -/
theorem Good.newTup {p : Addr} {ss : List SD} (g : Good K Z H σ env vs (ss.map .sh)) (r : RepSs K Z vs ss) (hp : H p = none) :
    Good K (upd Z p (.tup vs)) (upd H p (.tup vs)) σ env [.ref p] [.sh (.tup ss)] ∧ Step Z H (fps (ss.map .sh) ++ fpE env) (upd Z p (.tup vs)) (upd H p (.tup vs)) (fps [.sh (.tup ss)] ++ fpE env) := by
  have zp : Z p = none := g.same.free hp
  have kz : Same Z (upd Z p (.tup vs)) := fun a u e => by rw [upd_ne (ne_of_none e zp)]; exact e
  have kp : ∀ a u, H a = some u → upd H p (.tup vs) a = some u := fun a u e => by rw [upd_ne (ne_of_none e hp)]; exact e
  have nE : p ∉ fpE env := fun m => by
    obtain ⟨o, e⟩ := g.slots.there p m
    rw [hp] at e; cases e
  have e0 : fps [OD.sh (.tup ss)] = [] := by simp [fps, fp]
  refine ⟨⟨fun a u e => ?_, g.slots.mono kz fun a _ => kp a, .cons (.sh (.tup (.inl (.inl upd_same)) (r.mono kz))) .nil, ?_, fun a m => ?_⟩, ⟨fun a u e _ => kp a u e, fun a u e => ⟨u, kp a u e⟩, kz, fun a u e => ?_, fun a m => ?_⟩⟩
  · by_cases h : a = p
    · subst h; rw [upd_same] at e ⊢; exact e
    · rw [upd_ne h] at e ⊢; exact g.same a u e
  · rw [e0]; exact (List.nodup_append.mp g.nd).2.1
  · rw [e0] at m
    have m' : a ∈ fpE env := by simpa using m
    rw [upd_ne (fun (h : a = p) => nE (by rw [← h]; exact m'))]
    exact g.free a (List.mem_append_right _ m')
  · by_cases h : a = p
    · exact .inr (.inl (h ▸ hp))
    · rw [upd_ne h] at e; exact .inl ⟨u, e⟩
  · rw [e0] at m
    exact .inr (List.mem_append_right _ (by simpa using m))
/-- .. in a new tuple, its parts still owned -/
theorem Good.newTupO {p : Addr} (g : Good K Z H σ env vs ds) (hp : H p = none) :
    Good K (upd Z p (.tup vs)) (upd H p (.tup vs)) σ env [.ref p] [.tup ds] ∧ Step Z H (fps ds ++ fpE env) (upd Z p (.tup vs)) (upd H p (.tup vs)) (fps [.tup ds] ++ fpE env) := by
  have zp : Z p = none := g.same.free hp
  have kz : Same Z (upd Z p (.tup vs)) := fun a u e => by rw [upd_ne (ne_of_none e zp)]; exact e
  have kp : ∀ a u, H a = some u → upd H p (.tup vs) a = some u := fun a u e => by rw [upd_ne (ne_of_none e hp)]; exact e
  obtain ⟨_, _, np, _⟩ := g.alloc (o := .tup vs) hp
  have e0 : fps [OD.tup ds] = fps ds := by simp [fps, fp]
  refine ⟨⟨fun a u e => ?_, g.slots.mono kz fun a _ => kp a, .cons (.tup (.inl (.inl upd_same)) (g.vals.mono kz fun a _ => kp a)) .nil, ?_, fun a m => ?_⟩, ⟨fun a u e _ => kp a u e, fun a u e => ⟨u, kp a u e⟩, kz, fun a u e => ?_, fun a m => ?_⟩⟩
  · by_cases h : a = p
    · subst h; rw [upd_same] at e ⊢; exact e
    · rw [upd_ne h] at e ⊢; exact g.same a u e
  · rw [e0]; exact g.nd
  · rw [e0] at m
    rw [upd_ne (fun (h : a = p) => np (by rw [← h]; exact m))]
    exact g.free a m
  · by_cases h : a = p
    · exact .inr (.inl (h ▸ hp))
    · rw [upd_ne h] at e; exact .inl ⟨u, e⟩
  · rw [e0] at m; exact .inr m
end

/-! ### the judgements -/
def SimE (K : PySem.W.Frag) (te : TE) (we : WE) : Prop := ∀ (Z H : Hp) (σ : L2.St) (env : Env) (Q : OD → Env → Prop) (P : VK), Good K Z H σ env [] [] → we env Q →
  (∀ v H' Z' d env', Step Z H (fpE env) Z' H' (fps [d] ++ fpE env') → Good K Z' H' σ env' [v] [d] → Q d env' → P v H') → te σ H P
def SimT (K : PySem.W.Frag) (tt : TT) (wt : WT) : Prop := ∀ (Z H : Hp) (σ : L2.St) (env : Env) (Q : Bool → Env → Prop) (P : Bool → Hp → Prop), Good K Z H σ env [] [] → wt env Q →
  (∀ b H' Z' env', Step Z H (fpE env) Z' H' (fpE env') → Good K Z' H' σ env' [] [] → Q b env' → P b H') → tt σ H P
/-- the places of the arguments that are lent -/
def Backs (σ : L2.St) : List (Option Nat) → List V → Prop
  | [], [] => True
  | none :: b, _ :: vs => Backs σ b vs
  | some i :: b, v :: vs => σ[i]? = some (some v) ∧ Backs σ b vs
  | _, _ => False
def SimA (K : PySem.W.Frag) (ta : TA) (back : List (Option Nat)) (wa : WA) : Prop := ∀ (Z H : Hp) (σ : L2.St) (env : Env) (Q : List OD → Env → Prop) (P : List V → Hp → Prop), Good K Z H σ env [] [] → wa env Q →
  (∀ vs H' Z' ds env', Step Z H (fpE env) Z' H' (fps ds ++ fpE env') → Good K Z' H' σ env' vs ds → Backs σ back vs → Q ds env' → P vs H') → ta σ H P
def DE (X : Cx) (e : Expr) (we : WE) : Prop := ∃ te, PE X e te ∧ SimE X.K te we
def DT (X : Cx) (e : Expr) (wt : WT) : Prop := ∃ tt, PT X e tt ∧ SimT X.K tt wt
def DW (X : Cx) (e : Expr) (wt : WT) : Prop := ∃ tt, PW X e tt ∧ SimT X.K tt wt
def DA (X : Cx) (es : List Expr) (back : List (Option Nat)) (wa : WA) : Prop := ∃ ta, PA X es ta ∧ SimA X.K ta back wa

/-- an operator by values -/
def OpOk (K : PySem.W.Frag) (r : R2) (w : OD → OD → (OD → Prop) → Prop) : Prop := ∀ (Z H : Hp) (σ : L2.St) (env : Env) (vx vy : V) (dx dy : OD) (k : OD → Prop) (P : VK), Good K Z H σ env [vx, vy] [dx, dy] → w dx dy k →
  (∀ v H' Z' d, Step Z H (fps [dx, dy] ++ fpE env) Z' H' (fps [d] ++ fpE env) → Good K Z' H' σ env [v] [d] → k d → P v H') → r vx vy H P
def UnOk (K : PySem.W.Frag) (r : V → Hp → VK → Prop) (w : OD → (OD → Prop) → Prop) : Prop := ∀ (Z H : Hp) (σ : L2.St) (env : Env) (vx : V) (dx : OD) (k : OD → Prop) (P : VK), Good K Z H σ env [vx] [dx] → w dx k →
  (∀ v H' Z' d, Step Z H (fps [dx] ++ fpE env) Z' H' (fps [d] ++ fpE env) → Good K Z' H' σ env [v] [d] → k d → P v H') → r vx H P
def CallOk (K : PySem.W.Frag) (r : List V → Hp → VK → Prop) (w : List OD → (OD → Prop) → Prop) : Prop := ∀ (Z H : Hp) (σ : L2.St) (env : Env) (vs : List V) (ds : List OD) (k : OD → Prop) (P : VK), Good K Z H σ env vs ds → w ds k →
  (∀ v H' Z' d, Step Z H (fps ds ++ fpE env) Z' H' (fps [d] ++ fpE env) → Good K Z' H' σ env [v] [d] → k d → P v H') → r vs H P

/-! ### names, constants -/
def wC (d : SD) : WE := fun env Q => Q (.sh d) env
def wVar (i : Nat) : WE := fun env Q => match env[i]? with
  | some (some (.sh d)) => Q (.sh d) env
  | _ => False
def wFrz (i : Nat) : WE := fun env Q => match env[i]? with
  | some (some d) => Q (.sh (frz d)) (env.set i (some (.sh (frz d))))
  | _ => False
def wMove (i : Nat) : WE := fun env Q => match env[i]? with
  | some (some d) => Q d (env.set i none)
  | _ => False
section
variable {K : PySem.W.Frag}
theorem sim_c {v : V} {d : SD} (h : ∀ Z, RepS K Z v d) : SimE K (tC v) (wC d) := fun Z H σ env Q P g hw k => k v H Z _ env (Step.result (ds := [])) (g.result (h Z)) hw
theorem sim_var (i : Nat) : SimE K (tVar i) (wVar i) := fun Z H σ env Q P g hw k => by
  unfold wVar at hw
  split at hw
  · rename_i d e
    obtain ⟨v, hv, r⟩ := g.slots.get e
    cases r with
    | sh r => exact ⟨v, hv, k v H Z _ env (Step.result (ds := [])) (g.result r) hw⟩
  · exact hw.elim
theorem sim_move (i : Nat) : SimE K (tVar i) (wMove i) := fun Z H σ env Q P g hw k => by
  unfold wMove at hw
  split at hw
  · rename_i d e
    obtain ⟨v, hv, r⟩ := g.slots.get e
    obtain ⟨A, B, h1, h2⟩ := fpE_split e
    have nd : (fpE env).Nodup := by simpa [fps] using g.nd
    have sub : ∀ a ∈ fps [d] ++ fpE (env.set i none), a ∈ fpE env := fun a m => by
      rw [h2 none] at m
      rw [h1]
      simp only [fps, fpo, List.append_nil, List.nil_append, List.mem_append] at m ⊢
      rcases m with m | m | m
      · exact .inr (.inl m)
      · exact .inl m
      · exact .inr (.inr m)
    refine ⟨v, hv, k v H Z d (env.set i none) (Step.refl.less sub) ⟨g.same, g.slots.forget i, .cons r .nil, ?_, fun a m => g.free a (by simpa [fps] using sub a m)⟩ hw⟩
    rw [h2 none]
    rw [h1] at nd
    simp only [fps, fpo, List.append_nil, List.nil_append] at nd ⊢
    have n1 := List.nodup_append.mp nd
    have n2 := List.nodup_append.mp n1.2.1
    refine List.nodup_append.mpr ⟨n2.1, List.nodup_append.mpr ⟨n1.1, n2.2.1, fun x hx y hy => n1.2.2 x hx y (List.mem_append_right _ hy)⟩, fun x hx y hy e => ?_⟩
    subst e
    rcases List.mem_append.mp hy with q | q
    · exact n1.2.2 x q x (List.mem_append_left _ hx) rfl
    · exact n2.2.2 x hx x q rfl
  · exact hw.elim
theorem sim_frz (i : Nat) : SimE K (tVar i) (wFrz i) := fun Z H σ env Q P g hw k => by
  unfold wFrz at hw
  split at hw
  · rename_i d e
    obtain ⟨v, hv, r⟩ := g.slots.get e
    obtain ⟨A, B, h1, h2⟩ := fpE_split e
    have nd : (fpE env).Nodup := by simpa [fps] using g.nd
    rw [h1] at nd
    have n1 := List.nodup_append.mp nd
    have n2 := List.nodup_append.mp n1.2.1
    have inE : ∀ a ∈ fp d, a ∈ fpE env := fun a m => by
      rw [h1]; exact List.mem_append_right _ (List.mem_append_left _ m)
    have fr : ∀ a ∈ fp d, Z a = none := fun a m => g.free a (by simpa [fps] using inE a m)
    obtain ⟨s1, s2⟩ := zOf_same (F := fp d) g.same fr
    have rs : RepS K (zOf Z H (fp d)) v (frz d) := r.frz s1 fun a m o q => by rw [zOf_in m]; exact q
    have ee : fpE (env.set i (some (.sh (frz d)))) = A ++ B := by rw [h2]; simp [fpo, fp]
    have sub : ∀ a ∈ A ++ B, a ∈ fpE env ∧ a ∉ fp d := fun a m => by
      rw [h1]
      rcases List.mem_append.mp m with q | q
      · exact ⟨List.mem_append_left _ q, fun z => n1.2.2 a q a (List.mem_append_left _ z) rfl⟩
      · exact ⟨List.mem_append_right _ (List.mem_append_right _ q), fun z => n2.2.2 a z a q rfl⟩
    refine ⟨v, hv, k v H (zOf Z H (fp d)) (.sh (frz d)) _ ⟨fun _ _ q _ => q, fun _ o q => ⟨o, q⟩, s1, fun a o q => ?_, fun a m => ?_⟩ ⟨s2, ?_, .cons (.sh rs) .nil, ?_, fun a m => ?_⟩ hw⟩
    · by_cases m : a ∈ fp d
      · exact .inr (.inr (inE a m))
      · rw [zOf_out m] at q; exact .inl ⟨o, q⟩
    · rw [ee] at m
      exact .inr (sub a (by simpa [fps, fp] using m)).1
    · exact (g.slots.mono s1 fun _ _ _ q => q).reread (.sh rs) i hv
    · rw [ee]
      simp only [fps, fp, List.append_nil, List.nil_append]
      exact List.nodup_append.mpr ⟨n1.1, n2.2.1, fun x hx y hy => n1.2.2 x hx y (List.mem_append_right _ hy)⟩
    · rw [ee] at m
      have q := sub a (by simpa [fps, fp] using m)
      rw [zOf_out q.2]
      exact g.free a (by simpa [fps] using q.1)
  · exact hw.elim

/-! ### composing -/
def wOp (w : OD → OD → (OD → Prop) → Prop) (wa wb : WE) : WE := fun env Q => wa env fun x env1 => wb env1 fun y env2 => w x y fun z => Q z env2
def wUn (w : OD → (OD → Prop) → Prop) (wa : WE) : WE := fun env Q => wa env fun x env1 => w x fun z => Q z env1
theorem sim_op {r : R2} {w : OD → OD → (OD → Prop) → Prop} {ta tb : TE} {wa wb : WE} (ho : OpOk K r w) (ha : SimE K ta wa) (hb : SimE K tb wb) : SimE K (tOp r ta tb) (wOp w wa wb) := fun Z H σ env Q P g hw k => by
  refine ha Z H σ env _ _ g hw fun v1 H1 Z1 d1 env1 st1 g1 hw1 => ?_
  refine hb Z1 H1 σ env1 _ _ g1.base hw1 fun v2 H2 Z2 d2 env2 st2 g2 hw2 => ?_
  have g12 : Good K Z2 H2 σ env2 ([v2] ++ [v1]) ([d2] ++ [d1]) := g1.beside (st2) g2
  have g21 : Good K Z2 H2 σ env2 [v1, v2] [d1, d2] := by
    have r := g12.vals
    cases r with
    | cons a b =>
      cases b with
      | cons b c =>
        cases c
        refine g12.mk' (.cons b (.cons a .nil)) (fun x m => ?_) ?_
        · simp only [fps, List.append_nil, List.mem_append, List.cons_append, List.nil_append] at m ⊢
          exact m.symm
        · have n := (List.nodup_append.mp g12.nd).1
          simp only [fps, List.append_nil, List.cons_append, List.nil_append] at n ⊢
          have n' := List.nodup_append.mp n
          exact List.nodup_append.mpr ⟨n'.2.1, n'.1, fun x hx y hy e => n'.2.2 y hy x hx e.symm⟩
  refine ho Z2 H2 σ env2 v1 v2 d1 d2 _ P g21 hw2 fun v H' Z' d st g' q => ?_
  refine k v H' Z' d env2 ((st1.trans ((st2.frame (fps [d1])).less fun x m => ?_)).trans st) g' q
  simp only [fps, List.append_nil, List.mem_append] at m ⊢
  rcases m with (m | m) | m
  · exact .inl m
  · exact .inr (.inl m)
  · exact .inr (.inr m)
theorem sim_un {r : V → Hp → VK → Prop} {w : OD → (OD → Prop) → Prop} {ta : TE} {wa : WE} (ho : UnOk K r w) (ha : SimE K ta wa) : SimE K (tUn r ta) (wUn w wa) := fun Z H σ env Q P g hw k => by
  refine ha Z H σ env _ _ g hw fun v1 H1 Z1 d1 env1 st1 g1 hw1 => ?_
  exact ho Z1 H1 σ env1 v1 d1 _ P g1 hw1 fun v H' Z' d st g' q => k v H' Z' d env1 (st1.trans st) g' q
/-- or of two ways to see it -/
theorem OpOk.or {r r' : R2} {w w' : OD → OD → (OD → Prop) → Prop} (h : OpOk K r w) (h' : OpOk K r' w') : OpOk K (fun x y H Q => r x y H Q ∨ r' x y H Q) (fun x y k => w x y k ∨ w' x y k) := fun Z H σ env vx vy dx dy k P g hw c =>
  hw.imp (fun q => h Z H σ env vx vy dx dy k P g q c) fun q => h' Z H σ env vx vy dx dy k P g q c
/-- scalars from scalars -/
theorem op_shared {r : R2} {w : OD → OD → (OD → Prop) → Prop} (h : ∀ (Z H : Hp) (vx vy : V) (dx dy : OD) (k : OD → Prop) (P : VK), Same Z H → RepO K Z H vx dx → RepO K Z H vy dy → w dx dy k → (∀ v d, RepS K Z v d → k (.sh d) → P v H) → r vx vy H P) : OpOk K r w :=
  fun Z H σ env vx vy dx dy k P g hw c => by
    have rs := g.vals
    cases rs with
    | cons a b =>
      cases b with
      | cons b e => exact h Z H vx vy dx dy k P g.same a b hw fun v d r q => c v H Z (.sh d) Step.result (g.result r) q
theorem un_shared {r : V → Hp → VK → Prop} {w : OD → (OD → Prop) → Prop} (h : ∀ (Z H : Hp) (vx : V) (dx : OD) (k : OD → Prop) (P : VK), Same Z H → RepO K Z H vx dx → w dx k → (∀ v d, RepS K Z v d → k (.sh d) → P v H) → r vx H P) : UnOk K r w :=
  fun Z H σ env vx dx k P g hw c => by
    have rs := g.vals
    cases rs with
    | cons a b => exact h Z H vx dx k P g.same a hw fun v d r q => c v H Z (.sh d) Step.result (g.result r) q
theorem call_shared {r : List V → Hp → VK → Prop} {w : List OD → (OD → Prop) → Prop} (h : ∀ (Z H : Hp) (vs : List V) (ds : List OD) (k : OD → Prop) (P : VK), Same Z H → RepOs K Z H vs ds → w ds k → (∀ v d, RepS K Z v d → k (.sh d) → P v H) → r vs H P) : CallOk K r w :=
  fun Z H σ env vs ds k P g hw c => h Z H vs ds k P g.same g.vals hw fun v d r q => c v H Z (.sh d) Step.result (g.result r) q
/-- two whole numbers -/
def wII (f : Int → Int → (OD → Prop) → Prop) : OD → OD → (OD → Prop) → Prop := fun x y k => match x, y with
  | .sh (.int i), .sh (.int j) => f i j k
  | _, _ => False
theorem ok_II {r : R2} {f : Int → Int → (OD → Prop) → Prop} (h : ∀ (Z H : Hp) (i j : Int) (k : OD → Prop) (P : VK), f i j k → (∀ v d, RepS K Z v d → k (.sh d) → P v H) → r (.int i) (.int j) H P) : OpOk K r (wII f) := op_shared fun Z H vx vy dx dy k P s rx ry hw c => by
  unfold wII at hw
  split at hw
  · cases rx with
    | sh rx => cases rx; cases ry with
      | sh ry => cases ry; exact h Z H _ _ k P hw c
  · exact hw.elim
def fAdd (i j : Int) (k : OD → Prop) : Prop := k (.sh (.int (i + j)))
def fSub (i j : Int) (k : OD → Prop) : Prop := k (.sh (.int (i - j)))
def MulOk (i j : Int) : Prop := CMul i j ∨ CMulW i j
def fMul (i j : Int) (k : OD → Prop) : Prop := MulOk i j ∧ k (.sh (.int (i * j)))
def fDiv (i j : Int) (k : OD → Prop) : Prop := CDivW i j ∧ k (.sh (.int (i / j)))
def fMod (i j : Int) (k : OD → Prop) : Prop := 0 < j ∧ k (.sh (.int (i % j)))
def fPow (i j : Int) (k : OD → Prop) : Prop := CPow i j ∧ k (.sh (.int (i ^ j.toNat)))
def fXor (i j : Int) (k : OD → Prop) : Prop := k (.sh (.int (Builtin.bitXor i j)))
def fLt (i j : Int) (k : OD → Prop) : Prop := k (.sh (.bl (decide (i < j))))
def fLe (i j : Int) (k : OD → Prop) : Prop := k (.sh (.bl (decide (i ≤ j))))
def fGt (i j : Int) (k : OD → Prop) : Prop := k (.sh (.bl (decide (j < i))))
def fGe (i j : Int) (k : OD → Prop) : Prop := k (.sh (.bl (decide (j ≤ i))))
theorem ok_I0 {g : Int → Int → V} {g' : Int → Int → SD} (h : ∀ Z i j, RepS K Z (g i j) (g' i j)) : OpOk K (rI0 g) (wII fun i j k => k (.sh (g' i j))) := ok_II fun Z H i j k P hw c => ⟨i, j, rfl, rfl, c _ _ (h Z i j) hw⟩
theorem ok_IC {C C' : Int → Int → Prop} {g : Int → Int → V} {g' : Int → Int → SD} (h : ∀ Z i j, RepS K Z (g i j) (g' i j)) (hc : ∀ i j, C' i j → C i j) : OpOk K (rI C g) (wII fun i j k => C' i j ∧ k (.sh (g' i j))) := ok_II fun Z H i j k P hw c => ⟨i, j, rfl, rfl, hc i j hw.1, c _ _ (h Z i j) hw.2⟩
end
section
variable {X : Cx} {e a b : Expr} {wa wb we : WE} {pos : Pos}
/-- an operator of the language, with its reading over trees -/
def OpD (X : Cx) (f : Value → Value → Sem Value) (w : OD → OD → (OD → Prop) → Prop) : Prop := ∃ r, OpR X f r ∧ OpOk X.K r w
theorem OpD.or {f : Value → Value → Sem Value} {w w' : OD → OD → (OD → Prop) → Prop} (h : OpD X f w) (h' : OpD X f w') : OpD X f (fun x y k => w x y k ∨ w' x y k) :=
  let ⟨_, a, b⟩ := h; let ⟨_, a', b'⟩ := h'; ⟨_, a.or a', b.or b'⟩
theorem OpD.imp {f : Value → Value → Sem Value} {w w' : OD → OD → (OD → Prop) → Prop} (h : OpD X f w) (i : ∀ x y k, w' x y k → w x y k) : OpD X f w' :=
  let ⟨r, a, b⟩ := h; ⟨r, a, fun Z H σ env vx vy dx dy k P g hw c => b Z H σ env vx vy dx dy k P g (i _ _ _ hw) c⟩
theorem d_add : OpD X (binaryOp .Add) (wII fAdd) := ⟨_, op_add, ok_I0 fun _ _ _ => .int _⟩
theorem d_sub : OpD X (binaryOp .Sub) (wII fSub) := ⟨_, op_sub, ok_I0 fun _ _ _ => .int _⟩
theorem d_mul : OpD X (binaryOp .Mult) (wII fMul) := ⟨_, op_mul.or op_mulW, ok_II fun Z H i j k P hw c => hw.1.imp (fun q => ⟨i, j, rfl, rfl, q, c _ _ (.int _) hw.2⟩) fun q => ⟨i, j, rfl, rfl, q, c _ _ (.int _) hw.2⟩⟩
theorem d_div : OpD X (binaryOp .FloorDiv) (wII fDiv) := ⟨_, op_fdivW, ok_IC (fun _ _ _ => .int _) fun _ _ h => h⟩
theorem d_mod : OpD X (binaryOp .Mod) (wII fMod) := ⟨_, op_mod, ok_IC (fun _ _ _ => .int _) fun _ _ h => h⟩
theorem d_pow : OpD X (binaryOp .Pow) (wII fPow) := ⟨_, op_pow, ok_IC (fun _ _ _ => .int _) fun _ _ h => h⟩
theorem d_xor : OpD X (binaryOp .BitXor) (wII fXor) := ⟨_, op_xor, ok_I0 fun _ _ _ => .int _⟩
theorem d_lt : OpD X (compareOp .Lt) (wII fLt) := ⟨_, op_lt, ok_I0 fun _ _ _ => .bl _⟩
theorem d_le : OpD X (compareOp .LtE) (wII fLe) := ⟨_, op_le, ok_I0 fun _ _ _ => .bl _⟩
theorem d_gt : OpD X (compareOp .Gt) (wII fGt) := ⟨_, op_gt, ok_I0 fun _ _ _ => .bl _⟩
theorem d_ge : OpD X (compareOp .GtE) (wII fGe) := ⟨_, op_ge, ok_I0 fun _ _ _ => .bl _⟩
/-- is None -/
def isNon : OD → Bool
  | .sh .non => true
  | _ => false
def wIsN (x y : OD) (k : OD → Prop) : Prop := match y with
  | .sh .non => k (.sh (.bl (isNon x)))
  | _ => False
def wNotN (x y : OD) (k : OD → Prop) : Prop := match y with
  | .sh .non => k (.sh (.bl (!isNon x)))
  | _ => False
theorem isNon_of {K : PySem.W.Frag} {Z H : Hp} {v : V} {d : OD} (r : RepO K Z H v d) : decide (v = .non) = isNon d := by
  cases r with
  | sh r => cases r <;> simp [isNon]
  | lst _ _ => simp [isNon]
  | tup _ _ => simp [isNon]
  | dic _ _ _ _ => simp [isNon]
  | ins _ _ _ _ => simp [isNon]
theorem d_isN : OpD X (compareOp .Is) wIsN := ⟨_, op_isN, op_shared fun Z H vx vy dx dy k P s rx ry hw c => by
  unfold wIsN at hw
  split at hw
  · cases ry with
    | sh ry => cases ry; exact ⟨rfl, by rw [isNon_of rx]; exact c _ _ (.bl _) hw⟩
  · exact hw.elim⟩
theorem d_notN : OpD X (compareOp .IsNot) wNotN := ⟨_, op_notN, op_shared fun Z H vx vy dx dy k P s rx ry hw c => by
  unfold wNotN at hw
  split at hw
  · cases ry with
    | sh ry => cases ry; exact ⟨rfl, by rw [isNon_of rx]; exact c _ _ (.bl _) hw⟩
  · exact hw.elim⟩
theorem de_op {op : Operator} {w : OD → OD → (OD → Prop) → Prop} (ho : OpD X (binaryOp op) w) (ha : DE X a wa) (hb : DE X b wb) : DE X (.BinOp a op b pos) (wOp w wa wb) :=
  let ⟨_, r, ok⟩ := ho; let ⟨_, a1, a2⟩ := ha; let ⟨_, b1, b2⟩ := hb; ⟨_, pe_op r a1 b1, sim_op ok a2 b2⟩
theorem de_cmp {op : CmpOp} {w : OD → OD → (OD → Prop) → Prop} (ho : OpD X (compareOp op) w) (ha : DE X a wa) (hb : DE X b wb) (hm : behindInMarks op b = false) : DE X (.Compare a [op] [b] pos) (wOp w wa wb) :=
  let ⟨_, r, ok⟩ := ho; let ⟨_, a1, a2⟩ := ha; let ⟨_, b1, b2⟩ := hb; ⟨_, pe_cmpR r a1 b1 hm, sim_op ok a2 b2⟩
def wNeg (x : OD) (k : OD → Prop) : Prop := match x with
  | .sh (.int i) => k (.sh (.int (-i)))
  | _ => False
theorem de_neg (ha : DE X a wa) : DE X (.UnaryOp .USub a pos) (wUn wNeg wa) :=
  let ⟨_, a1, a2⟩ := ha; ⟨_, pe_un un_neg a1, sim_un (un_shared fun Z H vx dx k P s rx hw c => by
    unfold wNeg at hw
    split at hw
    · cases rx with
      | sh rx => cases rx; exact ⟨_, rfl, c _ _ (.int _) hw⟩
    · exact hw.elim) a2⟩
theorem de_int {i : Int} {j} : DE X (.Constant (.int i) j pos) (wC (.int i)) := ⟨_, pe_int, sim_c fun _ => .int _⟩
theorem de_bl {i : Bool} {j} : DE X (.Constant (.bool i) j pos) (wC (.bl i)) := ⟨_, pe_bl, sim_c fun _ => .bl _⟩
theorem de_non {j} : DE X (.Constant .none j pos) (wC .non) := ⟨_, pe_non, sim_c fun _ => .non⟩
theorem de_str {i : Str} {j} : DE X (.Constant (.str i) j pos) (wC (.str i)) := ⟨_, pe_str, sim_c fun _ => .str _⟩
theorem de_v (i : Nat) {x : Str} (hN : X.N[i]? = some x := by rfl) (hv : Vis X.env.scope x := by first | exact Or.inl rfl | exact Or.inr (Or.inl rfl) | exact Or.inr (Or.inr rfl)) (hd : (x == ("__debug__" : Str)) = false := by decide)
    (hcd : (x == ("__classdict__" : Str)) = false := by decide) : DE X (.Name x pos) (wVar i) := ⟨_, pe_var hN hv hd hcd, sim_var i⟩
theorem de_f (i : Nat) {x : Str} (hN : X.N[i]? = some x := by rfl) (hv : Vis X.env.scope x := by first | exact Or.inl rfl | exact Or.inr (Or.inl rfl) | exact Or.inr (Or.inr rfl)) (hd : (x == ("__debug__" : Str)) = false := by decide)
    (hcd : (x == ("__classdict__" : Str)) = false := by decide) : DE X (.Name x pos) (wFrz i) := ⟨_, pe_var hN hv hd hcd, sim_frz i⟩
theorem de_m (i : Nat) {x : Str} (hN : X.N[i]? = some x := by rfl) (hv : Vis X.env.scope x := by first | exact Or.inl rfl | exact Or.inr (Or.inl rfl) | exact Or.inr (Or.inr rfl)) (hd : (x == ("__debug__" : Str)) = false := by decide)
    (hcd : (x == ("__classdict__" : Str)) = false := by decide) : DE X (.Name x pos) (wMove i) := ⟨_, pe_var hN hv hd hcd, sim_move i⟩
/-! ### tests -/
def wB (wa : WE) : WT := fun env Q => wa env fun x env1 => match x with
  | .sh (.bl b) => Q b env1
  | _ => False
theorem sim_b {K : PySem.W.Frag} {ta : TE} {wa : WE} (ha : SimE K ta wa) : SimT K (tB ta) (wB wa) := fun Z H σ env Q P g hw k => by
  refine ha Z H σ env _ _ g hw fun v1 H1 Z1 d1 env1 st1 g1 hw1 => ?_
  split at hw1
  · have r := g1.vals
    cases r with
    | cons r _ => cases r with
      | sh r => cases r; exact ⟨_, rfl, k _ H1 Z1 env1 (st1.less fun x m => by simpa [fps, fp] using m) g1.base hw1⟩
  · exact hw1.elim
theorem dt_v (h : DE X e we) (he : ∀ whole, isTrue e X.env whole = (do let v ← whole; standAt e.pos; holding [v] (truthy v)) := by intro _; rfl) : DT X e (wB we) := let ⟨_, a, b⟩ := h; ⟨_, pt_val a he, sim_b b⟩
theorem dt_cmp {op : CmpOp} {w : OD → OD → (OD → Prop) → Prop} (ho : OpD X (compareOp op) w) (ha : DE X a wa) (hb : DE X b wb) (hm : behindInMarks op b = false) : DT X (.Compare a [op] [b] pos) (wB (wOp w wa wb)) :=
  let ⟨_, r, ok⟩ := ho; let ⟨_, a1, a2⟩ := ha; let ⟨_, b1, b2⟩ := hb; ⟨_, pt_cmpR r a1 b1 hm, sim_b (sim_op ok a2 b2)⟩
def wNotT (wt : WT) : WT := fun env Q => wt env fun b env1 => Q (!b) env1
def wAndT (wt wu : WT) : WT := fun env Q => wt env fun b env1 => if b = true then wu env1 Q else Q false env1
def wOrT (wt wu : WT) : WT := fun env Q => wt env fun b env1 => if b = true then Q true env1 else wu env1 Q
section
variable {wt wu : WT} {rest : List Expr}
theorem dt_not (h : DT X a wt) : DT X (.UnaryOp .Not a pos) (wNotT wt) := let ⟨_, p, q⟩ := h; ⟨_, pt_not p, fun Z H σ env Q P g hw k => q Z H σ env _ _ g hw fun b H' Z' env' st g' h' => k _ H' Z' env' st g' h'⟩
theorem dw_pt (h : DW X e wt) : DT X e wt := let ⟨_, p, q⟩ := h; ⟨_, p.pt, q⟩
theorem dw_and1 (h : DT X a wt) : DW X (.BoolOp .And [a] pos) wt := let ⟨_, p, q⟩ := h; ⟨_, pw_and1 p, q⟩
theorem dw_or1 (h : DT X a wt) : DW X (.BoolOp .Or [a] pos) wt := let ⟨_, p, q⟩ := h; ⟨_, pw_or1 p, q⟩
theorem dw_and (ha : DT X a wt) (hb : DW X (.BoolOp .And (b :: rest) pos) wu) : DW X (.BoolOp .And (a :: b :: rest) pos) (wAndT wt wu) := let ⟨_, p, q⟩ := ha; let ⟨_, p', q'⟩ := hb; ⟨_, pw_and p p', fun Z H σ env Q P g hw k => by
  refine q Z H σ env _ _ g hw fun b H1 Z1 env1 st1 g1 h1 => ?_
  cases b with
  | true => exact q' Z1 H1 σ env1 _ _ g1 h1 fun b H2 Z2 env2 st2 g2 h2 => k b H2 Z2 env2 (st1.trans st2) g2 h2
  | false => exact k false H1 Z1 env1 st1 g1 h1⟩
theorem dw_or (ha : DT X a wt) (hb : DW X (.BoolOp .Or (b :: rest) pos) wu) : DW X (.BoolOp .Or (a :: b :: rest) pos) (wOrT wt wu) := let ⟨_, p, q⟩ := ha; let ⟨_, p', q'⟩ := hb; ⟨_, pw_or p p', fun Z H σ env Q P g hw k => by
  refine q Z H σ env _ _ g hw fun b H1 Z1 env1 st1 g1 h1 => ?_
  cases b with
  | true => exact k true H1 Z1 env1 st1 g1 h1
  | false => exact q' Z1 H1 σ env1 _ _ g1 h1 fun b H2 Z2 env2 st2 g2 h2 => k b H2 Z2 env2 (st1.trans st2) g2 h2⟩
/-- as values, all but the last True or False -/
def wAndV (wa wb : WE) : WE := fun env Q => wB wa env fun b env1 => if b = true then wb env1 Q else Q (.sh (.bl false)) env1
def wOrV (wa wb : WE) : WE := fun env Q => wB wa env fun b env1 => if b = true then Q (.sh (.bl true)) env1 else wb env1 Q
def wNotV (wa : WE) : WE := fun env Q => wB wa env fun b env1 => Q (.sh (.bl (!b))) env1
theorem de_one {op} (h : DE X a wa) : DE X (.BoolOp op [a] pos) wa := let ⟨_, p, q⟩ := h; ⟨_, pe_one p, q⟩
theorem de_and (ha : DE X a wa) (hb : DE X (.BoolOp .And (b :: rest) pos) wb) : DE X (.BoolOp .And (a :: b :: rest) pos) (wAndV wa wb) := let ⟨_, p, q⟩ := ha; let ⟨_, p', q'⟩ := hb; ⟨_, pe_and p p', fun Z H σ env Q P g hw k => by
  refine q Z H σ env _ _ g hw fun v1 H1 Z1 d1 env1 st1 g1 h1 => ?_
  split at h1
  · rename_i b
    have r := g1.vals
    have st1' : Step Z H (fpE env) Z1 H1 (fpE env1) := st1.less fun x m => by simpa [fps, fp] using m
    cases r with
    | cons r _ => cases r with
      | sh r =>
        cases r
        refine ⟨b, rfl, ?_⟩
        cases b with
        | true => exact q' Z1 H1 σ env1 _ _ g1.base h1 fun v H2 Z2 d env2 st2 g2 h2 => k v H2 Z2 d env2 (st1'.trans st2) g2 h2
        | false => exact k _ H1 Z1 _ env1 st1 g1 h1
  · exact h1.elim⟩
theorem de_or (ha : DE X a wa) (hb : DE X (.BoolOp .Or (b :: rest) pos) wb) : DE X (.BoolOp .Or (a :: b :: rest) pos) (wOrV wa wb) := let ⟨_, p, q⟩ := ha; let ⟨_, p', q'⟩ := hb; ⟨_, pe_or p p', fun Z H σ env Q P g hw k => by
  refine q Z H σ env _ _ g hw fun v1 H1 Z1 d1 env1 st1 g1 h1 => ?_
  split at h1
  · rename_i b
    have r := g1.vals
    have st1' : Step Z H (fpE env) Z1 H1 (fpE env1) := st1.less fun x m => by simpa [fps, fp] using m
    cases r with
    | cons r _ => cases r with
      | sh r =>
        cases r
        refine ⟨b, rfl, ?_⟩
        cases b with
        | true => exact k _ H1 Z1 _ env1 st1 g1 h1
        | false => exact q' Z1 H1 σ env1 _ _ g1.base h1 fun v H2 Z2 d env2 st2 g2 h2 => k v H2 Z2 d env2 (st1'.trans st2) g2 h2
  · exact h1.elim⟩
theorem de_not (ha : DE X a wa) : DE X (.UnaryOp .Not a pos) (wNotV wa) := let ⟨_, p, q⟩ := ha; ⟨_, pe_not p, fun Z H σ env Q P g hw k => by
  refine q Z H σ env _ _ g hw fun v1 H1 Z1 d1 env1 st1 g1 h1 => ?_
  split at h1
  · have r := g1.vals
    cases r with
    | cons r _ => cases r with
      | sh r => cases r; exact ⟨_, rfl, k _ H1 Z1 _ env1 (st1.less fun x m => by simpa [fps, fp] using m) (g1.result (.bl _)) h1⟩
  · exact h1.elim⟩
def wIfE (wt : WT) (wa wb : WE) : WE := fun env Q => wt env fun b env1 => if b = true then wa env1 Q else wb env1 Q
theorem de_if {c : Expr} (hc : DT X c wt) (ha : DE X a wa) (hb : DE X b wb) : DE X (.IfExp c a b pos) (wIfE wt wa wb) := let ⟨_, p, q⟩ := hc; let ⟨_, p1, q1⟩ := ha; let ⟨_, p2, q2⟩ := hb; ⟨_, pe_ifExp p p1 p2, fun Z H σ env Q P g hw k => by
  refine q Z H σ env _ _ g hw fun b H1 Z1 env1 st1 g1 h1 => ?_
  cases b with
  | true => exact q1 Z1 H1 σ env1 _ _ g1 h1 fun v H2 Z2 d env2 st2 g2 h2 => k v H2 Z2 d env2 (st1.trans st2) g2 h2
  | false => exact q2 Z1 H1 σ env1 _ _ g1 h1 fun v H2 Z2 d env2 st2 g2 h2 => k v H2 Z2 d env2 (st1.trans st2) g2 h2⟩
end
/-! ### arguments, displays -/
def wNil : WA := fun env Q => Q [] env
def wCons (wa : WE) (wr : WA) : WA := fun env Q => wa env fun x env1 => wr env1 fun xs env2 => Q (x :: xs) env2
theorem da_nil : DA X [] [] wNil := ⟨_, pa_nil, fun Z H σ env Q P g hw k => k [] H Z [] env (by simpa [fps] using Step.refl) g trivial hw⟩
theorem sim_cons {K : PySem.W.Frag} {ta : TE} {tr : TA} {bk : List (Option Nat)} {wr : WA} (q : SimE K ta wa) (q' : SimA K tr bk wr) : SimA K (tCons ta tr) (none :: bk) (wCons wa wr) := fun Z H σ env Q P g hw k => by
  refine q Z H σ env _ _ g hw fun v1 H1 Z1 d1 env1 st1 g1 h1 => ?_
  refine q' Z1 H1 σ env1 _ _ g1.base h1 fun vs H2 Z2 ds env2 st2 g2 bk2 h2 => ?_
  have g3 := g1.beside st2 g2
  have mem : ∀ x, x ∈ fps (d1 :: ds) ↔ x ∈ fps (ds ++ [d1]) := fun x => by
    simp only [fps, fps_append, List.append_nil, List.mem_append]
    exact Or.comm
  refine k (v1 :: vs) H2 Z2 (d1 :: ds) env2 (st1.trans ((st2.frame (fps [d1])).less fun x m => ?_)) (g3.mk' (.cons ?_ g2.vals) (fun a m => (mem a).mp m) ?_) bk2 h2
  · simp only [fps, List.append_nil, List.mem_append] at m ⊢
    rcases m with (m | m) | m
    · exact .inl m
    · exact .inr (.inl m)
    · exact .inr (.inr m)
  · obtain ⟨v, e, r⟩ := g3.vals.get (i := ds.length) (d := d1) (by simp)
    have l := g2.vals.length
    rw [List.getElem?_append_right (by omega), l, Nat.sub_self] at e
    have e' : v1 = v := by simpa using e
    exact e' ▸ r
  · have n := (List.nodup_append.mp g3.nd).1
    simp only [fps, fps_append, List.append_nil] at n ⊢
    have n' := List.nodup_append.mp n
    exact List.nodup_append.mpr ⟨n'.2.1, n'.1, fun x hx y hy e => n'.2.2 y hy x hx e.symm⟩
theorem da_cons {es : List Expr} {bk : List (Option Nat)} {wr : WA} (ha : DE X e wa) (hr : DA X es bk wr) (hs : starEach (e :: es) X.env = (false, eval e X.env) :: starEach es X.env := by rfl) : DA X (e :: es) (none :: bk) (wCons wa wr) :=
  let ⟨_, p, q⟩ := ha; let ⟨_, p', q'⟩ := hr; ⟨_, pa_cons p p' hs, sim_cons q q'⟩
/-- a list display -/
def wLst (wr : WA) : WE := fun env Q => wr env fun ds env1 => ds.length ≤ sizeLine ∧ ∀ p, Q (.lst p ds) env1
theorem de_lst {es : List Expr} {bk : List (Option Nat)} {wr : WA} (h : DA X es bk wr) : DE X (.List es pos) (wLst wr) := let ⟨_, p, q⟩ := h; ⟨_, pe_lst p, fun Z H σ env Q P g hw k => by
  refine q Z H σ env _ _ g hw fun vs H1 Z1 ds env1 st1 g1 bk h1 => ?_
  refine ⟨by rw [g1.vals.length]; exact h1.1, fun p hp => ?_⟩
  obtain ⟨g2, st2⟩ := g1.newList hp
  exact k _ _ Z1 _ env1 (st1.trans st2) g2 (h1.2 p)⟩
/-- a tuple display: all in it is frozen -/
def wTup (wr : WA) : WE := fun env Q => wr env fun ds env1 => ds.length ≤ sizeLine ∧ Q (.sh (.tup (frzs ds))) env1
theorem de_tup {es : List Expr} {bk : List (Option Nat)} {wr : WA} {x1} (h : DA X es bk wr) : DE X (.Tuple es x1 pos) (wTup wr) := let ⟨_, p, q⟩ := h; ⟨_, pe_tup p, fun Z H σ env Q P g hw k => by
  refine q Z H σ env _ _ g hw fun vs H1 Z1 ds env1 st1 g1 bk h1 => ?_
  refine ⟨by rw [g1.vals.length]; exact h1.1, fun p hp => ?_⟩
  obtain ⟨g2, st2, r⟩ := g1.freeze
  obtain ⟨g3, st3⟩ := g2.newTup r hp
  exact k _ _ _ _ env1 ((st1.trans st2).trans st3) g3 h1.2⟩
/-- .. nothing frozen -/
def wTupO (wr : WA) : WE := fun env Q => wr env fun ds env1 => ds.length ≤ sizeLine ∧ Q (.tup ds) env1
theorem de_tupO {es : List Expr} {bk : List (Option Nat)} {wr : WA} {x1} (h : DA X es bk wr) : DE X (.Tuple es x1 pos) (wTupO wr) := let ⟨_, p, q⟩ := h; ⟨_, pe_tup p, fun Z H σ env Q P g hw k => by
  refine q Z H σ env _ _ g hw fun vs H1 Z1 ds env1 st1 g1 bk h1 => ?_
  refine ⟨by rw [g1.vals.length]; exact h1.1, fun p hp => ?_⟩
  obtain ⟨g3, st3⟩ := g1.newTupO hp
  exact k _ _ _ _ env1 (st1.trans st3) g3 h1.2⟩
/-- a value frozen as it comes -/
def wSh (wa : WE) : WE := fun env Q => wa env fun d env1 => Q (.sh (frz d)) env1
theorem sim_sh {K : PySem.W.Frag} {ta : TE} (q : SimE K ta wa) : SimE K ta (wSh wa) := fun Z H σ env Q P g hw k => by
  refine q Z H σ env _ _ g hw fun v1 H1 Z1 d1 env1 st1 g1 h1 => ?_
  obtain ⟨g2, st2, r⟩ := g1.freeze
  exact k v1 H1 _ (.sh (frz d1)) env1 (st1.trans st2) g2 h1
theorem de_sh (h : DE X e wa) : DE X e (wSh wa) := let ⟨_, p, q⟩ := h; ⟨_, p, sim_sh q⟩
end
end E8
/-! Places within owned trees. -/
namespace E8
open PySem PySem.Spec PyProof.Rows L2

def root : OD → Option Addr
  | .lst a _ => some a
  | .dic a _ _ => some a
  | .ins a _ _ _ _ => some a
  | _ => none
def kids : OD → List OD
  | .lst _ xs => xs
  | .tup xs => xs
  | .dic _ _ xs => xs
  | .ins _ _ _ _ xs => xs
  | .sh _ => []
def withKids (d : OD) (xs : List OD) : OD := match d with
  | .lst a _ => .lst a xs
  | .tup _ => .tup xs
  | .dic a ks _ => .dic a ks xs
  | .ins a dx C ns _ => .ins a dx C ns xs
  | .sh d => .sh d
def lookO : OD → List Nat → Option OD
  | d, [] => some d
  | d, n :: p => match (kids d)[n]? with
    | some c => lookO c p
    | none => none
def upO : OD → List Nat → OD → OD
  | _, [], y => y
  | d, n :: p, y => match (kids d)[n]? with
    | some c => withKids d ((kids d).set n (upO c p y))
    | none => d
structure Loc where
  i : Nat
  p : List Nat
def look (env : Env) (l : Loc) : Option OD := match env[l.i]? with
  | some (some d) => lookO d l.p
  | _ => none
def upL (env : Env) (l : Loc) (y : OD) : Env := match env[l.i]? with
  | some (some d) => env.set l.i (some (upO d l.p y))
  | _ => env

theorem fps_split : ∀ {xs : List OD} {n : Nat} {c : OD}, xs[n]? = some c → ∃ A B, fps xs = A ++ (fp c ++ B) ∧ ∀ y, fps (xs.set n y) = A ++ (fp y ++ B)
  | [], _, _, e => by simp at e
  | x :: r, 0, c, e => by
    have e1 : x = c := by simpa using e
    subst e1
    exact ⟨[], fps r, rfl, fun y => rfl⟩
  | x :: r, n + 1, c, e => by
    obtain ⟨A, B, h1, h2⟩ := fps_split (xs := r) (n := n) (c := c) (by simpa using e)
    exact ⟨fp x ++ A, B, by simp only [fps, h1, List.append_assoc], fun y => by simp only [List.set_cons_succ, fps, h2, List.append_assoc]⟩
/-- the nodes of a tree ahead of its kids' -/
def own1 : OD → List Addr
  | .lst a _ => [a]
  | .dic a _ _ => [a]
  | .ins a dx _ _ _ => [a, dx]
  | _ => []
theorem fp_kids (d : OD) : fp d = own1 d ++ fps (kids d) := by cases d <;> simp [fp, own1, kids, fps]
theorem fp_withKids {d : OD} {n : Nat} {c : OD} (h : (kids d)[n]? = some c) (xs : List OD) : fp (withKids d xs) = own1 d ++ fps xs := by
  cases d <;> simp [fp, own1, kids, fps, withKids] at h ⊢
theorem lookO_split : ∀ {p : List Nat} {d x : OD}, lookO d p = some x → ∃ A B, fp d = A ++ (fp x ++ B) ∧ ∀ y, fp (upO d p y) = A ++ (fp y ++ B)
  | [], d, x, h => by
    have e : d = x := by simpa [lookO] using h
    subst e
    exact ⟨[], [], by simp, fun y => by simp [upO]⟩
  | n :: p, d, x, h => by
    unfold lookO at h
    split at h
    · rename_i c e
      obtain ⟨A, B, h1, h2⟩ := lookO_split (p := p) h
      obtain ⟨A', B', h3, h4⟩ := fps_split e
      refine ⟨own1 d ++ (A' ++ A), B ++ B', ?_, fun y => ?_⟩
      · rw [fp_kids d, h3, h1]; simp only [List.append_assoc]
      · unfold upO
        rw [e]
        dsimp only
        rw [fp_withKids e, h4, h2]
        simp only [List.append_assoc]
    · cases h
theorem look_split {env : Env} {l : Loc} {x : OD} (h : look env l = some x) : ∃ A B, fpE env = A ++ (fp x ++ B) ∧ ∀ y, fpE (upL env l y) = A ++ (fp y ++ B) := by
  unfold look at h
  split at h
  · rename_i d e
    obtain ⟨A, B, h1, h2⟩ := lookO_split h
    obtain ⟨A', B', h3, h4⟩ := fpE_split e
    refine ⟨A' ++ A, B ++ B', ?_, fun y => ?_⟩
    · rw [h3]; simp only [fpo, h1, List.append_assoc]
    · unfold upL
      rw [e]
      dsimp only
      rw [h4]; simp only [fpo, h2, List.append_assoc]
  · cases h
theorem root_fp {d : OD} {a : Addr} (h : root d = some a) : a ∈ fp d := by
  cases d <;> simp [root, fp] at h ⊢ <;> simp [h]
section
variable {K : PySem.W.Frag} {Z Z' H H' : Hp} {σ : L2.St} {env env' : Env} {vs us ws : List V} {ds xs ys : List OD} {v : V} {d x y : OD} {l : Loc}
theorem root_rep {a : Addr} (h : root d = some a) (r : RepO K Z H v d) : v = .ref a := by
  cases r <;> simp [root] at h <;> simp [h]
theorem RepOs.keep1 (e : Same Z Z') {n : Nat} {c c' : OD} : ∀ {xs : List OD} {n : Nat} {vs : List V}, RepOs K Z H vs xs → xs[n]? = some c → (fps xs).Nodup → (∀ a ∈ fps xs, a ∉ fp c → ∀ o, H a = some o → H' a = some o) →
    (∀ v, RepO K Z H v c → RepO K Z' H' v c') → RepOs K Z' H' vs (xs.set n c')
  | _, _, _, .nil, e, _, _, _ => by simp at e
  | x :: r, 0, _, .cons a b, ex, nd, k, h => by
    have e1 : x = c := by simpa using ex
    subst e1
    have n1 := List.nodup_append.mp (show (fp x ++ fps r).Nodup by simpa [fps] using nd)
    exact .cons (h _ a) (b.mono e fun q hq => k q (by simp [fps, hq]) fun z => n1.2.2 q z q hq rfl)
  | x :: r, n + 1, _, .cons a b, ex, nd, k, h => by
    have ex' : r[n]? = some c := by simpa using ex
    have n1 := List.nodup_append.mp (show (fp x ++ fps r).Nodup by simpa [fps] using nd)
    obtain ⟨A, B, h1, _⟩ := fps_split ex'
    have sub : ∀ q ∈ fp c, q ∈ fps r := fun q hq => by rw [h1]; exact List.mem_append_right _ (List.mem_append_left _ hq)
    exact .cons (a.mono e fun q hq => k q (by simp [fps, hq]) fun z => n1.2.2 q hq q (sub q z) rfl) (RepOs.keep1 e (n := n) b ex' n1.2.1 (fun q hq => k q (by simp [fps, hq])) h)
theorem RepO.keepKid (e : Same Z Z') {n : Nat} {c c' : OD} (r : RepO K Z H v d) (hk : (kids d)[n]? = some c) (nd : (fp d).Nodup) (k : ∀ a ∈ fp d, a ∉ fp c → ∀ o, H a = some o → H' a = some o)
    (h : ∀ v, RepO K Z H v c → RepO K Z' H' v c') : RepO K Z' H' v (withKids d ((kids d).set n c')) := by
  have sub : ∀ q ∈ fp c, q ∈ fps (kids d) := fun q hq => by
    obtain ⟨A, B, h1, _⟩ := fps_split hk
    rw [h1]; exact List.mem_append_right _ (List.mem_append_left _ hq)
  rw [fp_kids] at nd k
  have n1 := List.nodup_append.mp nd
  have k1 : ∀ a ∈ own1 d, ∀ o, H a = some o → H' a = some o := fun a m => k a (List.mem_append_left _ m) fun z => n1.2.2 a m a (sub a z) rfl
  have k2 : ∀ a ∈ fps (kids d), a ∉ fp c → ∀ o, H a = some o → H' a = some o := fun a m => k a (List.mem_append_right _ m)
  cases r with
  | sh r => simp [kids] at hk
  | lst ha rs => exact .lst (k1 _ (by simp [own1]) _ ha) (rs.keep1 e (n := n) hk n1.2.1 k2 h)
  | tup ha rs => exact .tup (sqt_mono e ha) (rs.keep1 e (n := n) hk n1.2.1 k2 h)
  | dic ha hl hn rs => exact .dic (k1 _ (by simp [own1]) _ ha) hl hn (rs.keep1 e (n := n) hk n1.2.1 k2 h)
  | ins ha h2 hl rs => exact .ins (k1 _ (by simp [own1]) _ ha) (k1 _ (by simp [own1]) _ h2) hl (rs.keep1 e (n := n) hk n1.2.1 k2 h)
theorem upO_rep (e : Same Z Z') : ∀ {p : List Nat} {d : OD} {v : V}, RepO K Z H v d → lookO d p = some x → (fp d).Nodup → (∀ a ∈ fp d, a ∉ fp x → ∀ o, H a = some o → H' a = some o) →
    (∀ v, RepO K Z H v x → RepO K Z' H' v y) → RepO K Z' H' v (upO d p y)
  | [], d, v, r, h, nd, k, f => by
    have e1 : d = x := by simpa [lookO] using h
    subst e1
    exact f v r
  | n :: p, d, v, r, h, nd, k, f => by
    unfold lookO at h
    split at h
    · rename_i c ec
      unfold upO
      rw [ec]
      obtain ⟨A, B, h1, _⟩ := lookO_split h
      obtain ⟨A', B', h3, _⟩ := fps_split ec
      have nc : (fp c).Nodup := by
        rw [fp_kids, h3] at nd
        exact (List.nodup_append.mp (List.nodup_append.mp (List.nodup_append.mp nd).2.1).2.1).1
      have sx : ∀ q ∈ fp x, q ∈ fp c := fun q hq => by rw [h1]; exact List.mem_append_right _ (List.mem_append_left _ hq)
      have sc : ∀ q ∈ fp c, q ∈ fp d := fun q hq => by rw [fp_kids, h3]; exact List.mem_append_right _ (List.mem_append_right _ (List.mem_append_left _ hq))
      exact r.keepKid e ec nd (fun a m z => k a m fun w => z (sx a w)) fun w rw => upO_rep e rw h nc (fun a m => k a (sc a m)) f
    · cases h
theorem lookO_rep : ∀ {p : List Nat} {d : OD} {v : V}, RepO K Z H v d → lookO d p = some x → ∃ w, RepO K Z H w x
  | [], d, v, r, h => by
    have e1 : d = x := by simpa [lookO] using h
    subst e1
    exact ⟨v, r⟩
  | n :: p, d, v, r, h => by
    unfold lookO at h
    split at h
    · rename_i c ec
      have q : ∃ w, RepO K Z H w c := by
        cases r with
        | sh r => simp [kids] at ec
        | lst _ rs => obtain ⟨w, _, q⟩ := rs.get ec; exact ⟨w, q⟩
        | tup _ rs => obtain ⟨w, _, q⟩ := rs.get ec; exact ⟨w, q⟩
        | dic _ _ _ rs => obtain ⟨w, _, q⟩ := rs.get ec; exact ⟨w, q⟩
        | ins _ _ _ rs => obtain ⟨w, _, q⟩ := rs.get ec; exact ⟨w, q⟩
      obtain ⟨w, q⟩ := q
      exact lookO_rep q h
    · cases h
theorem Good.at (g : Good K Z H σ env vs ds) (h : look env l = some x) : ∃ w, RepO K Z H w x := by
  unfold look at h
  split at h
  · rename_i d e
    obtain ⟨v, _, r⟩ := g.slots.get e
    exact lookO_rep r h
  · cases h
theorem Slots.up (e : Same Z Z') : ∀ {σ : L2.St} {env : Env} {i : Nat} {d d' : OD}, Slots K Z H σ env → env[i]? = some (some d) → (fpE env).Nodup → (∀ a ∈ fpE env, a ∉ fp d → ∀ o, H a = some o → H' a = some o) →
    (∀ v, RepO K Z H v d → RepO K Z' H' v d') → Slots K Z' H' σ (env.set i (some d'))
  | _, _, _, _, _, .nil, e, _, _, _ => by simp at e
  | _, _, 0, _, _, .any _, e, _, _, _ => by simp at e
  | _, none :: r, i + 1, d, d', .any t, ex, nd, k, f => .any (Slots.up e t (by simpa using ex) (by simpa [fpE, fpo] using nd) (fun a m => k a (by simpa [fpE, fpo] using m)) f)
  | _, some x :: r, 0, d, d', .cons q t, ex, nd, k, f => by
    have e1 : x = d := by simpa using ex
    subst e1
    have n1 := List.nodup_append.mp (show (fp x ++ fpE r).Nodup by simpa [fpE, fpo] using nd)
    exact .cons (f _ q) (t.mono e fun a m => k a (by simp [fpE, fpo, m]) fun z => n1.2.2 a z a m rfl)
  | _, some x :: r, i + 1, d, d', .cons q t, ex, nd, k, f => by
    have ex' : r[i]? = some (some d) := by simpa using ex
    have n1 := List.nodup_append.mp (show (fp x ++ fpE r).Nodup by simpa [fpE, fpo] using nd)
    obtain ⟨A, B, h1, _⟩ := fpE_split ex'
    have sub : ∀ a ∈ fp d, a ∈ fpE r := fun a m => by rw [h1]; exact List.mem_append_right _ (List.mem_append_left _ m)
    exact .cons (q.mono e fun a m => k a (by simp [fpE, fpo, m]) fun z => n1.2.2 a m a (sub a z) rfl) (Slots.up e t ex' n1.2.1 (fun a m => k a (by simp [fpE, m])) f)
/-- an owned node changes, taking in what is held -/
theorem Good.mut {a : Addr} {o' : HO} (g : Good K Z H σ env vs ds) (hl : look env l = some x) (hr : root x = some a) (hy : RepO K Z (upd H a o') (.ref a) y) (sub : ∀ b ∈ fp y, b ∈ fp x ∨ b ∈ fps ds) (nd : (fp y).Nodup) :
    Good K Z (upd H a o') σ (upL env l y) [] [] ∧ Step Z H (fps ds ++ fpE env) Z (upd H a o') (fpE (upL env l y)) := by
  obtain ⟨A, B, h1, h2⟩ := look_split hl
  have n0 := List.nodup_append.mp g.nd
  have nE := n0.2.1
  rw [h1] at nE
  have n1 := List.nodup_append.mp nE
  have n2 := List.nodup_append.mp n1.2.1
  have ax : a ∈ fp x := root_fp hr
  have xE : ∀ b ∈ fp x, b ∈ fpE env := fun b m => by rw [h1]; exact List.mem_append_right _ (List.mem_append_left _ m)
  have za : Z a = none := g.free a (List.mem_append_right _ (xE a ax))
  have kp : ∀ b o, H b = some o → b ≠ a → upd H a o' b = some o := fun b o e n => by rw [upd_ne n]; exact e
  have memE : ∀ b ∈ fpE (upL env l y), b ∈ fps ds ++ fpE env := fun b m => by
    rw [h2] at m
    rcases List.mem_append.mp m with q | q
    · exact List.mem_append_right _ (by rw [h1]; exact List.mem_append_left _ q)
    · rcases List.mem_append.mp q with q | q
      · exact (sub b q).elim (fun z => List.mem_append_right _ (xE b z)) fun z => List.mem_append_left _ z
      · exact List.mem_append_right _ (by rw [h1]; exact List.mem_append_right _ (List.mem_append_right _ q))
  refine ⟨⟨fun b o e => kp b o (g.same b o e) (fun z => by rw [z, za] at e; cases e), ?_, .nil, ?_, fun b m => g.free b (memE b (by simpa [fps] using m))⟩, ⟨fun b o e n => kp b o e fun z => n (by rw [z]; exact List.mem_append_right _ (xE a ax)), fun b o e => ?_, Same.refl _, fun b o e => .inl ⟨o, e⟩, fun b m => .inr (memE b m)⟩⟩
  · unfold look at hl
    split at hl
    · rename_i d ed
      unfold upL
      rw [ed]
      dsimp only
      obtain ⟨A1, B1, q1, q2⟩ := fpE_split ed
      have q1' : fpE env = A1 ++ (fp d ++ B1) := q1
      have nd' : (fpE env).Nodup := n0.2.1
      have ndd : (fp d).Nodup := by
        rw [q1'] at nd'
        exact (List.nodup_append.mp (List.nodup_append.mp nd').2.1).1
      obtain ⟨A2, B2, q3, _⟩ := lookO_split hl
      have xd : ∀ b ∈ fp x, b ∈ fp d := fun b m => by rw [q3]; exact List.mem_append_right _ (List.mem_append_left _ m)
      refine g.slots.up (Same.refl Z) ed n0.2.1 (fun b m nb o e => kp b o e fun z => nb (xd b (z ▸ ax))) fun w rw => ?_
      refine upO_rep (Same.refl Z) rw hl ndd (fun b m nb o e => kp b o e fun z => nb (z ▸ ax)) fun w' r' => ?_
      rw [root_rep hr r']
      exact hy
    · cases hl
  · rw [h2]
    simp only [fps, List.nil_append]
    have dsE : ∀ b ∈ fps ds, b ∉ fpE env := fun b m z => n0.2.2 b m b z rfl
    refine List.nodup_append.mpr ⟨n1.1, List.nodup_append.mpr ⟨nd, n2.2.1, fun b hb c hc e => ?_⟩, fun b hb c hc e => ?_⟩
    · subst e
      rcases sub b hb with q | q
      · exact n2.2.2 b q b hc rfl
      · exact dsE b q (by rw [h1]; exact List.mem_append_right _ (List.mem_append_right _ hc))
    · subst e
      rcases List.mem_append.mp hc with q | q
      · rcases sub b q with q | q
        · exact n1.2.2 b hb b (List.mem_append_left _ q) rfl
        · exact dsE b q (by rw [h1]; exact List.mem_append_left _ hb)
      · exact n1.2.2 b hb b (List.mem_append_right _ q) rfl
  · by_cases h : b = a
    · exact ⟨o', by rw [h]; exact upd_same⟩
    · exact ⟨o, kp b o e h⟩
theorem RepOs.at {ds : List OD} {vs : List V} (r : RepOs K Z H vs ds) {i : Int} {d : OD} (h : atI ds i = some d) : ∃ v, atI vs i = some v ∧ RepO K Z H v d := by
  unfold atI at h ⊢
  rw [r.length]
  cases e : ixN ds.length i with
  | none => rw [e] at h; cases h
  | some j =>
    rw [e] at h
    obtain ⟨v, h1, h2⟩ := r.get (show ds[j]? = some d from h)
    exact ⟨v, h1, h2⟩
theorem RepSs.at {ds : List SD} {vs : List V} (r : RepSs K Z vs ds) {i : Int} {d : SD} (h : atI ds i = some d) : ∃ v, atI vs i = some v ∧ RepS K Z v d := by
  unfold atI at h ⊢
  rw [r.length]
  cases e : ixN ds.length i with
  | none => rw [e] at h; cases h
  | some j =>
    rw [e] at h
    obtain ⟨v, h1, h2⟩ := r.get (show ds[j]? = some d from h)
    exact ⟨v, h1, h2⟩
theorem atI_mem {α : Type} {xs : List α} {i : Int} {x : α} (h : atI xs i = some x) : ∃ j, ixN xs.length i = some j ∧ xs[j]? = some x := by
  unfold atI at h
  cases e : ixN xs.length i with
  | none => rw [e] at h; cases h
  | some j => rw [e] at h; exact ⟨j, rfl, h⟩
end

/-! ### reading by an index -/
def onSm {α : Type} (o : Option α) (k : α → Prop) : Prop := ∃ d, o = some d ∧ k d
theorem onSm_ex {α : Type} {o : Option α} {k : α → Prop} (h : onSm o k) : ∃ d, o = some d ∧ k d := h
def onSh (o : Option OD) (k : SD → Prop) : Prop := ∃ d, o = some (.sh d) ∧ k d
theorem onSh_ex {o : Option OD} {k : SD → Prop} (h : onSh o k) : ∃ d, o = some (.sh d) ∧ k d := h
def onS (o : Option SD) (k : OD → Prop) : Prop := ∃ d, o = some d ∧ k (.sh d)
def onO (o : Option OD) (k : OD → Prop) : Prop := ∃ d, o = some d ∧ k d
def onC (o : Option Nat) (k : OD → Prop) : Prop := ∃ c, o = some c ∧ k (.sh (.str ⟨#[c]⟩))
def wIx (x y : OD) (k : OD → Prop) : Prop := match x, y with
  | .sh (.lst xs), .sh (.int i) => onS (atI xs i) k
  | .sh (.scr xs), .sh (.int i) => onS (atI xs i) k
  | .sh (.tup xs), .sh (.int i) => onS (atI xs i) k
  | .sh (.str z), .sh (.int i) => z.length ≤ sizeLine ∧ onC (atI z.cps.toList i) k
  | .lst _ xs, .sh (.int i) => onO (atI xs i) k
  | .tup xs, .sh (.int i) => onO (atI xs i) k
  | _, _ => False
section
variable {K : PySem.W.Frag}
theorem fps_kid {xs : List OD} {j : Nat} {d : OD} (h : xs[j]? = some d) : ∀ a ∈ fp d, a ∈ fps xs := fun a m => by
  obtain ⟨A, B, e, _⟩ := fps_split h
  rw [e]; exact List.mem_append_right _ (List.mem_append_left _ m)
theorem fps_kidN {xs : List OD} {j : Nat} {d : OD} (h : xs[j]? = some d) (n : (fps xs).Nodup) : (fp d).Nodup := by
  obtain ⟨A, B, e, _⟩ := fps_split h
  rw [e] at n
  exact (List.nodup_append.mp (List.nodup_append.mp n).2.1).1
theorem ok_ix : OpOk K (rIx K) wIx := fun Z H σ env vx vy dx dy k P g hw c => by
  have rs := g.vals
  cases rs with
  | cons rx rs =>
    cases rs with
    | cons ry _ =>
      unfold wIx at hw
      split at hw
      · obtain ⟨d, e, hw⟩ := hw
        cases rx with
        | sh rx => cases rx with
          | lst h r => cases ry with
            | sh ry =>
              cases ry
              obtain ⟨v, h1, h2⟩ := r.at e
              exact .inl ⟨_, _, _, v, rfl, rfl, .inl (.inl (g.same _ _ h)), h1, c v H Z _ Step.result (g.result h2) hw⟩
      · obtain ⟨d, e, hw⟩ := hw
        cases rx with
        | sh rx => cases rx with
          | scr h r => cases ry with
            | sh ry =>
              cases ry
              obtain ⟨v, h1, h2⟩ := r.at e
              exact .inl ⟨_, _, _, v, rfl, rfl, g.same.seq h, h1, c v H Z _ Step.result (g.result h2) hw⟩
      · obtain ⟨d, e, hw⟩ := hw
        cases rx with
        | sh rx => cases rx with
          | tup h r => cases ry with
            | sh ry =>
              cases ry
              obtain ⟨v, h1, h2⟩ := r.at e
              exact .inr (.inl ⟨_, _, _, v, rfl, rfl, sqt_mono g.same h, h1, c v H Z _ Step.result (g.result h2) hw⟩)
      · obtain ⟨hz, d, e, hw⟩ := hw
        cases rx with
        | sh rx => cases rx with
          | str z => cases ry with
            | sh ry =>
              cases ry
              exact .inr (.inr ⟨_, _, d, rfl, rfl, hz, e, c _ H Z _ Step.result (g.result (.str _)) hw⟩)
      · rename_i ad xs' ii
        obtain ⟨d, e, hw⟩ := hw
        cases rx with
        | lst h r => cases ry with
          | sh ry =>
            cases ry
            obtain ⟨v, h1, h2⟩ := r.at e
            obtain ⟨j, _, hj⟩ := atI_mem e
            have sub : ∀ a ∈ fps [d], a ∈ fps [OD.lst ad xs', OD.sh (.int ii)] := fun a m => by
              simp only [fps, fp, List.append_nil, List.mem_cons] at m ⊢
              exact .inr (fps_kid hj a m)
            refine .inl ⟨_, _, _, v, rfl, rfl, .inl (.inl h), h1, c v H Z _ (Step.mk' sub) (g.mk' (.cons h2 .nil) sub ?_) hw⟩
            have n := (List.nodup_append.mp g.nd).1
            simp only [fps, fp, List.append_nil] at n ⊢
            exact fps_kidN hj (List.nodup_cons.mp n).2
      · rename_i xs' ii
        obtain ⟨d, e, hw⟩ := hw
        cases rx with
        | tup h r => cases ry with
          | sh ry =>
            cases ry
            obtain ⟨v, h1, h2⟩ := r.at e
            obtain ⟨j, _, hj⟩ := atI_mem e
            have sub : ∀ a ∈ fps [d], a ∈ fps [OD.tup xs', OD.sh (.int ii)] := fun a m => by
              simp only [fps, fp, List.append_nil] at m ⊢
              exact fps_kid hj a m
            refine .inr (.inl ⟨_, _, _, v, rfl, rfl, sqt_mono g.same h, h1, c v H Z _ (Step.mk' sub) (g.mk' (.cons h2 .nil) sub ?_) hw⟩)
            have n := (List.nodup_append.mp g.nd).1
            simp only [fps, fp, List.append_nil] at n ⊢
            exact fps_kidN hj n
      · exact hw.elim
end
section
variable {X : Cx} {e a b : Expr} {wa wb we : WE} {pos : Pos}
theorem de_ix (ha : DE X a wa) (hb : DE X b wb) (hs : PlainIx b := by exact fun _ _ => rfl) : DE X (.Subscript a b pos) (wOp wIx wa wb) :=
  let ⟨_, a1, a2⟩ := ha; let ⟨_, b1, b2⟩ := hb; ⟨_, pe_ix ix_seq a1 b1 hs, sim_op ok_ix a2 b2⟩
/-! ### places -/
abbrev WB := Env → (Loc → Env → Prop) → Prop
def SimB (K : PySem.W.Frag) (te : TE) (wb : WB) : Prop := ∀ (Z H : Hp) (σ : L2.St) (env : Env) (Q : Loc → Env → Prop) (P : VK), Good K Z H σ env [] [] → wb env Q →
  (∀ a H' Z' l env' x, Step Z H (fpE env) Z' H' (fpE env') → Good K Z' H' σ env' [] [] → look env' l = some x → root x = some a → Q l env' → P (.ref a) H') → te σ H P
def DB (X : Cx) (e : Expr) (wb : WB) : Prop := ∃ te, PE X e te ∧ SimB X.K te wb
/-- at the place something owned stands -/
def atL (env : Env) (l : Loc) (k : OD → Prop) : Prop := ∃ x, look env l = some x ∧ k x
def isRoot (x : OD) : Bool := (root x).isSome
def wbV (i : Nat) : WB := fun env Q => atL env ⟨i, []⟩ fun x => isRoot x = true ∧ Q ⟨i, []⟩ env
theorem sim_bv {K : PySem.W.Frag} (i : Nat) : SimB K (tVar i) (wbV i) := fun Z H σ env Q P g hw k => by
  obtain ⟨x, e, hw⟩ := hw
  · skip
    obtain ⟨h1, h2⟩ := hw
    cases r : root x with
    | none => rw [isRoot, r] at h1; cases h1
    | some a =>
      have e' := e
      unfold look at e'
      split at e'
      · rename_i d ed
        have dx : d = x := by simpa [lookO] using e'
        subst dx
        obtain ⟨v, hv, rv⟩ := g.slots.get ed
        have q := root_rep r rv
        subst q
        exact ⟨_, hv, k a H Z _ env d Step.refl g e r h2⟩
      · cases e'
theorem db_v (i : Nat) {x : Str} (hN : X.N[i]? = some x := by rfl) (hv : Vis X.env.scope x := by first | exact Or.inl rfl | exact Or.inr (Or.inl rfl) | exact Or.inr (Or.inr rfl)) (hd : (x == ("__debug__" : Str)) = false := by decide)
    (hcd : (x == ("__classdict__" : Str)) = false := by decide) : DB X (.Name x pos) (wbV i) := ⟨_, pe_var hN hv hd hcd, sim_bv i⟩
/-- the node at the place is still that of the address -/
def sameAt (env : Env) (l : Loc) (x : OD) (k : OD → Prop) : Prop := atL env l fun y => root y = root x ∧ k y
/-- b[e], a whole number as index, an item that is no more owned -/
def wRd (wb : WB) (we : WE) : WE := fun env Q => wb env fun l env1 => atL env1 l fun x => we env1 fun i env2 => sameAt env2 l x fun y => match y, i with
  | .lst _ xs, .sh (.int i) => onSh (atI xs i) fun d => Q (.sh d) env2
  | _, _ => False
theorem atL_of {env : Env} {l : Loc} {x : OD} {k : OD → Prop} (e : look env l = some x) (h : atL env l k) : k x := by
  obtain ⟨y, e', h⟩ := h
  rw [e] at e'
  cases e'
  exact h
theorem de_rd (ha : DB X a wb') (hb : DE X b wb) (hs : PlainIx b := by exact fun _ _ => rfl) : DE X (.Subscript a b pos) (wRd wb' wb) := let ⟨_, a1, a2⟩ := ha; let ⟨_, b1, b2⟩ := hb; ⟨_, pe_ix ix_seq a1 b1 hs, fun Z H σ env Q P g hw k => by
  refine a2 Z H σ env _ _ g hw fun ad H1 Z1 l env1 x st1 g1 hl hr h1 => ?_
  refine b2 Z1 H1 σ env1 _ _ g1 (atL_of hl h1) fun v2 H2 Z2 d2 env2 st2 g2 h2 => ?_
  obtain ⟨y, ey, h2⟩ := h2
  · skip
    obtain ⟨er, h2⟩ := h2
    split at h2
    · rename_i ad' xs i
      obtain ⟨d, ed, h2⟩ := onSh_ex h2
      have ead : ad' = ad := by
        have := er.trans hr
        simpa [root] using this
      subst ead
      obtain ⟨w, rw⟩ := g2.at ey
      cases rw with
      | lst hh rs =>
        obtain ⟨v, e1, e2⟩ := rs.at ed
        cases e2 with
        | sh e2 =>
          have rv := g2.vals
          cases rv with
          | cons rv _ => cases rv with
            | sh rv =>
              cases rv
              refine .inl ⟨_, _, _, v, rfl, rfl, .inl (.inl hh), e1, k v H2 Z2 _ env2 (st1.trans (st2.less fun q m => ?_)) (g2.result e2) h2⟩
              simp only [fps, fp, List.append_nil, List.nil_append] at m ⊢
              exact m
    · exact h2.elim⟩
/-- b[e], an item that is owned -/
def wbIx (wb : WB) (we : WE) : WB := fun env Q => wb env fun l env1 => atL env1 l fun x => we env1 fun i env2 => sameAt env2 l x fun y => match y, i with
  | .lst _ xs, .sh (.int i) => onSm (ixN xs.length i) fun j => atL env2 ⟨l.i, l.p ++ [j]⟩ fun d => isRoot d = true ∧ Q ⟨l.i, l.p ++ [j]⟩ env2
  | _, _ => False
theorem lookO_snoc : ∀ {p : List Nat} {d : OD} {j : Nat}, lookO d (p ++ [j]) = (lookO d p).bind fun x => (kids x)[j]?
  | [], d, j => by
    simp only [List.nil_append, lookO, Option.bind_some]
    cases (kids d)[j]? <;> rfl
  | n :: p, d, j => by
    simp only [List.cons_append, lookO]
    cases (kids d)[n]? with
    | none => rfl
    | some c => exact lookO_snoc
theorem look_snoc {env : Env} {l : Loc} {j : Nat} : look env ⟨l.i, l.p ++ [j]⟩ = (look env l).bind fun x => (kids x)[j]? := by
  unfold look
  dsimp only
  split
  · rename_i d e; rw [lookO_snoc]
  · rfl
theorem db_ix (ha : DB X a wb') (hb : DE X b wb) (hs : PlainIx b := by exact fun _ _ => rfl) : DB X (.Subscript a b pos) (wbIx wb' wb) := let ⟨_, a1, a2⟩ := ha; let ⟨_, b1, b2⟩ := hb; ⟨_, pe_ix ix_seq a1 b1 hs, fun Z H σ env Q P g hw k => by
  refine a2 Z H σ env _ _ g hw fun ad H1 Z1 l env1 x st1 g1 hl hr h1 => ?_
  refine b2 Z1 H1 σ env1 _ _ g1 (atL_of hl h1) fun v2 H2 Z2 d2 env2 st2 g2 h2 => ?_
  obtain ⟨y, ey, h2⟩ := h2
  · skip
    obtain ⟨er, h2⟩ := h2
    split at h2
    · rename_i ad' xs i
      obtain ⟨j, ej, h2⟩ := onSm_ex h2
      obtain ⟨d, ed, h2⟩ := h2
      · · have ead : ad' = ad := by
            have := er.trans hr
            simpa [root] using this
          subst ead
          obtain ⟨w, rw⟩ := g2.at ey
          cases rw with
          | lst hh rs =>
            have exj : xs[j]? = some d := by
              rw [look_snoc, ey] at ed
              exact ed
            obtain ⟨v, e1, e2⟩ := rs.get exj
            cases rd : root d with
            | none => rw [isRoot, rd] at h2; cases h2.1
            | some a' =>
              have rv := g2.vals
              cases rv with
              | cons rv _ => cases rv with
                | sh rv =>
                  cases rv
                  have ev := root_rep rd e2
                  subst ev
                  refine .inl ⟨_, _, _, _, rfl, rfl, .inl (.inl hh), ?_, k a' H2 Z2 _ env2 d (st1.trans (st2.less fun q m => ?_)) g2.base ed rd h2.2⟩
                  · unfold atI
                    rw [rs.length, ej]
                    exact e1
                  · simp only [fps, fp, List.append_nil, List.nil_append] at m ⊢
                    exact m
    · exact h2.elim⟩
end
end E8
/-! Calls, statements, loops, defs. -/
namespace E8
open PySem PySem.Spec PyProof.Rows L2

/-! ### what is lent stays as it is, what is not is frozen -/
def prep : List Bool → List OD → List OD
  | _, [] => []
  | [], d :: ds => .sh (frz d) :: prep [] ds
  | m :: ms, d :: ds => (match m with
    | true => d
    | false => .sh (frz d)) :: prep ms ds
def prepF : List Bool → List OD → List Addr
  | _, [] => []
  | [], d :: ds => fp d ++ prepF [] ds
  | true :: ms, d :: ds => prepF ms ds
  | false :: ms, d :: ds => fp d ++ prepF ms ds
theorem prep_sub : ∀ (ms : List Bool) (ds : List OD), (fps (prep ms ds)).Sublist (fps ds)
  | _, [] => by cases ‹List Bool› <;> exact List.Sublist.refl _
  | [], d :: ds => by
    simp only [prep, fps, fp, List.nil_append]
    exact (prep_sub [] ds).trans (List.sublist_append_right _ _)
  | true :: ms, d :: ds => by
    simp only [prep, fps]
    exact (List.Sublist.refl _).append (prep_sub ms ds)
  | false :: ms, d :: ds => by
    simp only [prep, fps, fp, List.nil_append]
    exact (prep_sub ms ds).trans (List.sublist_append_right _ _)
theorem prepF_sub : ∀ (ms : List Bool) (ds : List OD), ∀ a ∈ prepF ms ds, a ∈ fps ds
  | _, [], a, m => by cases ‹List Bool› <;> simp [prepF] at m
  | [], d :: ds, a, m => by
    simp only [prepF, fps, List.mem_append] at m ⊢
    exact m.imp id (prepF_sub [] ds a)
  | true :: ms, d :: ds, a, m => by
    simp only [prepF, fps, List.mem_append] at m ⊢
    exact .inr (prepF_sub ms ds a m)
  | false :: ms, d :: ds, a, m => by
    simp only [prepF, fps, List.mem_append] at m ⊢
    exact m.imp id (prepF_sub ms ds a)
theorem prepF_out : ∀ (ms : List Bool) (ds : List OD), (fps ds).Nodup → ∀ a ∈ fps (prep ms ds), a ∉ prepF ms ds
  | _, [], _, a, m => by cases ‹List Bool› <;> simp [prep, fps] at m
  | [], d :: ds, n, a, m => by
    have n1 := List.nodup_append.mp (show (fp d ++ fps ds).Nodup from n)
    simp only [prep, fps, fp, List.nil_append] at m
    simp only [prepF, List.mem_append, not_or]
    exact ⟨fun z => n1.2.2 a z a ((prep_sub [] ds).subset m) rfl, prepF_out [] ds n1.2.1 a m⟩
  | true :: ms, d :: ds, n, a, m => by
    have n1 := List.nodup_append.mp (show (fp d ++ fps ds).Nodup from n)
    simp only [prep, fps, List.mem_append] at m
    simp only [prepF]
    rcases m with m | m
    · exact fun z => n1.2.2 a m a (prepF_sub ms ds a z) rfl
    · exact prepF_out ms ds n1.2.1 a m
  | false :: ms, d :: ds, n, a, m => by
    have n1 := List.nodup_append.mp (show (fp d ++ fps ds).Nodup from n)
    simp only [prep, fps, fp, List.nil_append] at m
    simp only [prepF, List.mem_append, not_or]
    exact ⟨fun z => n1.2.2 a z a ((prep_sub ms ds).subset m) rfl, prepF_out ms ds n1.2.1 a m⟩
section
variable {K : PySem.W.Frag} {Z Z' H H' : Hp} {σ σ' : L2.St} {env env' : Env} {vs us ws : List V} {ds xs ys : List OD} {v : V} {d x y : OD}
theorem RepOs.prep (e : Same Z Z') : ∀ (ms : List Bool) {ds : List OD} {vs : List V}, (∀ a ∈ prepF ms ds, ∀ o, H a = some o → Z' a = some o) → RepOs K Z H vs ds → RepOs K Z' H vs (prep ms ds)
  | ms, _, _, _, .nil => by cases ms <;> exact .nil
  | [], d :: ds, _, k, .cons a b => .cons (.sh (a.frz e fun x hx => k x (by simp [prepF, hx]))) (RepOs.prep e [] (fun x hx => k x (by simp [prepF, hx])) b)
  | true :: ms, d :: ds, _, k, .cons a b => .cons (a.mono e fun _ _ _ q => q) (RepOs.prep e ms (fun x hx => k x (by simp [prepF, hx])) b)
  | false :: ms, d :: ds, _, k, .cons a b => .cons (.sh (a.frz e fun x hx => k x (by simp [prepF, hx]))) (RepOs.prep e ms (fun x hx => k x (by simp [prepF, hx])) b)
theorem Good.prep (g : Good K Z H σ env vs ds) (ms : List Bool) : ∃ Z', Good K Z' H σ env vs (prep ms ds) ∧ Step Z H (fps ds ++ fpE env) Z' H (fps (prep ms ds) ++ fpE env) := by
  have n := List.nodup_append.mp g.nd
  obtain ⟨s1, s2⟩ := zOf_same (F := prepF ms ds) g.same fun a m => g.free a (List.mem_append_left _ (prepF_sub ms ds a m))
  have r : RepOs K (zOf Z H (prepF ms ds)) H vs (E8.prep ms ds) := g.vals.prep s1 ms fun a m o e => by rw [zOf_in m]; exact e
  have sub : ∀ a ∈ fps (E8.prep ms ds), a ∈ fps ds := fun a m => (prep_sub ms ds).subset m
  refine ⟨_, ⟨s2, g.slots.mono s1 fun _ _ _ e => e, r, ?_, fun a m => ?_⟩, ⟨fun _ _ e _ => e, fun _ o e => ⟨o, e⟩, s1, fun a o e => ?_, fun a m => ?_⟩⟩
  · exact List.nodup_append.mpr ⟨n.1.sublist (prep_sub ms ds), n.2.1, fun x hx y hy => n.2.2 x (sub x hx) y hy⟩
  · rcases List.mem_append.mp m with q | q
    · rw [zOf_out (prepF_out ms ds n.1 a q)]
      exact g.free a (List.mem_append_left _ (sub a q))
    · rw [zOf_out fun z => n.2.2 a (prepF_sub ms ds a z) a q rfl]
      exact g.free a (List.mem_append_right _ q)
  · by_cases m : a ∈ prepF ms ds
    · exact .inr (.inr (List.mem_append_left _ (prepF_sub ms ds a m)))
    · rw [zOf_out m] at e; exact .inl ⟨o, e⟩
  · rcases List.mem_append.mp m with q | q
    · exact .inr (List.mem_append_left _ (sub a q))
    · exact .inr (List.mem_append_right _ q)
/-- a step of what is held alone, the slots around it -/
theorem Good.around (g : Good K Z H σ env vs ds) (a : Step Z H (fps ds) Z' H' (fps xs)) (g' : Good K Z' H' [] [] us xs) : Good K Z' H' σ env us xs ∧ Step Z H (fps ds ++ fpE env) Z' H' (fps xs ++ fpE env) := by
  have n := List.nodup_append.mp g.nd
  have dj : ∀ x ∈ fpE env, x ∉ fps xs := fun x h1 h2 => by
    rcases a.fnew x h2 with q | q
    · obtain ⟨o, e⟩ := g.slots.there x h1
      rw [e] at q; cases q
    · exact n.2.2 x q x h1 rfl
  have n' : (fps xs).Nodup := by simpa [fpE] using g'.nd
  refine ⟨⟨g'.same, g.slots.mono a.ext fun x hx o e => a.keep x o e fun z => n.2.2 x z x hx rfl, g'.vals, List.nodup_append.mpr ⟨n', n.2.1, fun x hx y hy e => dj y hy (e ▸ hx)⟩, fun x hx => ?_⟩, ?_⟩
  · rcases List.mem_append.mp hx with q | q
    · exact g'.free x (List.mem_append_left _ q)
    · cases r : Z' x with
      | none => rfl
      | some u =>
        rcases a.znew x u r with ⟨w, z⟩ | z | z
        · rw [g.free x (List.mem_append_right _ q)] at z; cases z
        · obtain ⟨o, e⟩ := g.slots.there x q
          rw [e] at z; cases z
        · exact absurd rfl (n.2.2 x z x q)
  · refine ⟨fun x o e m => a.keep x o e fun z => m (List.mem_append_left _ z), a.grow, a.ext, fun x o e => (a.znew x o e).imp id fun q => q.imp id (List.mem_append_left _), fun x m => ?_⟩
    rcases List.mem_append.mp m with q | q
    · exact (a.fnew x q).imp id (List.mem_append_left _)
    · exact .inr (List.mem_append_right _ q)
theorem Good.alone (g : Good K Z H σ env vs ds) : Good K Z H [] [] vs ds :=
  ⟨g.same, .nil, g.vals, by simpa [fpE] using (List.nodup_append.mp g.nd).1, fun a m => g.free a (List.mem_append_left _ (by simpa [fpE] using m))⟩
end

/-! ### calls -/
abbrev Spec := List OD → (OD → List OD → Prop) → Prop
def spOf (K : PySem.W.Frag) (n : Nat) (φ : Spec) : Sp := fun vs H Q _ => vs.length = n ∧ ∃ Z ds k, Good K Z H [] [] vs ds ∧ φ ds k ∧
  ∀ d outs, k d outs → ∀ v Z' H', Step Z H (fps ds) Z' H' (fps (d :: outs)) → Good K Z' H' [] [] (v :: vs) (d :: outs) → Q v H'
def putBack : List (Option Nat) → List OD → Env → Env
  | some i :: b, o :: os, env => putBack b os (env.set i (some o))
  | none :: b, _ :: os, env => putBack b os env
  | _, _, env => env
def Backs' (σ : L2.St) : List (Option Nat) → List V → Prop
  | none :: b, _ :: vs => Backs' σ b vs
  | some i :: b, v :: vs => σ[i]? = some (some v) ∧ Backs' σ b vs
  | _, _ => True
theorem Backs.more {σ : L2.St} (ws : List V) : ∀ {b : List (Option Nat)} {vs : List V}, Backs σ b vs → Backs' σ b (vs ++ ws)
  | [], [], _ => trivial
  | none :: b, v :: vs, h => Backs.more ws (b := b) h
  | some i :: b, v :: vs, h => ⟨h.1, Backs.more ws (b := b) h.2⟩
  | [], _ :: _, h => trivial
  | none :: _, [], h => h.elim
  | some _ :: _, [], h => h.elim
theorem Backs.length {σ : L2.St} : ∀ {b : List (Option Nat)} {vs : List V}, Backs σ b vs → vs.length = b.length
  | [], [], _ => rfl
  | none :: b, v :: vs, h => congrArg (· + 1) (Backs.length (b := b) h)
  | some i :: b, v :: vs, h => congrArg (· + 1) (Backs.length (b := b) h.2)
  | [], _ :: _, h => h.elim
  | none :: _, [], h => h.elim
  | some _ :: _, [], h => h.elim
section
variable {K : PySem.W.Frag} {Z Z' H H' : Hp} {σ σ' : L2.St} {env env' : Env} {vs us ws : List V} {ds xs ys os : List OD} {v : V} {d x y : OD}
theorem fpE_set_sub {i : Nat} : ∀ a ∈ fpE (env.set i (some d)), a ∈ fp d ∨ a ∈ fpE env := fun a m => by
  cases h : env[i]? with
  | none => rw [List.set_eq_of_length_le (by simpa using h)] at m; exact .inr m
  | some o =>
    obtain ⟨A, B, h1, h2⟩ := fpE_split h
    rw [h2] at m
    rw [h1]
    simp only [fpo, List.mem_append] at m ⊢
    rcases m with m | m | m
    · exact .inr (.inl m)
    · exact .inl m
    · exact .inr (.inr (.inr m))
theorem fpE_set_nd {i : Nat} (n : (fp d ++ fpE env).Nodup) : (fpE (env.set i (some d))).Nodup := by
  have n1 := List.nodup_append.mp n
  cases h : env[i]? with
  | none => rw [List.set_eq_of_length_le (by simpa using h)]; exact n1.2.1
  | some o =>
    obtain ⟨A, B, h1, h2⟩ := fpE_split h
    rw [h2]
    rw [h1] at n1
    have n2 := List.nodup_append.mp n1.2.1
    have n3 := List.nodup_append.mp n2.2.1
    refine List.nodup_append.mpr ⟨n2.1, List.nodup_append.mpr ⟨n1.1, n3.2.1, fun x hx y hy => n1.2.2 x hx y (List.mem_append_right _ (List.mem_append_right _ hy))⟩, fun x hx y hy e => ?_⟩
    rcases List.mem_append.mp hy with q | q
    · exact n1.2.2 y q x (List.mem_append_left _ hx) e.symm
    · exact n2.2.2 x hx y (List.mem_append_right _ q) e
/-- a held value goes to a slot in which it stands already -/
theorem Good.back {i : Nat} (g : Good K Z H σ env (v :: vs) (d :: ds)) (hv : σ[i]? = some (some v)) : Good K Z H σ (env.set i (some d)) vs ds ∧ Step Z H (fps (d :: ds) ++ fpE env) Z H (fps ds ++ fpE (env.set i (some d))) := by
  have rs := g.vals
  cases rs with
  | cons r rs =>
    have n : (fp d ++ (fps ds ++ fpE env)).Nodup := by
      have := g.nd
      simp only [fps, List.append_assoc] at this
      exact this
    have n1 := List.nodup_append.mp n
    have n2 := List.nodup_append.mp n1.2.1
    have sub : ∀ a ∈ fps ds ++ fpE (env.set i (some d)), a ∈ fps (d :: ds) ++ fpE env := fun a m => by
      simp only [fps, List.mem_append] at m ⊢
      rcases m with m | m
      · exact .inl (.inr m)
      · exact (fpE_set_sub a m).elim (fun z => .inl (.inl z)) .inr
    refine ⟨⟨g.same, g.slots.reread r i hv, rs, List.nodup_append.mpr ⟨n2.1, fpE_set_nd (List.nodup_append.mpr ⟨n1.1, n2.2.1, fun x hx y hy => n1.2.2 x hx y (List.mem_append_right _ hy)⟩), fun x hx y hy e => ?_⟩, fun a m => g.free a (sub a m)⟩, Step.refl.less sub⟩
    rcases fpE_set_sub y hy with q | q
    · exact n1.2.2 y q x (List.mem_append_left _ hx) e.symm
    · exact n2.2.2 x hx y q e
theorem Good.swap (g : Good K Z H σ env (v :: u :: vs) (d :: x :: ds)) : Good K Z H σ env (u :: v :: vs) (x :: d :: ds) := by
  have rs := g.vals
  cases rs with
  | cons r rs =>
    cases rs with
    | cons r' rs =>
      refine g.mk' (.cons r' (.cons r rs)) (fun a m => ?_) ?_
      · simp only [fps, List.mem_append] at m ⊢
        rcases m with m | m | m
        · exact .inr (.inl m)
        · exact .inl m
        · exact .inr (.inr m)
      · have n := (List.nodup_append.mp g.nd).1
        simp only [fps] at n ⊢
        have n1 := List.nodup_append.mp n
        have n2 := List.nodup_append.mp n1.2.1
        exact List.nodup_append.mpr ⟨n2.1, List.nodup_append.mpr ⟨n1.1, n2.2.1, fun a ha b hb => n1.2.2 a ha b (List.mem_append_right _ hb)⟩, fun a ha b hb e => (List.mem_append.mp hb).elim (fun q => n1.2.2 b q a (List.mem_append_left _ ha) e.symm) fun q => n2.2.2 a ha b q e⟩
theorem Good.drop2 (g : Good K Z H σ env (v :: u :: vs) (d :: x :: ds)) : Good K Z H σ env (v :: vs) (d :: ds) := by
  have rs := g.vals
  cases rs with
  | cons r rs =>
    cases rs with
    | cons r' rs =>
      refine g.mk' (.cons r rs) (fun a m => ?_) ?_
      · simp only [fps, List.mem_append] at m ⊢
        exact m.imp id .inr
      · have n := (List.nodup_append.mp g.nd).1
        simp only [fps] at n ⊢
        have n1 := List.nodup_append.mp n
        have n2 := List.nodup_append.mp n1.2.1
        exact List.nodup_append.mpr ⟨n1.1, n2.2.1, fun a ha b hb => n1.2.2 a ha b (List.mem_append_right _ hb)⟩
theorem Good.one (g : Good K Z H σ env (v :: vs) (d :: ds)) : Good K Z H σ env [v] [d] := by
  have rs := g.vals
  cases rs with
  | cons r rs =>
    refine g.mk' (.cons r .nil) (fun a m => ?_) ?_
    · simp only [fps, List.mem_append, List.append_nil] at m ⊢
      exact .inl m
    · have n := (List.nodup_append.mp g.nd).1
      simp only [fps, List.append_nil] at n ⊢
      exact (List.nodup_append.mp n).1
theorem Good.putBack : ∀ {b : List (Option Nat)} {os : List OD} {vs : List V} {env : Env}, Good K Z H σ env (v :: vs) (d :: os) → Backs' σ b vs →
    Good K Z H σ (putBack b os env) [v] [d] ∧ Step Z H (fps (d :: os) ++ fpE env) Z H (fps [d] ++ fpE (E8.putBack b os env))
  | some i :: b, o :: os, w :: vs, env, g, hb => by
    obtain ⟨g1, s1⟩ := g.swap.back (i := i) hb.1
    obtain ⟨g2, s2⟩ := Good.putBack (b := b) g1 hb.2
    refine ⟨g2, ((Step.refl.less fun x m => ?_).trans s1).trans s2⟩
    simp only [fps, List.mem_append] at m ⊢
    rcases m with (m | m | m) | m
    · exact .inl (.inr (.inl m))
    · exact .inl (.inl m)
    · exact .inl (.inr (.inr m))
    · exact .inr m
  | none :: b, o :: os, w :: vs, env, g, hb => by
    obtain ⟨g2, s2⟩ := Good.putBack (b := b) g.drop2 hb
    refine ⟨g2, (Step.refl.less fun x m => ?_).trans s2⟩
    simp only [fps, List.mem_append] at m ⊢
    rcases m with (m | m) | m
    · exact .inl (.inl m)
    · exact .inl (.inr (.inr m))
    · exact .inr m
  | [], os, vs, env, g, _ => ⟨g.one, Step.mk' fun a m => by
      simp only [fps, List.append_nil, List.mem_append] at m ⊢
      exact .inl m⟩
  | none :: b, [], vs, env, g, _ => ⟨g.one, Step.mk' fun a m => by simpa [fps] using m⟩
  | some i :: b, [], vs, env, g, _ => ⟨g.one, Step.mk' fun a m => by simpa [fps] using m⟩
  | none :: b, o :: os, [], env, g, _ => nomatch (show ([] : List V).length = (o :: os).length from by have := g.vals.length; simpa using this)
  | some i :: b, o :: os, [], env, g, _ => nomatch (show ([] : List V).length = (o :: os).length from by have := g.vals.length; simpa using this)
end
def wCall (φ : Spec) (ms : List Bool) (dds : List SD) (back : List (Option Nat)) (wr : WA) : WE := fun env Q => wr env fun ds env1 => φ (prep ms ds ++ dds.map .sh) fun d outs => Q d (putBack back outs env1)
theorem Good.more {K : PySem.W.Frag} {Z H : Hp} {σ : L2.St} {env : Env} {vs dvs : List V} {ds : List OD} {dds : List SD} (g : Good K Z H σ env vs ds) (r : RepSs K Z dvs dds) : Good K Z H σ env (vs ++ dvs) (ds ++ dds.map .sh) :=
  g.mk' (g.vals.append r.mapO) (fun a m => by simpa [fps_append, fps_sh] using m) (by simpa [fps_append, fps_sh] using (List.nodup_append.mp g.nd).1)
theorem sim_call {K : PySem.W.Frag} {n : Nat} {φ : Spec} {ms : List Bool} {dds : List SD} {dvs : List V} {back : List (Option Nat)} {ta : TA} {wr : WA} {E : XK} (hd : ∀ Z, RepSs K Z dvs dds) (hn : back.length + dvs.length = n) (q : SimA K ta back wr) :
    SimE K (tCall (spOf K n φ) dvs E ta) (wCall φ ms dds back wr) := fun Z H σ env Q P g hw k => by
  refine q Z H σ env _ _ g hw fun vs H1 Z1 ds env1 st1 g1 bk h1 => ?_
  obtain ⟨Z2, g2, st2⟩ := g1.prep ms
  have g3 := g2.more (hd Z2)
  have e3 : fps (prep ms ds ++ dds.map .sh) = fps (prep ms ds) := by simp [fps_append, fps_sh]
  refine ⟨by rw [List.length_append, bk.length]; exact hn, Z2, _, _, g3.alone, h1, fun d outs hq v Z' H' st g' => ?_⟩
  obtain ⟨g4, st4⟩ := g3.around st g'
  obtain ⟨g5, st5⟩ := g4.putBack (bk.more dvs)
  rw [e3] at st4
  exact k v H' Z' d _ (((st1.trans st2).trans st4).trans st5) g5 hq
/-! ### arguments that are lent -/
def wConsM (i : Nat) (wr : WA) : WA := fun env Q => match env[i]? with
  | some (some d) => wr (env.set i none) fun xs env2 => Q (d :: xs) env2
  | _ => False
theorem Good.cons {K : PySem.W.Frag} {Z Z' H H' : Hp} {σ : L2.St} {env env' : Env} {vs : List V} {ds : List OD} {v : V} {d : OD} (g1 : Good K Z H σ env [v] [d]) (st2 : Step Z H (fpE env) Z' H' (fps ds ++ fpE env')) (g2 : Good K Z' H' σ env' vs ds) :
    Good K Z' H' σ env' (v :: vs) (d :: ds) ∧ Step Z H (fps [d] ++ fpE env) Z' H' (fps (d :: ds) ++ fpE env') := by
  have g3 := g1.beside st2 g2
  have mem : ∀ x, x ∈ fps (d :: ds) ↔ x ∈ fps (ds ++ [d]) := fun x => by
    simp only [fps, fps_append, List.append_nil, List.mem_append]
    exact Or.comm
  refine ⟨g3.mk' (.cons ?_ g2.vals) (fun a m => (mem a).mp m) ?_, (st2.frame (fps [d])).less fun x m => ?_⟩
  · obtain ⟨w, e, r⟩ := g3.vals.get (i := ds.length) (d := d) (by simp)
    have l := g2.vals.length
    rw [List.getElem?_append_right (by omega), l, Nat.sub_self] at e
    have e' : v = w := by simpa using e
    exact e' ▸ r
  · have n := (List.nodup_append.mp g3.nd).1
    simp only [fps, fps_append, List.append_nil] at n ⊢
    have n' := List.nodup_append.mp n
    exact List.nodup_append.mpr ⟨n'.2.1, n'.1, fun x hx y hy e => n'.2.2 y hy x hx e.symm⟩
  · simp only [fps, List.append_nil, List.mem_append] at m ⊢
    rcases m with (m | m) | m
    · exact .inl m
    · exact .inr (.inl m)
    · exact .inr (.inr m)
theorem Good.moveOut {K : PySem.W.Frag} {Z H : Hp} {σ : L2.St} {env : Env} {i : Nat} {d : OD} (g : Good K Z H σ env [] []) (e : env[i]? = some (some d)) :
    ∃ v, σ[i]? = some (some v) ∧ Good K Z H σ (env.set i none) [v] [d] ∧ Step Z H (fpE env) Z H (fps [d] ++ fpE (env.set i none)) := by
  obtain ⟨v, hv, r⟩ := g.slots.get e
  obtain ⟨A, B, h1, h2⟩ := fpE_split e
  have nd : (fpE env).Nodup := by simpa [fps] using g.nd
  have sub : ∀ a ∈ fps [d] ++ fpE (env.set i none), a ∈ fpE env := fun a m => by
    rw [h2 none] at m
    rw [h1]
    simp only [fps, fpo, List.append_nil, List.nil_append, List.mem_append] at m ⊢
    rcases m with m | m | m
    · exact .inr (.inl m)
    · exact .inl m
    · exact .inr (.inr m)
  refine ⟨v, hv, ⟨g.same, g.slots.forget i, .cons r .nil, ?_, fun a m => g.free a (by simpa [fps] using sub a m)⟩, Step.refl.less sub⟩
  rw [h2 none]
  rw [h1] at nd
  simp only [fps, fpo, List.append_nil, List.nil_append] at nd ⊢
  have n1 := List.nodup_append.mp nd
  have n2 := List.nodup_append.mp n1.2.1
  refine List.nodup_append.mpr ⟨n2.1, List.nodup_append.mpr ⟨n1.1, n2.2.1, fun x hx y hy => n1.2.2 x hx y (List.mem_append_right _ hy)⟩, fun x hx y hy e => ?_⟩
  subst e
  rcases List.mem_append.mp hy with q | q
  · exact n1.2.2 x q x (List.mem_append_left _ hx) rfl
  · exact n2.2.2 x hx x q rfl
theorem sim_consM {K : PySem.W.Frag} {i : Nat} {tr : TA} {bk : List (Option Nat)} {wr : WA} (q' : SimA K tr bk wr) : SimA K (tCons (tVar i) tr) (some i :: bk) (wConsM i wr) := fun Z H σ env Q P g hw k => by
  unfold wConsM at hw
  split at hw
  · rename_i d e
    obtain ⟨v, hv, g1, st1⟩ := g.moveOut e
    refine ⟨v, hv, q' Z H σ _ _ _ g1.base hw fun vs H2 Z2 ds env2 st2 g2 bk2 h2 => ?_⟩
    obtain ⟨g3, st3⟩ := g1.cons st2 g2
    exact k (v :: vs) H2 Z2 (d :: ds) env2 (st1.trans st3) g3 ⟨hv, bk2⟩ h2
  · exact hw.elim
section
variable {X : Cx} {e a b : Expr} {es : List Expr} {wa wb we : WE} {wr : WA} {bk : List (Option Nat)} {pos p : Pos}
theorem da_lend (i : Nat) {x : Str} (hr : DA X es bk wr) (hN : X.N[i]? = some x := by rfl) (hv : Vis X.env.scope x := by first | exact Or.inl rfl | exact Or.inr (Or.inl rfl) | exact Or.inr (Or.inr rfl)) (hd : (x == ("__debug__" : Str)) = false := by decide)
    (hcd : (x == ("__classdict__" : Str)) = false := by decide) (hs : starEach (.Name x p :: es) X.env = (false, eval (.Name x p) X.env) :: starEach es X.env := by rfl) : DA X (.Name x p :: es) (some i :: bk) (wConsM i wr) :=
  let ⟨_, p', q'⟩ := hr; ⟨_, pa_cons (pe_var hN hv hd hcd) p' hs, sim_consM q'⟩
/-- f(..) -/
theorem de_call {CX : CXT} {k n : Nat} {f : Addr} {fd : FuncData} {ps : List Str} {φ : Spec} {dvs : List V} {dvu : List Value} {dds : List SD} {E : XK} {x : Str} (ms : List Bool) (F : FnOk X.prog X.w X.K X.mg X.base CX k f fd ps (spOf X.K n φ)) (hr : Room k X.A) (hm : X.mg x = some (.ref f)) (hk : PySem.W.keepIn X.K (.ref f) = true) (hb : Binds X.K fd ps dvu) (hx : Passes CX X E) (ha : DA X (e :: es) bk wr)
    (hd : Vals dvs dvu := by exact .nil) (hdd : ∀ Z, RepSs X.K Z dvs dds := by exact fun _ => .nil) (hn : bk.length + dvs.length = n := by rfl) (hg : Gl X x := by rfl) (hdb : (x == ("__debug__" : Str)) = false := by decide)
    (he : starEach (e :: es) X.env = (false, eval e X.env) :: starEach es X.env := by rfl) (hpl : (backTo pos (starEach es X.env)).any (·.1) = false := by rfl) : DE X (.Call (.Name x p) (e :: es) [] pos) (wCall φ ms dds bk wr) :=
  let ⟨_, p', q'⟩ := ha; ⟨_, pe_call F hr hg hm hk hb hd hx p' hdb he hpl, sim_call hdd hn q'⟩
/-- a built-in by its name -/
def wCB (w : List OD → (OD → Prop) → Prop) (wr : WA) : WE := fun env Q => wr env fun ds env1 => w ds fun d => Q d env1
theorem sim_cb {K : PySem.W.Frag} {r : List V → Hp → VK → Prop} {w : List OD → (OD → Prop) → Prop} {ta : TA} (ok : CallOk K r w) (q : SimA K ta bk wr) : SimE K (tCB r ta) (wCB w wr) := fun Z H σ env Q P g hw k => by
  refine q Z H σ env _ _ g hw fun vs H1 Z1 ds env1 st1 g1 bk h1 => ?_
  exact ok Z1 H1 σ env1 vs ds _ _ g1 h1 fun v H' Z' d st g' hq => k v H' Z' d env1 (st1.trans st) g' hq
def CallD (X : Cx) (f : Value) (w : List OD → (OD → Prop) → Prop) : Prop := ∃ r, CallR X f r ∧ CallOk X.K r w
theorem de_cb {id : String} {w : List OD → (OD → Prop) → Prop} {x : Str} (c : CallD X (.builtin id) w) (hm : X.mg x = none) (hv : bootBuiltins x = some (.builtin id)) (ha : DA X (e :: es) bk wr) (hg : Gl X x := by rfl) (hn : x ≠ "__name__" := by decide) (hdb : (x == ("__debug__" : Str)) = false := by decide)
    (he : starEach (e :: es) X.env = (false, eval e X.env) :: starEach es X.env := by rfl) (hpl : (backTo pos (starEach es X.env)).any (·.1) = false := by rfl) : DE X (.Call (.Name x p) (e :: es) [] pos) (wCB w wr) :=
  let ⟨_, r, ok⟩ := c; let ⟨_, p', q'⟩ := ha; ⟨_, pe_callB r hg hm hv p' hn hdb he hpl, sim_cb ok q'⟩
theorem de_ct {T : String} {w : List OD → (OD → Prop) → Prop} {x : Str} (c : CallD X (.type T) w) (hm : X.mg x = none) (hv : bootBuiltins x = some (.type T)) (ha : DA X (e :: es) bk wr) (hg : Gl X x := by rfl) (hn : x ≠ "__name__" := by decide) (hdb : (x == ("__debug__" : Str)) = false := by decide)
    (he : starEach (e :: es) X.env = (false, eval e X.env) :: starEach es X.env := by rfl) (hpl : (backTo pos (starEach es X.env)).any (·.1) = false := by rfl) : DE X (.Call (.Name x p) (e :: es) [] pos) (wCB w wr) :=
  let ⟨_, r, ok⟩ := c; let ⟨_, p', q'⟩ := ha; ⟨_, pe_callTy r hg hm hv p' hn hdb he hpl, sim_cb ok q'⟩
end
/-! ### statements -/
structure QE where
  nx : Env → Prop
  rt : OD → Env → Prop
  bk : Env → Prop := fun _ => False
  ct : Env → Prop := fun _ => False
abbrev WS := QE → Env → Prop
structure EndsOk (K : PySem.W.Frag) (Z H : Hp) (F : List Addr) (q : QE) (D : Ends) : Prop where
  nx : ∀ σ' H' Z' env', Step Z H F Z' H' (fpE env') → Good K Z' H' σ' env' [] [] → q.nx env' → D.nx σ' H'
  rt : ∀ v σ' H' Z' d env', Step Z H F Z' H' (fps [d] ++ fpE env') → Good K Z' H' σ' env' [v] [d] → q.rt d env' → D.rt v H'
  bk : ∀ σ' H' Z' env', Step Z H F Z' H' (fpE env') → Good K Z' H' σ' env' [] [] → q.bk env' → D.bk σ' H'
  ct : ∀ σ' H' Z' env', Step Z H F Z' H' (fpE env') → Good K Z' H' σ' env' [] [] → q.ct env' → D.ct σ' H'
theorem EndsOk.step {K : PySem.W.Frag} {Z H Z1 H1 : Hp} {F F1 : List Addr} {q : QE} {D : Ends} (st : Step Z H F Z1 H1 F1) (o : EndsOk K Z H F q D) : EndsOk K Z1 H1 F1 q D :=
  ⟨fun σ' H' Z' env' s => o.nx σ' H' Z' env' (st.trans s), fun v σ' H' Z' d env' s => o.rt v σ' H' Z' d env' (st.trans s), fun σ' H' Z' env' s => o.bk σ' H' Z' env' (st.trans s), fun σ' H' Z' env' s => o.ct σ' H' Z' env' (st.trans s)⟩
def SimS (K : PySem.W.Frag) (ts : TS) (ws : WS) : Prop := ∀ (Z H : Hp) (σ : L2.St) (env : Env) (q : QE) (D : Ends), Good K Z H σ env [] [] → ws q env → EndsOk K Z H (fpE env) q D → ts D σ H
def DS (X : Cx) (st : Stmt) (ws : WS) : Prop := ∃ ts, PS X st ts ∧ SimS X.K ts ws
def DSs (X : Cx) (sts : List Stmt) (ws : WS) : Prop := ∃ ts, PSs X sts ts ∧ SimS X.K ts ws
def wNext : WS := fun q env => q.nx env
def wSeq (s t : WS) : WS := fun q env => s { q with nx := t q } env
def wSet (i : Nat) (wa : WE) : WS := fun q env => wa env fun d env1 => q.nx (env1.set i (some d))
def wDrop (wa : WE) : WS := fun q env => wa env fun _ env1 => q.nx env1
def wRet (wa : WE) : WS := fun q env => wa env q.rt
def wRetN : WS := fun q env => q.rt (.sh .non) env
def wIf (wt : WT) (s t : WS) : WS := fun q env => wt env fun b env1 => if b = true then s q env1 else t q env1
def wNever : WS := fun _ _ => False
section
variable {K : PySem.W.Frag} {Z Z' H H' : Hp} {σ σ' : L2.St} {env env' : Env} {vs us ws : List V} {ds xs ys os : List OD} {v : V} {d x y : OD}
theorem Good.store (g : Good K Z H σ env [v] [d]) (i : Nat) : Good K Z H (σ.set i (some v)) (env.set i (some d)) [] [] ∧ Step Z H (fps [d] ++ fpE env) Z H (fpE (env.set i (some d))) := by
  have rs := g.vals
  cases rs with
  | cons r _ =>
    have n : (fp d ++ fpE env).Nodup := by simpa [fps] using g.nd
    have sub : ∀ a ∈ fpE (env.set i (some d)), a ∈ fps [d] ++ fpE env := fun a m => by
      simp only [fps, List.append_nil, List.mem_append]
      exact fpE_set_sub a m
    exact ⟨⟨g.same, g.slots.set r i, .nil, by simpa [fps] using fpE_set_nd n, fun a m => g.free a (sub a (by simpa [fps] using m))⟩, Step.refl.less sub⟩
theorem sim_set {te : TE} {wa : WE} (i : Nat) (h : SimE K te wa) : SimS K (tAsg te (gName i)) (wSet i wa) := fun Z H σ env q D g hw o => by
  refine h Z H σ env _ _ g hw fun v H1 Z1 d env1 st1 g1 h1 => ?_
  obtain ⟨g2, st2⟩ := g1.store i
  exact o.nx _ _ Z1 _ (st1.trans st2) g2 h1
theorem sim_drop {te : TE} {wa : WE} (h : SimE K te wa) : SimS K (tDrop te) (wDrop wa) := fun Z H σ env q D g hw o =>
  h Z H σ env _ _ g hw fun v H1 Z1 d env1 st1 g1 h1 => o.nx _ _ Z1 env1 (st1.less fun x m => List.mem_append_right _ m) g1.base h1
theorem sim_ret {te : TE} {wa : WE} (h : SimE K te wa) : SimS K (tRet te) (wRet wa) := fun Z H σ env q D g hw o =>
  h Z H σ env _ _ g hw fun v H1 Z1 d env1 st1 g1 h1 => o.rt v σ H1 Z1 d env1 st1 g1 h1
theorem sim_retN : SimS K tRetN wRetN := fun Z H σ env q D g hw o => o.rt .non σ H Z _ env (Step.result (ds := [])) (g.result .non) hw
theorem sim_seq {t u : TS} {s r : WS} (h : SimS K t s) (h' : SimS K u r) : SimS K (tSeq t u) (wSeq s r) := fun Z H σ env q D g hw o =>
  h Z H σ env _ _ g hw ⟨fun σ' H' Z' env' st g' hq => h' Z' H' σ' env' q D g' hq (o.step st), o.rt, o.bk, o.ct⟩
theorem sim_if {tt : TT} {wt : WT} {t u : TS} {s r : WS} (hc : SimT K tt wt) (h : SimS K t s) (h' : SimS K u r) : SimS K (tIfS tt t u) (wIf wt s r) := fun Z H σ env q D g hw o => by
  refine hc Z H σ env _ _ g hw fun b H1 Z1 env1 st1 g1 h1 => ?_
  cases b with
  | true => exact h Z1 H1 σ env1 q D g1 h1 (o.step st1)
  | false => exact h' Z1 H1 σ env1 q D g1 h1 (o.step st1)
theorem sim_next : SimS K tNext wNext := fun Z H σ env q D g hw o => o.nx σ H Z env Step.refl g hw
theorem sim_never : SimS K tNever wNever := fun _ _ _ _ _ _ _ hw _ => hw.elim
end
section
variable {X : Cx} {e a b : Expr} {es : List Expr} {wa wb we : WE} {wt : WT} {wr : WA} {bk : List (Option Nat)} {pos p : Pos} {st : Stmt} {sts rest : List Stmt} {s t : WS}
theorem dss_nil : DSs X [] wNext := ⟨_, pss_nil, sim_next⟩
theorem dss_one (h : DS X st s) : DSs X [st] s := let ⟨_, p, q⟩ := h; ⟨_, pss_one p, q⟩
theorem dss_cons (h : DS X st s) (h' : DSs X rest t) : DSs X (st :: rest) (wSeq s t) := let ⟨_, p, q⟩ := h; let ⟨_, p', q'⟩ := h'; ⟨_, pss_cons p p', sim_seq q q'⟩
theorem ds_set (i : Nat) {x : Str} {e : Expr} {we : WE} {pos' : Pos} (hN : X.N.Nodup) (he : DE X e we) (hi : X.N[i]? = some x := by rfl) (hx : L2.Loc X.env.scope x := by first | exact .inl rfl | exact .inr rfl) (hs : swapsWith e (some (.Name x pos')) pos.line X.env = pure false := by rfl) (hf : X.fn x = true ∨ X.env.scope.names.lookup x = some .local := by first | exact .inl rfl | exact .inr rfl | assumption) :
    DS X (.Assign [.Name x pos'] e pos) (wSet i we) := let ⟨_, p, q⟩ := he; ⟨_, ps_set hN hi hx p hs hf, sim_set i q⟩
theorem ds_expr (he : DE X e we) (hs : swapsWith e none pos.line X.env = pure false := by rfl) : DS X (.Expr e pos) (wDrop we) := let ⟨_, p, q⟩ := he; ⟨_, ps_expr p hs, sim_drop q⟩
theorem ds_ret (he : DE X e we) : DS X (.Return (some e) pos) (wRet we) := let ⟨_, p, q⟩ := he; ⟨_, ps_ret p, sim_ret q⟩
theorem ds_retN : DS X (.Return none pos) wRetN := ⟨_, ps_retN, sim_retN⟩
theorem ds_if {c : Expr} {x y : List Stmt} (hc : DT X c wt) (h : DSs X x s) (h' : DSs X y t) : DS X (.If c x y pos) (wIf wt s t) := let ⟨_, p, q⟩ := hc; let ⟨_, p1, q1⟩ := h; let ⟨_, p2, q2⟩ := h'; ⟨_, ps_if p p1 p2, sim_if q q1 q2⟩
theorem ds_pass : DS X (.Pass pos) wNext := ⟨_, ps_pass, sim_next⟩
theorem ds_never : DS X st wNever := ⟨_, ps_never, sim_never⟩
/-- x += e -/
def wAug (i : Nat) (f : Int → Int → (OD → Prop) → Prop) (wa : WE) : WS := fun q env => match env[i]? with
  | some (some (.sh (.int a))) => wa env fun y env1 => wII f (.sh (.int a)) y fun z => q.nx (env1.set i (some z))
  | _ => False
def IpD (X : Cx) (op : Operator) (f : Int → Int → (OD → Prop) → Prop) : Prop := ∃ r, PIp X op r ∧ OpOk X.K r (wII f)
theorem ds_aug {op : Operator} {f : Int → Int → (OD → Prop) → Prop} (i : Nat) {x : Str} {pos' : Pos} (hN : X.N.Nodup) (ho : IpD X op f) (he : DE X e we) (hi : X.N[i]? = some x := by rfl) (hx : L2.Loc X.env.scope x := by first | exact .inl rfl | exact .inr rfl) (hf : X.fn x = true ∨ X.env.scope.names.lookup x = some .local := by first | exact .inl rfl | exact .inr rfl | assumption) :
    DS X (.AugAssign (.Name x pos') op e pos) (wAug i f we) := let ⟨_, r, ok⟩ := ho; let ⟨_, p, q⟩ := he; ⟨_, ps_aug hN hi hx p r hf, fun Z H σ env q' D g hw o => by
  unfold wAug at hw
  split at hw
  · rename_i a ea
    obtain ⟨v, hv, r0⟩ := g.slots.get ea
    cases r0 with
    | sh r0 =>
      cases r0
      refine ⟨_, hv, ?_⟩
      refine q Z H σ env _ _ g hw fun w H1 Z1 d env1 st1 g1 h1 => ?_
      have rs := g1.vals
      cases rs with
      | cons rw _ =>
        have g2 : Good X.K Z1 H1 σ env1 [.int a, w] [.sh (.int a), d] := g1.mk' (.cons (.sh (.int a)) (.cons rw .nil)) (fun x m => by simpa [fps, fp] using m) (by simpa [fps, fp] using (List.nodup_append.mp g1.nd).1)
        refine ok Z1 H1 σ env1 _ _ _ _ _ _ g2 h1 fun z H2 Z2 d2 st2 g3 h3 => ?_
        obtain ⟨g4, st4⟩ := g3.store i
        have e2 : fps [OD.sh (.int a), d] = fps [d] := by simp [fps, fp]
        rw [e2] at st2
        exact o.nx _ _ Z2 _ ((st1.trans st2).trans st4) g4 h3
  · exact hw.elim⟩
theorem ip_addD : IpD X .Add fAdd := ⟨_, ip_add, ok_I0 fun _ _ _ => .int _⟩
theorem ip_subD : IpD X .Sub fSub := ⟨_, ip_sub, ok_I0 fun _ _ _ => .int _⟩
end
end E8
/-! Loops, comprehensions, stores, defs. -/
namespace E8
open PySem PySem.Spec PyProof.Rows L2

/-! ### what is walked -/
abbrev WI := Env → (List SD → Env → Prop) → Prop
def ItOk (K : PySem.W.Frag) (Z : Hp) (J : It) (items : List SD) : Prop := ∀ Z1 H1, Same Z Z1 → Same Z1 H1 →
  (∀ (i : Nat) (d : SD), items[i]? = some d → J.go i H1 ∧ ∀ x H2, J.yld i H1 x H2 → ∃ Z2, Step Z1 H1 [] Z2 H2 [] ∧ Same Z2 H2 ∧ RepS K Z2 x d) ∧ J.stop items.length H1
def SimI (K : PySem.W.Frag) (ti : TI) (wi : WI) : Prop := ∀ (Z H : Hp) (σ : L2.St) (env : Env) (Q : List SD → Env → Prop) (R : It → Hp → Prop), Good K Z H σ env [] [] → wi env Q →
  (∀ J H' Z' items env', Step Z H (fpE env) Z' H' (fpE env') → Good K Z' H' σ env' [] [] → ItOk K Z' J items → Q items env' → R J H') → ti σ H R
def DI (X : Cx) (tg iter : Expr) (wi : WI) : Prop := ∃ ti, PI X tg iter ti ∧ SimI X.K ti wi
abbrev WG := SD → Env → (Env → Prop) → Prop
def SimG (K : PySem.W.Frag) (g : TG) (wg : WG) : Prop := ∀ (Z H : Hp) (σ : L2.St) (env : Env) (v : V) (d : SD) (k : Env → Prop) (Q : L2.St → Hp → Prop), Good K Z H σ env [] [] → RepS K Z v d → wg d env k →
  (∀ σ' env', Good K Z H σ' env' [] [] → Step Z H (fpE env) Z H (fpE env') → k env' → Q σ' H) → g v σ H Q
def DG (X : Cx) (tg : Expr) (wg : WG) : Prop := ∃ g, PG X tg g ∧ SimG X.K g wg
def wgName (i : Nat) : WG := fun d env k => k (env.set i (some (.sh d)))
def wgTup (is : List Nat) : WG := fun d env k => match d with
  | .tup ds => ds.length = is.length ∧ k ((is.zip ds).foldl (fun e p => e.set p.1 (some (.sh p.2))) env)
  | _ => False
section
variable {K : PySem.W.Frag} {Z Z' H H' : Hp} {σ σ' : L2.St} {env env' : Env} {vs us ws : List V} {ds xs ys os : List OD} {v : V} {d x y : OD}
theorem Good.bind {d : SD} (g : Good K Z H σ env [] []) (r : RepS K Z v d) (i : Nat) : Good K Z H (σ.set i (some v)) (env.set i (some (.sh d))) [] [] ∧ Step Z H (fpE env) Z H (fpE (env.set i (some (.sh d)))) := by
  obtain ⟨a, b⟩ := (g.result r).store i
  exact ⟨a, by simpa [fps, fp] using b⟩
theorem sim_gn (i : Nat) : SimG K (gName i) (wgName i) := fun Z H σ env v d k Q g r hw o => by
  obtain ⟨a, b⟩ := g.bind r i
  exact o _ _ a b hw
/-- names of a tuple, one after another -/
def gNames : List Nat → TGs
  | [] => gNil
  | i :: is => gCons (gName i) (gNames is)
theorem sim_gns : ∀ (is : List Nat) (Z H : Hp) (σ : L2.St) (env : Env) (vs : List V) (ds : List SD) (k : Env → Prop) (Q : L2.St → Hp → Prop), Good K Z H σ env [] [] → RepSs K Z vs ds → ds.length = is.length → k ((is.zip ds).foldl (fun e p => e.set p.1 (some (.sh p.2))) env) →
    (∀ σ' env', Good K Z H σ' env' [] [] → Step Z H (fpE env) Z H (fpE env') → k env' → Q σ' H) → gNames is vs σ H Q
  | [], Z, H, σ, env, vs, ds, k, Q, g, r, hl, hw, o => by
    cases r with
    | nil => exact ⟨rfl, o σ env g Step.refl hw⟩
    | cons _ _ => simp at hl
  | i :: is, Z, H, σ, env, vs, ds, k, Q, g, r, hl, hw, o => by
    cases r with
    | nil => simp at hl
    | cons a b =>
      refine ⟨_, _, rfl, ?_⟩
      obtain ⟨g1, st1⟩ := g.bind a i
      exact sim_gns is Z H _ _ _ _ k Q g1 b (by simpa using hl) hw fun σ' env' g' st' => o σ' env' g' (st1.trans st')
theorem sim_gt (is : List Nat) : SimG K (gTup K is.length (gNames is)) (wgTup is) := fun Z H σ env v d k Q g r hw o => by
  unfold wgTup at hw
  split at hw
  · cases r with
    | tup h r => exact ⟨_, _, rfl, sqt_mono g.same h, by rw [r.length]; exact hw.1, sim_gns is Z H σ env _ _ k Q g r hw.1 hw.2 o⟩
  · exact hw.elim
end
/-- the loop over items, the env alone -/
def wLoop (g : WG) (body : WS) : List SD → WS
  | [], q, env => q.nx env
  | d :: ds, q, env => g d env fun env' => body { nx := wLoop g body ds q, rt := q.rt, bk := q.nx, ct := wLoop g body ds q } env'
def wFor (wi : WI) (g : WG) (body : WS) : WS := fun q env => wi env fun items env1 => wLoop g body items q env1
theorem sim_for {K : PySem.W.Frag} {ti : TI} {wi : WI} {g : TG} {wg : WG} {tb : TS} {wb : WS} (hi : SimI K ti wi) (hg : SimG K g wg) (hb : SimS K tb wb) : SimS K (tFor ti g tb) (wFor wi wg wb) := fun Z H σ env q D gd hw o => by
  refine hi Z H σ env _ _ gd hw fun J H1 Z1 items env1 st1 g1 it h1 => ?_
  refine ⟨fun i m σ' H' => m = items.length - i ∧ i ≤ items.length ∧ ∃ Z' env', Step Z1 H1 (fpE env1) Z' H' (fpE env') ∧ Good K Z' H' σ' env' [] [] ∧ wLoop wg wb (items.drop i) q env',
    ⟨items.length, by simp, Nat.zero_le _, Z1, env1, Step.refl, g1, by simpa using h1⟩, ?_⟩
  rintro i m σ' H' ⟨rfl, hi, Z', env', st', g', hw'⟩
  obtain ⟨hgo, hstop⟩ := it Z' H' st'.ext g'.same
  by_cases hlt : i < items.length
  · obtain ⟨h2, h3⟩ := hgo i items[i] (by simp [hlt])
    rw [List.drop_eq_getElem_cons hlt] at hw'
    refine .inr ⟨h2, fun σ3 H3 => ∃ Z3 env3, Step Z1 H1 (fpE env1) Z3 H3 (fpE env3) ∧ Good K Z3 H3 σ3 env3 [] [] ∧ wLoop wg wb (items.drop (i + 1)) q env3, fun σ3 H3 ⟨Z3, env3, s3, g3, w3⟩ => ⟨items.length - (i + 1), by omega, rfl, hlt, Z3, env3, s3, g3, w3⟩, fun x H2 y => ?_⟩
    obtain ⟨Z2, st2, sm2, r2⟩ := h3 x H2 y
    obtain ⟨g2, st3⟩ := Good.around (σ := σ') (env := env') (us := []) (xs := []) g' (show Step Z' H' (fps []) Z2 H2 (fps []) from st2) ⟨sm2, .nil, .nil, by simp [fps, fpE], fun a m => by simp [fps, fpE] at m⟩
    have st3' : Step Z' H' (fpE env') Z2 H2 (fpE env') := by simpa [fps] using st3
    refine hg Z2 H2 σ' env' x _ _ _ g2 r2 hw' fun σ4 env4 g4 st4 hw4 => ?_
    have big := ((st1.trans st').trans st3').trans st4
    refine hb Z2 H2 σ4 env4 _ _ g4 hw4 ⟨fun σ5 H5 Z5 env5 s5 g5 w5 => ⟨Z5, env5, ((st'.trans st3').trans st4).trans s5, g5, w5⟩, fun v σ5 H5 Z5 d5 env5 s5 g5 w5 => o.rt v σ5 H5 Z5 d5 env5 (big.trans s5) g5 w5, fun σ5 H5 Z5 env5 s5 g5 w5 => o.nx σ5 H5 Z5 env5 (big.trans s5) g5 w5, fun σ5 H5 Z5 env5 s5 g5 w5 => ⟨Z5, env5, ((st'.trans st3').trans st4).trans s5, g5, w5⟩⟩
  · have e : i = items.length := by omega
    subst e
    rw [List.drop_length] at hw'
    exact .inl ⟨hstop, o.nx σ' H' Z' env' (st1.trans st') g' hw'⟩
def wWhile (wt : WT) (body : WS) : WS := fun q env => ∃ W : Nat → Env → Prop, (∃ m, W m env) ∧ ∀ m env, W m env → wt env fun b env1 => if b = true then body { nx := fun e => ∃ m', m' < m ∧ W m' e, rt := q.rt, bk := q.nx, ct := fun e => ∃ m', m' < m ∧ W m' e } env1 else q.nx env1
theorem sim_while {K : PySem.W.Frag} {tt : TT} {wt : WT} {tb : TS} {wb : WS} (hc : SimT K tt wt) (hb : SimS K tb wb) : SimS K (tWhile tt tb) (wWhile wt wb) := fun Z H σ env q D gd hw o => by
  obtain ⟨W, ⟨m0, w0⟩, turn⟩ := hw
  refine ⟨fun m σ' H' => ∃ Z' env', Step Z H (fpE env) Z' H' (fpE env') ∧ Good K Z' H' σ' env' [] [] ∧ W m env', ⟨m0, Z, env, Step.refl, gd, w0⟩, ?_⟩
  rintro m σ' H' ⟨Z', env', st', g', w'⟩
  refine hc Z' H' σ' env' _ _ g' (turn m env' w') fun b H1 Z1 env1 st1 g1 h1 => ?_
  cases b with
  | true =>
    refine ⟨fun σ3 H3 => ∃ Z3 env3, Step Z H (fpE env) Z3 H3 (fpE env3) ∧ Good K Z3 H3 σ3 env3 [] [] ∧ ∃ m', m' < m ∧ W m' env3, fun σ3 H3 ⟨Z3, env3, s3, g3, m', hm, w3⟩ => ⟨m', hm, Z3, env3, s3, g3, w3⟩, ?_⟩
    have big := st'.trans st1
    exact hb Z1 H1 σ' env1 _ _ g1 h1 ⟨fun σ5 H5 Z5 env5 s5 g5 w5 => ⟨Z5, env5, big.trans s5, g5, w5⟩, fun v σ5 H5 Z5 d5 env5 s5 g5 w5 => o.rt v σ5 H5 Z5 d5 env5 (big.trans s5) g5 w5, fun σ5 H5 Z5 env5 s5 g5 w5 => o.nx σ5 H5 Z5 env5 (big.trans s5) g5 w5, fun σ5 H5 Z5 env5 s5 g5 w5 => ⟨Z5, env5, big.trans s5, g5, w5⟩⟩
  | false => exact o.nx σ' H1 Z1 env1 (st'.trans st1) g1 h1
section
variable {X : Cx} {e a b : Expr} {es : List Expr} {wa wb we : WE} {wt : WT} {wr : WA} {bk : List (Option Nat)} {pos p : Pos} {st : Stmt} {sts rest : List Stmt} {s t : WS} {tg iter : Expr} {wi : WI} {wg : WG}
theorem ds_for {body : List Stmt} (hp : PassesOwn (model X.prog X.w) X.A X.env X.xe) (hc : X.calm = true) (hi : DI X tg iter wi) (hg : DG X tg wg) (hb : DSs X body s) (hs : ∀ x, foldedSetIterable iter X.env x = pure x := by intro _; rfl) : DS X (.For tg iter body [] pos) (wFor wi wg s) :=
  let ⟨_, p1, q1⟩ := hi; let ⟨_, p2, q2⟩ := hg; let ⟨_, p3, q3⟩ := hb; ⟨_, ps_for hp hc p1 p2 p3 hs, sim_for q1 q2 q3⟩
theorem ds_while {c : Expr} {body : List Stmt} (hp : PassesOwn (model X.prog X.w) X.A X.env X.xe) (hc : DT X c wt) (hb : DSs X body s) : DS X (.While c body [] pos) (wWhile wt s) :=
  let ⟨_, p1, q1⟩ := hc; let ⟨_, p3, q3⟩ := hb; ⟨_, ps_while hp p1 p3, sim_while q1 q3⟩
theorem dg_n (i : Nat) {x : Str} (hN : X.N.Nodup) (hi : X.N[i]? = some x := by rfl) (hx : L2.Loc X.env.scope x := by first | exact .inl rfl | exact .inr rfl) (hf : X.fn x = true ∨ X.env.scope.names.lookup x = some .local := by first | exact .inl rfl | exact .inr rfl | assumption) : DG X (.Name x pos) (wgName i) := ⟨_, pg_name hN hi hx hf, sim_gn i⟩
theorem dg_t {k : Nat} (is : List Nat) (hc : X.calm = true) (h : PGs X es (gNames is)) (hn : (assignEach es X.env).length = is.length := by rfl) (hst : (assignEach es X.env).findIdx? (·.1) = none := by rfl) : DG X (.Tuple es k pos) (wgTup is) := ⟨_, pg_tup hc h hn hst, sim_gt is⟩
/-! #### the things walked -/
/-- a list, a tuple that is frozen -/
def itemsOf : SD → Option (List SD)
  | .lst xs => some xs
  | .scr xs => some xs
  | .tup xs => some xs
  | _ => none
def wiL (wa : WE) : WI := fun env Q => wa env fun d env1 => match frz d with
  | .lst xs => Q xs env1
  | .scr xs => Q xs env1
  | _ => False
def wiT (wa : WE) : WI := fun env Q => wa env fun d env1 => match frz d with
  | .tup xs => Q xs env1
  | _ => False
theorem itl_ok {K : PySem.W.Frag} {Z : Hp} {a : Addr} {vs : List V} {items : List SD} (h : SqL K Z a vs) (r : RepSs K Z vs items) : ItOk K Z (Itl K a) items := fun Z1 H1 s1 s2 => by
  have hs : SqL K H1 a vs := (s1.trans s2).seq h
  refine ⟨fun i d e => ?_, ⟨vs, hs, by rw [r.length]; exact Nat.le_refl _⟩⟩
  obtain ⟨v, e1, e2⟩ := r.get e
  refine ⟨⟨vs, v, hs, e1⟩, fun x H2 y => ?_⟩
  obtain ⟨e3, y⟩ := y
  have ev := y vs hs
  rw [e1] at ev
  have evx : v = x := Option.some.inj ev
  subst e3
  exact ⟨Z1, Step.refl, s2, evx ▸ e2.mono s1⟩
theorem itt_ok {K : PySem.W.Frag} {Z : Hp} {a : Addr} {vs : List V} {items : List SD} (h : SqT K Z a vs) (r : RepSs K Z vs items) : ItOk K Z (Itt K a) items := fun Z1 H1 s1 s2 => by
  have hs : SqT K H1 a vs := sqt_mono (s1.trans s2) h
  refine ⟨fun i d e => ?_, ⟨vs, hs, by rw [r.length]; exact Nat.le_refl _⟩⟩
  obtain ⟨v, e1, e2⟩ := r.get e
  refine ⟨⟨vs, v, hs, e1⟩, fun x H2 y => ?_⟩
  obtain ⟨e3, y⟩ := y
  have ev := y vs hs
  rw [e1] at ev
  have evx : v = x := Option.some.inj ev
  subst e3
  exact ⟨Z1, Step.refl, s2, evx ▸ e2.mono s1⟩
theorem sim_il {K : PySem.W.Frag} {tl : TE} (h : SimE K tl wa) : SimI K (iList K tl) (wiL wa) := fun Z H σ env Q R g hw k => by
  refine h Z H σ env _ _ g hw fun v H1 Z1 d env1 st1 g1 h1 => ?_
  obtain ⟨g2, st2, r⟩ := g1.freeze
  have r1 : RepS K (zOf Z1 H1 (fps [d])) v (frz d) := by
    cases r with
    | cons r _ => exact r
  have st : Step Z H (fpE env) (zOf Z1 H1 (fps [d])) H1 (fpE env1) := (st1.trans st2).less fun x m => List.mem_append_right _ m
  split at h1
  · rename_i xs e
    rw [e] at r1
    cases r1 with
    | lst hh rs => exact ⟨_, rfl, ⟨_, .inl (.inl (g2.same _ _ hh))⟩, k _ H1 _ xs env1 st g2.base (itl_ok (.inl (.inl hh)) rs) h1⟩
  · rename_i xs e
    rw [e] at r1
    cases r1 with
    | scr hh rs => exact ⟨_, rfl, ⟨_, g2.same.seq hh⟩, k _ H1 _ xs env1 st g2.base (itl_ok hh rs) h1⟩
  · exact h1.elim
theorem sim_it {K : PySem.W.Frag} {tl : TE} (h : SimE K tl wa) : SimI K (iTup K tl) (wiT wa) := fun Z H σ env Q R g hw k => by
  refine h Z H σ env _ _ g hw fun v H1 Z1 d env1 st1 g1 h1 => ?_
  obtain ⟨g2, st2, r⟩ := g1.freeze
  have r1 : RepS K (zOf Z1 H1 (fps [d])) v (frz d) := by
    cases r with
    | cons r _ => exact r
  have st : Step Z H (fpE env) (zOf Z1 H1 (fps [d])) H1 (fpE env1) := (st1.trans st2).less fun x m => List.mem_append_right _ m
  split at h1
  · rename_i xs e
    rw [e] at r1
    cases r1 with
    | tup hh rs => exact ⟨_, rfl, ⟨_, sqt_mono g2.same hh⟩, k _ H1 _ xs env1 st g2.base (itt_ok hh rs) h1⟩
  · exact h1.elim
theorem di_l (h : DE X e wa) : DI X tg e (wiL wa) := let ⟨_, p, q⟩ := h; ⟨_, pi_list p, sim_il q⟩
theorem di_t (h : DE X e wa) : DI X tg e (wiT wa) := let ⟨_, p, q⟩ := h; ⟨_, pi_tup p, sim_it q⟩
/-- lo, lo + 1, .. below hi -/
def rng (lo hi : Int) : List SD := (List.range (hi - lo).toNat).map fun k => .int (lo + (k : Nat))
theorem rng_len (lo hi : Int) : (rng lo hi).length = (hi - lo).toNat := by simp [rng]
theorem rng_get {lo hi : Int} {i : Nat} {d : SD} (h : (rng lo hi)[i]? = some d) : i < (hi - lo).toNat ∧ d = .int (lo + (i : Nat)) := by
  unfold rng at h
  rw [List.getElem?_map] at h
  cases e : (List.range (hi - lo).toNat)[i]? with
  | none => rw [e] at h; cases h
  | some j =>
    rw [e] at h
    have hi' := (List.getElem?_eq_some_iff.mp e)
    obtain ⟨h1, h2⟩ := hi'
    rw [List.getElem_range] at h2
    subst h2
    exact ⟨by simpa using h1, (Option.some.inj h).symm⟩
theorem itr_ok {K : PySem.W.Frag} {Z : Hp} (lo hi : Int) : ItOk K Z (Itr lo (hi - lo).toNat) (rng lo hi) := fun Z1 H1 s1 s2 => by
  refine ⟨fun i d e => ?_, by rw [rng_len]; exact Nat.le_refl _⟩
  obtain ⟨h1, rfl⟩ := rng_get e
  refine ⟨h1, fun x H2 y => ?_⟩
  obtain ⟨e3, y⟩ := y
  subst e3 y
  exact ⟨Z1, Step.refl, s2, .int _⟩
def wiR1 (wr : WA) : WI := fun env Q => wr env fun ds env1 => match ds with
  | [.sh (.int j)] => (-(2 ^ 62) ≤ j ∧ j < 2 ^ 62) ∧ Q (rng 0 j) env1
  | _ => False
def wiR2 (wr : WA) : WI := fun env Q => wr env fun ds env1 => match ds with
  | [.sh (.int i), .sh (.int j)] => (-(2 ^ 62) ≤ i ∧ i < 2 ^ 62 ∧ -(2 ^ 62) ≤ j ∧ j < 2 ^ 62) ∧ Q (rng i j) env1
  | _ => False
theorem di_r1 {p pos : Pos} (hm : X.mg "range" = none) (ha : DA X [a] bk wr) (hg : Gl X "range" := by rfl) (hs : starEach [a] X.env = [(false, eval a X.env)] := by rfl) : DI X tg (.Call (.Name "range" p) [a] [] pos) (wiR1 wr) :=
  let ⟨_, p, q⟩ := ha; ⟨_, pi_range1 hg hm p hs, fun Z H σ env Q R g hw k => by
    refine q Z H σ env _ _ g hw fun vs H1 Z1 ds env1 st1 g1 bk h1 => ?_
    split at h1
    · have rs := g1.vals
      cases rs with
      | cons r rs => cases rs; cases r with
        | sh r =>
          cases r
          refine ⟨_, rfl, h1.1.1, h1.1.2, ?_⟩
          have e : ∀ j : Int, j.toNat = (j - 0).toNat := fun j => by rw [Int.sub_zero]
          rw [e]
          exact k _ H1 Z1 _ env1 (st1.less fun x m => List.mem_append_right _ m) g1.base (itr_ok 0 _) h1.2
    · exact h1.elim⟩
theorem di_r2 {p pos : Pos} (hm : X.mg "range" = none) (ha : DA X [a, b] bk wr) (hg : Gl X "range" := by rfl) (hs : starEach [a, b] X.env = [(false, eval a X.env), (false, eval b X.env)] := by rfl) (hs2 : starEach [b] X.env = [(false, eval b X.env)] := by rfl) : DI X tg (.Call (.Name "range" p) [a, b] [] pos) (wiR2 wr) :=
  let ⟨_, p, q⟩ := ha; ⟨_, pi_range2 hg hm p hs hs2, fun Z H σ env Q R g hw k => by
    refine q Z H σ env _ _ g hw fun vs H1 Z1 ds env1 st1 g1 bk h1 => ?_
    split at h1
    · have rs := g1.vals
      cases rs with
      | cons r rs => cases rs with
        | cons r' rs => cases rs; cases r with
          | sh r =>
            cases r
            cases r' with
            | sh r' =>
              cases r'
              exact ⟨_, _, rfl, h1.1, k _ H1 Z1 _ env1 (st1.less fun x m => List.mem_append_right _ m) g1.base (itr_ok _ _) h1.2⟩
    · exact h1.elim⟩
end
/-! ### comprehensions -/
def wipeE (env : Env) : List Nat → Env
  | [] => env
  | v :: vs => (wipeE env vs).set v none
def wLcL (g : WG) (wt : WT) (we : WE) (vs : List Nat) : List SD → List OD → Env → (List OD → Env → Prop) → Prop
  | [], acc, env, k => k acc env
  | d :: ds, acc, env, k => g d env fun env2 => wt env2 fun b env3 => if b = true then we env3 fun y env4 => wLcL g wt we vs ds (acc ++ [y]) (wipeE env4 vs) k else wLcL g wt we vs ds acc (wipeE env3 vs) k
def wLc (wi : WI) (g : WG) (wt : WT) (we : WE) (vs : List Nat) : WE := fun env Q => wi env fun items env1 => items.length ≤ sizeLine ∧ wLcL g wt we vs items [] (wipeE env1 vs) fun ys env' => ∀ p, Q (.lst p ys) env'
section
variable {K : PySem.W.Frag} {Z Z' H H' : Hp} {σ σ' : L2.St} {env env' : Env} {us ws : List V} {ds xs ys os : List OD} {v : V} {d x y : OD}
theorem Slots.wipe (s : Slots K Z H σ env) : ∀ vs : List Nat, Slots K Z H (L2.wipe σ vs) (wipeE env vs)
  | [] => s
  | v :: vs => Slots.drop v (Slots.wipe s vs)
theorem Slots.unwipe : ∀ (vs : List Nat) {env : Env}, Slots K Z H (L2.wipe σ vs) env → Slots K Z H σ env := by
  intro vs
  have gen : ∀ {σ τ : L2.St} {env : Env}, Slots K Z H τ env → σ.length = τ.length → (∀ (i : Nat) (v : V), τ[i]? = some (some v) → σ[i]? = some (some v)) → Slots K Z H σ env := by
    intro σ τ env s
    induction s generalizing σ with
    | nil => intro l _; cases σ with
      | nil => exact .nil
      | cons _ _ => simp at l
    | any s ih => intro l h; cases σ with
      | nil => simp at l
      | cons o σ => exact .any (ih (by simpa using l) fun i v e => by simpa using h (i + 1) v (by simpa using e))
    | @cons v0 d0 σ0 env0 r s ih => intro l h; cases σ with
      | nil => simp at l
      | cons o σ =>
        have e0 : o = some v0 := by simpa using h 0 v0 rfl
        subst e0
        exact .cons r (ih (by simpa using l) fun i v e => by simpa using h (i + 1) v (by simpa using e))
  intro env s
  exact gen s (L2.wipe_length σ vs).symm fun i v e => (L2.wipe_some e).1
theorem fpE_wipe_sub : ∀ (vs : List Nat) {env : Env}, (fpE (wipeE env vs)).Sublist (fpE env)
  | [], _ => List.Sublist.refl _
  | v :: vs, env => fpE_set_none_sub.trans (fpE_wipe_sub vs)
theorem Good.sub {env' : Env} (g : Good K Z H σ env us ds) (s : Slots K Z H σ' env') (h : (fpE env').Sublist (fpE env)) : Good K Z H σ' env' us ds := by
  have n := List.nodup_append.mp g.nd
  exact ⟨g.same, s, g.vals, List.nodup_append.mpr ⟨n.1, n.2.1.sublist h, fun x hx y hy => n.2.2 x hx y (h.subset hy)⟩, fun a m => (List.mem_append.mp m).elim (fun q => g.free a (List.mem_append_left _ q)) fun q => g.free a (List.mem_append_right _ (h.subset q))⟩
theorem Good.wipe (g : Good K Z H σ env us ds) (vs : List Nat) : Good K Z H (L2.wipe σ vs) (wipeE env vs) us ds := g.sub (g.slots.wipe vs) (fpE_wipe_sub vs)
/-- the list at hand takes an item in -/
theorem Good.push {D : Addr} {acc : List OD} (g : Good K Z H σ env (.ref D :: v :: us) (.lst D acc :: d :: ds)) :
    ∃ as, H D = some (.lst as) ∧ as.length = acc.length ∧ Good K Z (upd H D (.lst (as ++ [v]))) σ env (.ref D :: us) (.lst D (acc ++ [d]) :: ds) ∧ Step Z H (fps (.lst D acc :: d :: ds) ++ fpE env) Z (upd H D (.lst (as ++ [v]))) (fps (.lst D (acc ++ [d]) :: ds) ++ fpE env) := by
  have rs := g.vals
  cases rs with
  | cons r rs =>
    cases rs with
    | cons r' rs =>
      cases r with
      | lst h ra =>
        have nd := g.nd
        simp only [fps, fp, List.cons_append, List.append_assoc] at nd
        have n0 := List.nodup_cons.mp nd
        have nD : ∀ a ∈ fps acc ++ (fp d ++ (fps ds ++ fpE env)), a ≠ D := fun a m e => n0.1 (e ▸ m)
        have kp : ∀ o', ∀ a, a ≠ D → ∀ o, H a = some o → upd H D o' a = some o := fun o' a n o e => by rw [upd_ne n]; exact e
        have eqs : fps (.lst D (acc ++ [d]) :: ds) ++ fpE env = D :: (fps acc ++ (fp d ++ (fps ds ++ fpE env))) := by
          simp only [fps, fp, fps_append, List.cons_append, List.append_assoc, List.append_nil, List.nil_append]
        have eqs0 : fps (.lst D acc :: d :: ds) ++ fpE env = D :: (fps acc ++ (fp d ++ (fps ds ++ fpE env))) := by
          simp only [fps, fp, List.cons_append, List.append_assoc]
        have zD : Z D = none := g.free D (by rw [eqs0]; exact List.mem_cons_self)
        have sm : ∀ a o, Z a = some o → a ≠ D := fun a o e q => by rw [q, zD] at e; cases e
        refine ⟨_, h, ra.length, ⟨fun a o e => kp _ a (sm a o e) o (g.same a o e), g.slots.mono (Same.refl Z) fun a m => kp _ a (nD a (by simp [m])), .cons (.lst upd_same ((ra.mono (Same.refl Z) fun a m => kp _ a (nD a (by simp [m]))).append (.cons (r'.mono (Same.refl Z) fun a m => kp _ a (nD a (by simp [m]))) .nil))) (rs.mono (Same.refl Z) fun a m => kp _ a (nD a (by simp [m]))), ?_, fun a m => ?_⟩, ?_⟩
        · rw [eqs]; exact nd
        · rw [eqs] at m; exact g.free a (by rw [eqs0]; exact m)
        · rw [eqs, eqs0]
          refine ⟨fun a o e n => kp _ a (fun q => n (by rw [q]; exact List.mem_cons_self)) o e, fun a o e => ?_, Same.refl _, fun a o e => .inl ⟨o, e⟩, fun a m => .inr m⟩
          by_cases q : a = D
          · exact ⟨_, by rw [q]; exact upd_same⟩
          · exact ⟨o, kp _ a q o e⟩
end
theorem wipe_get {σ : L2.St} {i : Nat} : ∀ {vs : List Nat}, (L2.wipe σ vs)[i]? = if i ∈ vs then σ[i]?.map (fun _ => none) else σ[i]?
  | [] => by simp [L2.wipe]
  | v :: vs => by
    unfold L2.wipe
    by_cases h : v = i
    · subst h
      rw [if_pos List.mem_cons_self]
      by_cases hl : v < σ.length
      · rw [List.getElem?_set_self (by rw [L2.wipe_length]; exact hl), List.getElem?_eq_getElem hl]
        rfl
      · rw [List.getElem?_eq_none (by rw [List.length_set, L2.wipe_length]; omega), List.getElem?_eq_none (by omega)]
        rfl
    · rw [List.getElem?_set_ne h, wipe_get (vs := vs)]
      by_cases q : i ∈ vs
      · rw [if_pos q, if_pos (List.mem_cons_of_mem _ q)]
      · rw [if_neg q, if_neg (by simp only [List.mem_cons, not_or]; exact ⟨fun e => h e.symm, q⟩)]
theorem wipe_set {σ : L2.St} {j : Nat} {o : Option V} {vs : List Nat} (h : j ∈ vs) : L2.wipe ((L2.wipe σ vs).set j o) vs = L2.wipe σ vs := by
  apply List.ext_getElem?
  intro i
  rw [wipe_get, wipe_get]
  by_cases q : i ∈ vs
  · rw [if_pos q, if_pos q]
    by_cases hl : i < σ.length
    · rw [List.getElem?_eq_getElem (by rw [List.length_set, L2.wipe_length]; exact hl), List.getElem?_eq_getElem hl]
      rfl
    · rw [List.getElem?_eq_none (by rw [List.length_set, L2.wipe_length]; omega), List.getElem?_eq_none (by omega)]
  · rw [if_neg q, if_neg q, List.getElem?_set_ne (fun (e : j = i) => q (by rw [← e]; exact h)), wipe_get, if_neg q]
/-- a target that stores the block's own names alone -/
def TGw (g : TG) (vs : List Nat) : Prop := ∀ (v : V) (σ : L2.St) (H : Hp) (P Q : L2.St → Hp → Prop), L2.wipe σ vs = σ → g v σ H P → (∀ σ2 H2, L2.wipe σ2 vs = σ → P σ2 H2 → Q σ2 H2) → g v σ H Q
theorem tgw_n {j : Nat} {vs : List Nat} (h : j ∈ vs) : TGw (gName j) vs := fun v σ H P Q e p k => k _ H (by rw [← e, wipe_set h]) p
theorem sim_lc {K : PySem.W.Frag} {ti : TI} {wi : WI} {g : TG} {wg : WG} {tt : TT} {wt : WT} {te : TE} {we : WE} {vs : List Nat} (hi : SimI K ti wi) (hg : SimG K g wg) (hw : TGw g vs) (ht : SimT K tt wt) (he : SimE K te we) : SimE K (tLc ti g tt te vs) (wLc wi wg wt we vs) := fun Z H σ env Q P gd hq k => by
  refine hi Z H σ env _ _ gd hq fun J H1 Z1 items env1 st1 g1 it h1 => ?_
  intro D hD
  obtain ⟨hsz, h1⟩ := h1
  obtain ⟨g2, st2⟩ := (g1.wipe vs).newList hD
  have st12 : Step Z1 H1 (fpE env1) Z1 (upd H1 D (.lst [])) (fps [.lst D []] ++ fpE (wipeE env1 vs)) := st2.more fun x m => (fpE_wipe_sub vs).subset (by simpa [fps] using m)
  have ww : L2.wipe (L2.wipe σ vs) vs = L2.wipe σ vs := by
    apply List.ext_getElem?
    intro i
    rw [wipe_get, wipe_get]
    by_cases q : i ∈ vs
    · rw [if_pos q, if_pos q]
      cases σ[i]? <;> rfl
    · rw [if_neg q, if_neg q]
  refine ⟨fun i m H' => m = items.length - i ∧ i ≤ items.length ∧ ∃ Z' env' acc, acc.length ≤ i ∧ Good K Z' H' (L2.wipe σ vs) env' [.ref D] [.lst D acc] ∧ Step Z1 H1 (fpE env1) Z' H' (fps [.lst D acc] ++ fpE env') ∧
    wLcL wg wt we vs (items.drop i) acc env' fun ys env' => ∀ p, Q (.lst p ys) env', ⟨items.length, by simp, Nat.zero_le _, Z1, _, [], Nat.le_refl _, g2, st12, by simpa using h1⟩, ?_⟩
  rintro i m H' ⟨rfl, hle, Z', env', acc, hacc, g', st', w'⟩
  obtain ⟨hgo, hstop⟩ := it Z' H' st'.ext g'.same
  by_cases hlt : i < items.length
  · obtain ⟨h2, h3⟩ := hgo i items[i] (by simp [hlt])
    rw [List.drop_eq_getElem_cons hlt] at w'
    refine .inr ⟨h2, fun H3 => ∃ Z3 env3 acc3, acc3.length ≤ i + 1 ∧ Good K Z3 H3 (L2.wipe σ vs) env3 [.ref D] [.lst D acc3] ∧ Step Z1 H1 (fpE env1) Z3 H3 (fps [.lst D acc3] ++ fpE env3) ∧
      wLcL wg wt we vs (items.drop (i + 1)) acc3 env3 fun ys env' => ∀ p, Q (.lst p ys) env', fun H3 ⟨Z3, env3, acc3, l3, g3, s3, w3⟩ => ⟨items.length - (i + 1), by omega, rfl, hlt, Z3, env3, acc3, l3, g3, s3, w3⟩, fun x H2 y => ?_⟩
    obtain ⟨Z2, st3, sm2, r2⟩ := h3 x H2 y
    obtain ⟨g3, st3'⟩ := Good.around (σ := L2.wipe σ vs) (env := env') (us := []) (xs := []) (Good.base g') (show Step Z' H' (fps []) Z2 H2 (fps []) from st3) ⟨sm2, .nil, .nil, by simp [fps, fpE], fun a m => by simp [fps, fpE] at m⟩
    have st3' : Step Z' H' (fpE env') Z2 H2 (fpE env') := by simpa [fps] using st3'
    have g3' : Good K Z2 H2 (L2.wipe σ vs) env' [.ref D] [.lst D acc] := by simpa using Good.beside (vs' := []) (ds' := []) g' (by simpa [fps] using st3') g3
    refine hw _ _ _ (fun σ2 H2' => H2' = H2 ∧ ∃ env4, Good K Z2 H2 σ2 env4 [] [] ∧ Step Z2 H2 (fpE env') Z2 H2 (fpE env4) ∧ wt env4 fun b env5 => if b = true then we env5 fun y env6 => wLcL wg wt we vs (items.drop (i + 1)) (acc ++ [y]) (wipeE env6 vs) fun ys env' => ∀ p, Q (.lst p ys) env' else wLcL wg wt we vs (items.drop (i + 1)) acc (wipeE env5 vs) fun ys env' => ∀ p, Q (.lst p ys) env') _ ww
      (hg Z2 H2 _ env' x _ _ _ g3 r2 w' fun σ4 env4 g4 st4 hw4 => ⟨rfl, env4, g4, st4, hw4⟩) fun σ2 H2' e2 ⟨eH, env4, g4, st4, w4⟩ => ⟨e2, ?_⟩
    subst eH
    have h4 : Good K Z2 H2' σ2 env4 [.ref D] [.lst D acc] := by simpa using Good.beside (vs' := []) (ds' := []) g3' (by simpa [fps] using st4) g4
    have S4 : Step Z1 H1 (fpE env1) Z2 H2' (fps [.lst D acc] ++ fpE env4) := (st'.trans (st3'.frame _)).trans (st4.frame _)
    refine ht Z2 H2' σ2 env4 _ _ g4 w4 fun b H5 Z5 env5 st5 g5 w5 => ?_
    have h5 : Good K Z5 H5 σ2 env5 [.ref D] [.lst D acc] := by simpa using Good.beside (vs' := []) (ds' := []) h4 (by simpa [fps] using st5) g5
    have S5 : Step Z1 H1 (fpE env1) Z5 H5 (fps [.lst D acc] ++ fpE env5) := S4.trans (st5.frame _)
    cases b with
    | true =>
      refine he Z5 H5 σ2 env5 _ _ g5 w5 fun y H6 Z6 d6 env6 st6 g6 w6 => ?_
      obtain ⟨h6, S6⟩ := h5.cons st6 g6
      obtain ⟨as, hD6, la, h7, S7⟩ := h6.push
      refine ⟨as, hD6, by omega, Z6, wipeE env6 vs, acc ++ [d6], by simp; omega, ?_, ?_, w6⟩
      · have := h7.wipe vs
        rw [e2] at this
        exact this
      · exact ((S5.trans S6).trans S7).less fun x m => by
          rcases List.mem_append.mp m with q | q
          · exact List.mem_append_left _ q
          · exact List.mem_append_right _ ((fpE_wipe_sub vs).subset q)
    | false =>
      refine ⟨Z5, wipeE env5 vs, acc, by omega, ?_, S5.less fun x m => ?_, w5⟩
      · have := h5.wipe vs
        rw [e2] at this
        exact this
      · rcases List.mem_append.mp m with q | q
        · exact List.mem_append_left _ q
        · exact List.mem_append_right _ ((fpE_wipe_sub vs).subset q)
  · have e : i = items.length := by omega
    subst e
    rw [List.drop_length] at w'
    exact .inl ⟨hstop, k (.ref D) H' Z' _ env' (st1.trans st') (g'.sub (Slots.unwipe vs g'.slots) (List.Sublist.refl _)) (w' D)⟩
def wYes : WT := fun env Q => Q true env
theorem sim_yes {K : PySem.W.Frag} : SimT K tYes wYes := fun Z H σ env Q P g hw k => k true H Z env Step.refl g hw
def DTs (X : Cx) (ifs : List Expr) (wt : WT) : Prop := ∃ tt, PTs X ifs tt ∧ SimT X.K tt wt
theorem dts_nil {X : Cx} : DTs X [] wYes := ⟨_, pts_nil, sim_yes⟩
theorem dts_one {X : Cx} {c : Expr} {wt : WT} (h : DT X c wt) : DTs X [c] wt := let ⟨_, p, q⟩ := h; ⟨_, pts_one p, q⟩
/-- the one transformer that a reading over trees stands for -/
def canE (K : PySem.W.Frag) (we : WE) : TE := fun σ H P => ∃ Z env Q, Good K Z H σ env [] [] ∧ we env Q ∧ ∀ v H' Z' d env', Step Z H (fpE env) Z' H' (fps [d] ++ fpE env') → Good K Z' H' σ env' [v] [d] → Q d env' → P v H'
def canT (K : PySem.W.Frag) (wt : WT) : TT := fun σ H P => ∃ Z env Q, Good K Z H σ env [] [] ∧ wt env Q ∧ ∀ b H' Z' env', Step Z H (fpE env) Z' H' (fpE env') → Good K Z' H' σ env' [] [] → Q b env' → P b H'
theorem canE_sim {K : PySem.W.Frag} {we : WE} : SimE K (canE K we) we := fun Z H σ env Q P g hw k => ⟨Z, env, Q, g, hw, k⟩
theorem canT_sim {K : PySem.W.Frag} {wt : WT} : SimT K (canT K wt) wt := fun Z H σ env Q P g hw k => ⟨Z, env, Q, g, hw, k⟩
theorem DE.can {X : Cx} {e : Expr} {we : WE} (h : DE X e we) : PE X e (canE X.K we) := let ⟨te, p, q⟩ := h; ⟨fun pins s σ H P I ⟨Z, env, Q, g, hw, k⟩ => p.run pins s σ H P I (q Z H σ env Q P g hw k)⟩
theorem DTs.can {X : Cx} {ifs : List Expr} {wt : WT} (h : DTs X ifs wt) : PTs X ifs (canT X.K wt) := let ⟨te, p, q⟩ := h; ⟨fun pins s σ H P I ⟨Z, env, Q, g, hw, k⟩ => p.run pins s σ H P I (q Z H σ env Q P g hw k)⟩
section
variable {X : Cx} {elt tg iter : Expr} {ifs : List Expr} {scope : Scope} {pos : Pos} {wi : WI} {wt : WT} {we : WE}
theorem de_lc {j : Nat} {x : Str} {own : List (Str × Nat)} {tpos : Pos} (hc : X.calm = true) (hN : X.N.Nodup) (hi : DI X (.Name x tpos) iter wi) (ok : BlkOk X.N X.env.scope scope own) (hg : ∀ (s : Shared) (H : Hp) (C : Addr) (cl : List (Str × Addr)) (fp : List Addr), PG (X.blk s H scope (compEnvC scope cl C X.env) fp) (.Name x tpos) (gName j)) (hjv : j ∈ own.map (·.2))
    (ht : ∀ (s : Shared) (H : Hp) (C : Addr) (cl : List (Str × Addr)) (fp : List Addr), DTs (X.blk s H scope (compEnvC scope cl C X.env) fp) ifs wt)
    (he : ∀ (s : Shared) (H : Hp) (C : Addr) (cl : List (Str × Addr)) (fp : List Addr), DE (X.blk s H scope (compEnvC scope cl C X.env) fp) elt we) (hs : ∀ x, foldedSetIterable iter X.env x = pure x := by intro _; rfl) :
    DE X (.ListComp elt [⟨.Name x tpos, iter, ifs, 0⟩] scope pos) (wLc wi (wgName j) wt we (own.map (·.2))) :=
  let ⟨_, p1, q1⟩ := hi
  ⟨_, pe_lc hc hN p1 ok hg (fun s H C cl fp => (ht s H C cl fp).can) (fun s H C cl fp => (he s H C cl fp).can) hs, sim_lc q1 (sim_gn j) (tgw_n hjv) canT_sim canE_sim⟩
theorem ds_setLc {i j : Nat} {x y : Str} {py spos : Pos} {own : List (Str × Nat)} {tpos : Pos} (hc : X.calm = true) (hN : X.N.Nodup) (hy : X.N[i]? = some y) (hyl : X.env.scope.names.lookup y = some .local)
    (hsw : swapsWith (.ListComp elt [⟨.Name x tpos, iter, ifs, 0⟩] scope pos) (some (.Name y py)) spos.line X.env = pure true) (hi : DI X (.Name x tpos) iter wi) (ok : BlkOk X.N X.env.scope scope own) (hg : ∀ (s : Shared) (H : Hp) (C : Addr) (cl : List (Str × Addr)) (fp : List Addr), PG (X.blk s H scope (compEnvC scope cl C X.env) fp) (.Name x tpos) (gName j)) (hjv : j ∈ own.map (·.2))
    (ht : ∀ (s : Shared) (H : Hp) (C : Addr) (cl : List (Str × Addr)) (fp : List Addr), DTs (X.blk s H scope (compEnvC scope cl C X.env) fp) ifs wt)
    (he : ∀ (s : Shared) (H : Hp) (C : Addr) (cl : List (Str × Addr)) (fp : List Addr), DE (X.blk s H scope (compEnvC scope cl C X.env) fp) elt we) (hs : ∀ x, foldedSetIterable iter X.env x = pure x := by intro _; rfl) :
    DS X (.Assign [.Name y py] (.ListComp elt [⟨.Name x tpos, iter, ifs, 0⟩] scope pos) spos) (wSet i (wLc wi (wgName j) wt we (own.map (·.2)))) :=
  let ⟨_, p1, q1⟩ := hi
  ⟨_, ps_setLc hc hN hy hyl hsw p1 ok hg (fun s H C cl fp => (ht s H C cl fp).can) (fun s H C cl fp => (he s H C cl fp).can) hs, sim_set i (sim_lc q1 (sim_gn j) (tgw_n hjv) canT_sim canE_sim)⟩
end
/-! ### a def -/
/-- what is told of the arguments that were lent -/
def outsR : List Bool → List OD → Env → (List OD → Prop) → Prop
  | [], ds, _, k => k ds
  | _ :: _, [], _, k => k []
  | false :: ms, d :: ds, _ :: env, k => outsR ms ds env fun os => k (d :: os)
  | true :: ms, d :: ds, some o :: env, k => (root o = root d ∧ isRoot d = true) ∧ outsR ms ds env fun os => k (o :: os)
  | _, _, _, _ => False
section
variable {K : PySem.W.Frag} {Z Z' H H' : Hp} {σ σ' : L2.St} {env env' : Env} {us ws : List V} {ds xs ys os : List OD} {v : V} {d x y : OD}
/-- lent places: the callee's slots hold what is told; those that were not lent hold nothing owned -/
def lentOk : List Bool → List OD → Prop
  | [], ds => fps ds = []
  | false :: ms, d :: ds => fp d = [] ∧ lentOk ms ds
  | true :: ms, d :: ds => lentOk ms ds
  | _ :: _, [] => True
theorem outs_rep {v0 : V} : ∀ (ms : List Bool) {ds : List OD} {vs : List V} {σ : L2.St} {env : Env} {k : List OD → Prop}, RepOs K Z H vs ds → Same Z Z' → lentOk ms ds → Slots K Z' H' σ env → outsR ms ds env k → (∀ (i : Nat) (v : V), σ[i]? = some (some v) → True) →
    ∃ os, k os ∧ RepOs K Z' H' vs os ∧ (fps os).Sublist (fpE env)
  | [], ds, vs, σ, env, k, r, e, l, s, h, _ => ⟨ds, h, r.mono e (fun a m => by rw [show fps ds = [] from l] at m; cases m), by rw [show fps ds = [] from l]; exact List.nil_sublist _⟩
  | _ :: _, [], vs, σ, env, k, r, e, l, s, h, _ => by
    cases r
    unfold outsR at h
    exact ⟨[], h, .nil, List.nil_sublist _⟩
  | false :: ms, d :: ds, _, σ, o :: env, k, .cons r rs, e, l, s, h, q => by
    have s' : ∃ σ', Slots K Z' H' σ' env := by cases s with
      | any s => exact ⟨_, s⟩
      | cons _ s => exact ⟨_, s⟩
    obtain ⟨σ', s'⟩ := s'
    obtain ⟨os, h1, h2, h3⟩ := outs_rep (v0 := v0) ms rs e l.2 s' h (fun _ _ _ => trivial)
    exact ⟨d :: os, h1, .cons (r.mono e fun a m => by rw [l.1] at m; cases m) h2, by simp only [fps, l.1, List.nil_append, fpE]; exact h3.trans (List.sublist_append_right _ _)⟩
  | true :: ms, d :: ds, _, some _ :: σ, some o :: env, k, .cons r rs, e, l, .cons ro s, h, q => by
    obtain ⟨⟨h0, hr⟩, h⟩ := h
    obtain ⟨os, h1, h2, h3⟩ := outs_rep (v0 := v0) ms rs e l s h (fun _ _ _ => trivial)
    cases rd : root d with
    | none => rw [isRoot, rd] at hr; cases hr
    | some a =>
      have e1 := root_rep rd r
      have e2 := root_rep (h0.trans rd) ro
      refine ⟨o :: os, h1, .cons (by rw [e1, ← e2]; exact ro) h2, ?_⟩
      simp only [fps, fpE, fpo]
      exact (List.Sublist.refl _).append h3
  | false :: ms, d :: ds, _, _, [], k, _, _, _, _, h, _ => by unfold outsR at h; exact h.elim
  | true :: ms, d :: ds, _, _, [], k, _, _, _, _, h, _ => by unfold outsR at h; exact h.elim
  | true :: ms, d :: ds, _, _, none :: env, k, _, _, _, _, h, _ => by unfold outsR at h; exact h.elim
theorem Slots.start : ∀ {vs : List V} {ds : List OD} (n : Nat), RepOs K Z H vs ds → Slots K Z H (vs.map some ++ List.replicate n none) (ds.map some ++ List.replicate n none)
  | _, _, 0, .nil => .nil
  | _, _, n + 1, .nil => .any (Slots.start n .nil)
  | _, _, n, .cons r rs => .cons r (Slots.start n rs)
theorem fpE_start : ∀ (ds : List OD) (n : Nat), fpE (ds.map some ++ List.replicate n none) = fps ds
  | [], 0 => rfl
  | [], n + 1 => by simp only [List.map_nil, List.nil_append, List.replicate_succ, fpE, fpo]; exact fpE_start [] n
  | d :: ds, n => by simp only [List.map_cons, List.cons_append, fpE, fpo, fps, fpE_start ds n]
end
/-- the env at a def's start -/
def startE (n : Nat) (ds : List OD) : Env := ds.map some ++ List.replicate (n - ds.length) none
/-- what the ends of a body are to give -/
def endsOf (ms : List Bool) (ds : List OD) (k : OD → List OD → Prop) : QE := { nx := fun env => outsR ms ds env (k (.sh .non)), rt := fun d env => outsR ms ds env (k d) }
/-- the same def as it is called: its level, how many arguments, its promise -/
structure Cal (P : Program) (w : World) (K : PySem.W.Frag) (mg : Str → Option Value) (base : Heap) (x : Str) (k n : Nat) (φ : Spec) : Prop where
  ex : ∃ f fd ps, FnOk P w K mg base CX0 k f fd ps (spOf K n φ) ∧ mg x = some (.ref f) ∧ PySem.W.keepIn K (.ref f) = true ∧ Binds K fd ps []
theorem fn_ok {P : Program} {w : World} {K : PySem.W.Frag} {mg : Str → Option Value} {base : Heap} {x qual : Str} {params : Arguments} {stmts : List Stmt} {scope : Scope} {dvs : List V} {kws : List (Str × V)} {f : Addr} {fd : FuncData} {N ps : List Str} {k n : Nat} {φ : Spec} {ws : WS} (ms : List Bool) (F : FunD K x qual params stmts scope dvs kws f fd) (S : FnScope N ps scope) (hn : ps.length = n)
    (body : ∀ (cdv : Value) (A : Around) (outer : List PySem.Env) (s : Shared) (H : Hp) (E : XK), Room k (A.deeper (envOfC qual scope s.heap.objs.size f cdv)) → DSs (cxOf CX0 P w K mg base N qual scope f cdv A outer s H E).nox stmts ws)
    (h : ∀ ds κ, φ ds κ → lentOk ms ds ∧ ws (endsOf ms ds κ) (startE N.length ds)) : FnOk P w K mg base CX0 (k + 1) f fd ps (spOf K n φ) := by
  refine F.ok S (fun vs H Q E hsp => ?_) (fun cdv A outer s H vs Q E hr hsp => ?_)
  · rw [hn]; exact hsp.1
  · obtain ⟨hl, Z, ds, κ, g, hφ, hq⟩ := hsp
    obtain ⟨hlent, hw⟩ := h ds κ hφ
    obtain ⟨ts, p, q⟩ := body cdv A outer s H E hr
    refine ⟨ts, PSs.nox p, ?_⟩
    have eqs : fpE (startE N.length ds) = fps ds := fpE_start ds _
    have g0 : Good K Z H (L2.start N vs) (startE N.length ds) [] [] := by
      refine ⟨g.same, ?_, .nil, ?_, fun a m => ?_⟩
      · unfold L2.start startE
        rw [g.vals.length]
        exact Slots.start _ g.vals
      · rw [eqs]; simpa [fps, fpE] using g.nd
      · rw [eqs] at m; exact g.free a (by simpa [fps, fpE] using m)
    have fin : ∀ (v : V) (σ' : L2.St) (H' Z' : Hp) (d : OD) (env' : Env), Step Z H (fps ds) Z' H' (fps [d] ++ fpE env') → Good K Z' H' σ' env' [v] [d] → outsR ms ds env' (κ d) → Q v H' := fun v σ' H' Z' d env' s' g' ho => by
      obtain ⟨os, h1, h2, h3⟩ := outs_rep (v0 := v) ms g.vals s'.ext hlent g'.slots ho (fun _ _ _ => trivial)
      have rs := g'.vals
      cases rs with
      | cons r _ =>
        have n1 := List.nodup_append.mp g'.nd
        have sub : ∀ a ∈ fps (d :: os), a ∈ fps [d] ++ fpE env' := fun a m => by
          simp only [fps, List.append_nil, List.mem_append] at m ⊢
          exact m.imp id fun z => h3.subset z
        refine hq d os h1 v Z' H' (s'.less sub) ⟨g'.same, .nil, .cons r h2, ?_, fun a m => g'.free a (sub a (by simpa [fpE] using m))⟩
        simp only [fpE, List.append_nil]
        have e0 : fps [d] = fp d := by simp [fps]
        rw [e0] at n1
        exact List.nodup_append.mpr ⟨n1.1, n1.2.1.sublist h3, fun a ha b hb => n1.2.2 a ha b (h3.subset hb)⟩
    refine q Z H _ _ (endsOf ms ds κ) _ g0 hw ⟨fun σ' H' Z' env' s' g' ho => ?_, fun v σ' H' Z' d env' s' g' ho => ?_, fun σ' H' Z' env' s' g' ho => ho.elim, fun σ' H' Z' env' s' g' ho => ho.elim⟩
    · rw [eqs] at s'
      exact fin .non σ' H' Z' (.sh .non) env' (by simpa [fps, fp] using s') (g'.result .non) ho
    · rw [eqs] at s'
      exact fin v σ' H' Z' d env' s' g' ho
theorem cal_mk {P : Program} {w : World} {K : PySem.W.Frag} {mg : Str → Option Value} {base : Heap} {x : Str} {params : Arguments} {stmts : List Stmt} {scope : Scope} {f : Addr} {fd : FuncData} {N ps : List Str} {k n : Nat} {φ : Spec} {ws : WS} (ms : List Bool) (F : FunD K x x params stmts scope [] [] f fd) (S : FnScope N ps scope) (hn : ps.length = n)
    (body : ∀ (cdv : Value) (A : Around) (outer : List PySem.Env) (s : Shared) (H : Hp) (E : XK), Room k (A.deeper (envOfC x scope s.heap.objs.size f cdv)) → DSs (cxOf CX0 P w K mg base N x scope f cdv A outer s H E).nox stmts ws)
    (h : ∀ ds κ, φ ds κ → lentOk ms ds ∧ ws (endsOf ms ds κ) (startE N.length ds)) (hm : mg x = some (.ref f))
    (hb : ∀ (kV doc pm : Value) (an : Option Addr) (cdv ct : Value) (us : List Value), us.length = ps.length → bindArgs (PySem.W.fnOf x x params stmts scope .none kV doc pm an cdv ct) ⟨us, []⟩ = pure (ps.zip us)) : Cal P w K mg base x (k + 1) n φ :=
  ⟨f, fd, ps, fn_ok ms F S hn body h, hm, F.kp, F.bindsN hb⟩
section
variable {X : Cx} {e : Expr} {es : List Expr} {wr : WA} {bk : List (Option Nat)} {pos p : Pos}
/-- f(..) -/
theorem de_fn {x : Str} {k n : Nat} {φ : Spec} (ms : List Bool) (c : Cal X.prog X.w X.K X.mg X.base x k n φ) (hr : Room k X.A) (ha : DA X (e :: es) bk wr) (hx : Passes CX0 X E0 := by exact pass0) (hn : bk.length = n := by rfl) (hg : Gl X x := by rfl) (hdb : (x == ("__debug__" : Str)) = false := by decide)
    (he : starEach (e :: es) X.env = (false, eval e X.env) :: starEach es X.env := by rfl) (hpl : (backTo pos (starEach es X.env)).any (·.1) = false := by rfl) : DE X (.Call (.Name x p) (e :: es) [] pos) (wCall φ ms [] bk wr) :=
  let ⟨_, _, _, F, hm, hk, hb⟩ := c.ex
  de_call ms F hr hm hk hb hx ha .nil (fun _ => .nil) (by rw [hn]; rfl) hg hdb he hpl
end
end E8
/-! Operators, built-ins and stores over trees. -/
namespace E8
open PySem PySem.Spec PyProof.Rows L2

section
variable {K : PySem.W.Frag} {Z Z' H H' : Hp} {σ σ' : L2.St} {env env' : Env} {us ws vs : List V} {ds xs ys os : List OD} {v : V} {d x y : OD}
/-- a new list of shared things -/
theorem Good.fresh {ss : List SD} {p : Addr} (g : Good K Z H σ env us xs) (r : RepSs K Z vs ss) (hp : H p = none) :
    Good K Z (upd H p (.lst vs)) σ env [.ref p] [.lst p (ss.map .sh)] ∧ Step Z H (fps xs ++ fpE env) Z (upd H p (.lst vs)) (fps [.lst p (ss.map .sh)] ++ fpE env) := by
  have g1 : Good K Z H σ env vs (ss.map .sh) := g.mk' r.mapO (by simp [fps_sh]) (by simp [fps_sh])
  obtain ⟨g2, st⟩ := g1.newList hp
  refine ⟨g2, st.more fun a m => ?_⟩
  rw [fps_sh] at m
  exact List.mem_append_right _ (by simpa using m)
theorem Good.freshT {ss : List SD} {p : Addr} (g : Good K Z H σ env us xs) (r : RepSs K Z vs ss) (hp : H p = none) :
    Good K (upd Z p (.tup vs)) (upd H p (.tup vs)) σ env [.ref p] [.sh (.tup ss)] ∧ Step Z H (fps xs ++ fpE env) (upd Z p (.tup vs)) (upd H p (.tup vs)) (fps [.sh (.tup ss)] ++ fpE env) := by
  have g1 : Good K Z H σ env vs (ss.map .sh) := g.mk' r.mapO (by simp [fps_sh]) (by simp [fps_sh])
  obtain ⟨g2, st⟩ := g1.newTup r hp
  refine ⟨g2, st.more fun a m => ?_⟩
  rw [fps_sh] at m
  exact List.mem_append_right _ (by simpa using m)
end

/-! ### + -/
def lstKids : OD → Option (List OD)
  | .sh (.lst xs) => some (xs.map .sh)
  | .lst _ xs => some xs
  | _ => none
def wCat (x y : OD) (k : OD → Prop) : Prop := match lstKids x, lstKids y with
  | some xs, some ys => xs.length + ys.length ≤ sizeLine ∧ ∀ p, k (.lst p (xs ++ ys))
  | _, _ => False
def wCatT (x y : OD) (k : OD → Prop) : Prop := match x, y with
  | .sh (.tup xs), .sh (.tup ys) => xs.length + ys.length ≤ sizeLine ∧ k (.sh (.tup (xs ++ ys)))
  | _, _ => False
def wStrCat (x y : OD) (k : OD → Prop) : Prop := match x, y with
  | .sh (.str a), .sh (.str b) => a.length + b.length ≤ sizeLine ∧ k (.sh (.str (a ++ b)))
  | _, _ => False
def wAdd (x y : OD) (k : OD → Prop) : Prop := match x, y with
  | .sh (.int i), .sh (.int j) => k (.sh (.int (i + j)))
  | .sh (.str a), .sh (.str b) => a.length + b.length ≤ sizeLine ∧ k (.sh (.str (a ++ b)))
  | .sh (.tup xs), .sh (.tup ys) => xs.length + ys.length ≤ sizeLine ∧ k (.sh (.tup (xs ++ ys)))
  | x, y => wCat x y k
section
variable {K : PySem.W.Frag} {Z H : Hp} {v : V} {d : OD}
theorem lstKids_rep {xs : List OD} (s : Same Z H) (h : lstKids d = some xs) (r : RepO K Z H v d) : ∃ a vs, v = .ref a ∧ H a = some (.lst vs) ∧ RepOs K Z H vs xs ∧ ∀ b ∈ fps xs, b ∈ fp d := by
  unfold lstKids at h
  split at h
  · cases h
    cases r with
    | sh r => cases r with
      | lst h r => exact ⟨_, _, rfl, s _ _ h, r.mapO, fun b m => by rw [fps_sh] at m; cases m⟩
  · cases h
    cases r with
    | lst h r => exact ⟨_, _, rfl, h, r, fun b m => by simp [fp, m]⟩
  · cases h
theorem lstKids_nd {xs : List OD} (h : lstKids d = some xs) (n : (fp d).Nodup) : (fps xs).Nodup := by
  unfold lstKids at h
  split at h
  · cases h; rw [fps_sh]; exact List.nodup_nil
  · cases h; exact (List.nodup_cons.mp (by simpa [fp] using n)).2
  · cases h
theorem ok_cat : OpOk K rCat wCat := fun Z H σ env vx vy dx dy k P g hw c => by
  unfold wCat at hw
  split at hw
  · rename_i xs ys ex ey
    have rs := g.vals
    cases rs with
    | cons rx rs => cases rs with
      | cons ry _ =>
        obtain ⟨a, as, rfl, ha, ra, fa⟩ := lstKids_rep g.same ex rx
        obtain ⟨b, bs, rfl, hb, rb, fb⟩ := lstKids_rep g.same ey ry
        refine ⟨a, b, as, bs, rfl, rfl, ha, hb, by rw [ra.length, rb.length]; exact hw.1, fun p hp => ?_⟩
        have n := (List.nodup_append.mp g.nd).1
        simp only [fps, List.append_nil] at n
        have n1 := List.nodup_append.mp n
        have sub : ∀ q ∈ fps (xs ++ ys), q ∈ fps [dx, dy] := fun q m => by
          rw [fps_append] at m
          simp only [fps, List.append_nil, List.mem_append] at m ⊢
          exact m.imp (fa q) (fb q)
        have g1 : Good K Z H σ env (as ++ bs) (xs ++ ys) := g.mk' (ra.append rb) sub (by
          rw [fps_append]
          exact List.nodup_append.mpr ⟨lstKids_nd ex n1.1, lstKids_nd ey n1.2.1, fun q hq r hr => n1.2.2 q (fa q hq) r (fb r hr)⟩)
        obtain ⟨g2, st⟩ := g1.newList hp
        exact c _ _ Z _ (st.more fun q m => (List.mem_append.mp m).elim (fun z => List.mem_append_left _ (sub q z)) fun z => List.mem_append_right _ z) g2 (hw.2 p)
  · exact hw.elim
theorem ok_catT : OpOk K (rCatA K) wCatT := fun Z H σ env vx vy dx dy k P g hw c => by
  unfold wCatT at hw
  split at hw
  · rename_i xs ys
    have rs := g.vals
    cases rs with
    | cons rx rs => cases rs with
      | cons ry _ => cases rx with
        | sh rx => cases ry with
          | sh ry => cases rx with
            | tup ha ra => cases ry with
              | tup hb rb =>
                refine ⟨_, _, _, _, rfl, rfl, sqt_mono g.same ha, sqt_mono g.same hb, by rw [ra.length, rb.length]; exact hw.1, fun e => ?_, fun _ e => ?_, fun _ _ p hp => ?_⟩
                · subst e
                  cases ra
                  exact c _ H Z _ Step.result (g.result (.tup hb rb)) hw.2
                · subst e
                  cases rb
                  exact c _ H Z _ Step.result (g.result (.tup ha ra)) (by simpa using hw.2)
                · obtain ⟨g2, st⟩ := g.freshT (ra.append rb) hp
                  exact c _ _ _ _ st g2 hw.2
  · exact hw.elim
theorem ok_strCat : OpOk K (fun x y H Q => ∃ i j, x = .str i ∧ y = .str j ∧ i.length + j.length ≤ sizeLine ∧ Q (.str (i ++ j)) H) wStrCat := op_shared fun Z H vx vy dx dy k P s rx ry hw c => by
  unfold wStrCat at hw
  split at hw
  · cases rx with
    | sh rx => cases ry with
      | sh ry => cases rx; cases ry; exact ⟨_, _, rfl, rfl, hw.1, c _ _ (.str _) hw.2⟩
  · exact hw.elim
end
section
variable {X : Cx}
theorem d_cat : OpD X (binaryOp .Add) wCat := ⟨_, op_cat, ok_cat⟩
theorem d_catT : OpD X (binaryOp .Add) wCatT := ⟨_, op_catA, ok_catT⟩
theorem d_catS : OpD X (binaryOp .Add) wStrCat := ⟨_, op_add_str, ok_strCat⟩
theorem d_addG : OpD X (binaryOp .Add) wAdd := by
  refine ((d_add.or d_catS).or (d_catT.or d_cat)).imp fun x y k h => ?_
  unfold wAdd at h
  split at h
  · exact Or.inl (Or.inl h)
  · exact Or.inl (Or.inr h)
  · exact Or.inr (Or.inl h)
  · exact Or.inr (Or.inr h)
end
/-! ### ==, != -/
mutual
def pd : SD → Option PyData
  | .non => some .none
  | .bl b => some (.bool b)
  | .int i => some (.int i)
  | .str x => some (.str x)
  | .lst xs => (pds xs).map .list
  | .scr xs => (pds xs).map .list
  | .tup xs => (pds xs).map .tuple
  | _ => none
def pds : List SD → Option (List PyData)
  | [] => some []
  | x :: xs => match pd x, pds xs with
    | some a, some b => some (a :: b)
    | _, _ => none
end
section
variable {K : PySem.W.Frag} {Z H : Hp}
mutual
theorem dp_of (s : Same Z H) : ∀ {d : SD} {v : V} {p : PyData}, RepS K Z v d → pd d = some p → Dp K H v p
  | .non, _, _, .non, e => by cases e; exact .non
  | .bl _, _, _, .bl b, e => by cases e; exact .bl b
  | .int _, _, _, .int b, e => by cases e; exact .int b
  | .str _, _, _, .str b, e => by cases e; exact .str b
  | .lst xs, _, _, .lst h r, e => by
    simp only [pd, Option.map_eq_some_iff] at e
    obtain ⟨q, e1, rfl⟩ := e
    exact .lst (.inl (.inl (s _ _ h))) (dps_of s r e1)
  | .scr xs, _, _, .scr h r, e => by
    simp only [pd, Option.map_eq_some_iff] at e
    obtain ⟨q, e1, rfl⟩ := e
    exact .lst (s.seq h) (dps_of s r e1)
  | .tup xs, _, _, .tup h r, e => by
    simp only [pd, Option.map_eq_some_iff] at e
    obtain ⟨q, e1, rfl⟩ := e
    exact .tup (sqt_mono s h) (dps_of s r e1)
  | .rf _, _, _, _, e => by simp [pd] at e
  | .ty _, _, _, _, e => by simp [pd] at e
  | .dic _ _, _, _, _, e => by simp [pd] at e
  | .ins _ _ _, _, _, _, e => by simp [pd] at e
theorem dps_of (s : Same Z H) : ∀ {ds : List SD} {vs : List V} {ps : List PyData}, RepSs K Z vs ds → pds ds = some ps → DpAll K H vs ps
  | [], _, _, .nil, e => by cases e; exact .nil
  | x :: xs, _, _, .cons a b, e => by
    unfold pds at e
    split at e
    · rename_i p q e1 e2
      cases e
      exact .cons (dp_of s a e1) (dps_of s b e2)
    · cases e
end
end
def eqData (a b : SD) (k : Bool → Prop) : Prop := match pd a, pd b with
  | some p, some q => SeqAt.shaped p = true ∧ SeqAt.shaped q = true ∧ k (PyData.eqv p q)
  | _, _ => False
def wEq (x y : OD) (k : OD → Prop) : Prop := match x, y with
  | .sh (.int i), .sh (.int j) => k (.sh (.bl (decide (i = j))))
  | .sh (.str i), .sh (.str j) => k (.sh (.bl (decide (i = j))))
  | .sh a, .sh b => eqData a b fun r => k (.sh (.bl r))
  | _, _ => False
def wNe (x y : OD) (k : OD → Prop) : Prop := match x, y with
  | .sh (.int i), .sh (.int j) => k (.sh (.bl (!decide (i = j))))
  | .sh (.str i), .sh (.str j) => k (.sh (.bl (!decide (i = j))))
  | .sh a, .sh b => eqData a b fun r => k (.sh (.bl (!r)))
  | _, _ => False
section
variable {X : Cx}
theorem dec_intV {i j : Int} : decide (V.int i = V.int j) = decide (i = j) := by
  by_cases h : i = j
  · subst h; simp
  · rw [decide_eq_false h, decide_eq_false fun q => h (V.int.inj q)]
theorem dec_strV {i j : Str} : decide (V.str i = V.str j) = decide (i = j) := by
  by_cases h : i = j
  · subst h; simp
  · rw [decide_eq_false h, decide_eq_false fun q => h (V.str.inj q)]
theorem d_eq (hu : X.A.units + 64 < cLine) : OpD X (compareOp .Eq) wEq := ⟨_, op_eq.or (op_eqD hu), op_shared fun Z H vx vy dx dy k P s rx ry hw c => by
  unfold wEq at hw
  split at hw
  · cases rx with
    | sh rx => cases ry with
      | sh ry => cases rx; cases ry; exact .inl ⟨rfl, by rw [dec_intV]; exact c _ _ (.bl _) hw⟩
  · cases rx with
    | sh rx => cases ry with
      | sh ry => cases rx; cases ry; exact .inl ⟨rfl, by rw [dec_strV]; exact c _ _ (.bl _) hw⟩
  · cases rx with
    | sh rx => cases ry with
      | sh ry =>
        unfold eqData at hw
        split at hw
        · rename_i p q e1 e2
          exact .inr ⟨p, q, dp_of s rx e1, dp_of s ry e2, hw.1, hw.2.1, c _ _ (.bl _) hw.2.2⟩
        · exact hw.elim
  · exact hw.elim⟩
theorem d_ne (hu : X.A.units + 64 < cLine) : OpD X (compareOp .NotEq) wNe := ⟨_, op_ne.or (op_neD hu), op_shared fun Z H vx vy dx dy k P s rx ry hw c => by
  unfold wNe at hw
  split at hw
  · cases rx with
    | sh rx => cases ry with
      | sh ry => cases rx; cases ry; exact .inl ⟨rfl, by rw [dec_intV]; exact c _ _ (.bl _) hw⟩
  · cases rx with
    | sh rx => cases ry with
      | sh ry => cases rx; cases ry; exact .inl ⟨rfl, by rw [dec_strV]; exact c _ _ (.bl _) hw⟩
  · cases rx with
    | sh rx => cases ry with
      | sh ry =>
        unfold eqData at hw
        split at hw
        · rename_i p q e1 e2
          exact .inr ⟨p, q, dp_of s rx e1, dp_of s ry e2, hw.1, hw.2.1, c _ _ (.bl _) hw.2.2⟩
        · exact hw.elim
  · exact hw.elim⟩
end
/-! ### slices -/
def cutL {α : Type} (xs : List α) (lo hi : Option Int) : List α := (xs.drop (HT.sIx xs.length 0 lo)).take (HT.sIx xs.length xs.length hi - HT.sIx xs.length 0 lo)
theorem RepSs.cut {K : PySem.W.Frag} {Z : Hp} {vs : List V} {ds : List SD} (r : RepSs K Z vs ds) (lo hi : Option Int) : RepSs K Z (cutV vs lo hi) (cutL ds lo hi) := by
  unfold cutV cutL
  rw [r.length]
  exact (r.drop _).take _
abbrev WO := Env → (Option Int → Env → Prop) → Prop
def SimO (K : PySem.W.Frag) (to : TO) (wo : WO) : Prop := ∀ (Z H : Hp) (σ : L2.St) (env : Env) (Q : Option Int → Env → Prop) (P : Option Int → Hp → Prop), Good K Z H σ env [] [] → wo env Q →
  (∀ b H' Z' env', Step Z H (fpE env) Z' H' (fpE env') → Good K Z' H' σ env' [] [] → Q b env' → P b H') → to σ H P
def DO (X : Cx) (e : Option Expr) (wo : WO) : Prop := ∃ to, PO X e to ∧ SimO X.K to wo
def woNone : WO := fun env Q => Q none env
def woSome (wa : WE) : WO := fun env Q => wa env fun x env1 => match x with
  | .sh (.int i) => Q (some i) env1
  | _ => False
def wCut (x : OD) (lo hi : Option Int) (k : OD → Prop) : Prop := match x with
  | .sh (.lst xs) => ∀ p, k (.lst p ((cutL xs lo hi).map .sh))
  | .sh (.scr xs) => ∀ p, k (.lst p ((cutL xs lo hi).map .sh))
  | .sh (.tup xs) => k (.sh (.tup (cutL xs lo hi)))
  | .sh (.str z) => z.length ≤ sizeLine ∧ k (.sh (.str (cutS z lo hi)))
  | _ => False
def wSl (wa : WE) (wl wh : WO) : WE := fun env Q => wSh wa env fun x env1 => wl env1 fun lo env2 => wh env2 fun hi env3 => wCut x lo hi fun d => Q d env3
section
variable {X : Cx} {a : Expr} {lo hi : Option Expr} {wa we : WE} {wl wh : WO} {pos p2 : Pos}
theorem do_none : DO X none woNone := ⟨_, po_none, fun Z H σ env Q P g hw k => k none H Z env Step.refl g hw⟩
theorem do_some {e : Expr} (h : DE X e wa) : DO X (some e) (woSome wa) := let ⟨_, p, q⟩ := h; ⟨_, po_some p, fun Z H σ env Q P g hw k => by
  refine q Z H σ env _ _ g hw fun v H1 Z1 d env1 st1 g1 h1 => ?_
  split at h1
  · have rs := g1.vals
    cases rs with
    | cons r _ => cases r with
      | sh r => cases r; exact ⟨_, rfl, k _ H1 Z1 env1 (st1.less fun x m => List.mem_append_right _ m) g1.base h1⟩
  · exact h1.elim⟩
theorem de_sl (ha : DE X a wa) (hl : DO X lo wl) (hh : DO X hi wh) : DE X (.Subscript a (.Slice lo hi none p2) pos) (wSl wa wl wh) := by
  obtain ⟨_, p, q⟩ := de_sh ha
  obtain ⟨_, p1, q1⟩ := hl
  obtain ⟨_, p2, q2⟩ := hh
  refine ⟨_, pe_slice (sl_list.or (sl_tupA.or sl_str)) p p1 p2, fun Z H σ env Q P g hw k => ?_⟩
  refine q Z H σ env _ _ g hw fun v H1 Z1 d env1 st1 g1 h1 => ?_
  refine q1 Z1 H1 σ env1 _ _ g1.base h1 fun i H2 Z2 env2 st2 g2 h2 => ?_
  have g2' : Good X.K Z2 H2 σ env2 [v] [d] := by simpa using Good.beside (vs' := []) (ds' := []) g1 (by simpa [fps] using st2) g2
  refine q2 Z2 H2 σ env2 _ _ g2 h2 fun j H3 Z3 env3 st3 g3 h3 => ?_
  have g3' : Good X.K Z3 H3 σ env3 [v] [d] := by simpa using Good.beside (vs' := []) (ds' := []) g2' (by simpa [fps] using st3) g3
  have S : Step Z H (fpE env) Z3 H3 (fps [d] ++ fpE env3) := (st1.trans (st2.frame _)).trans (st3.frame _)
  unfold wCut at h3
  have rs := g3'.vals
  cases rs with
  | cons r _ =>
    split at h3
    · cases r with
      | sh r => cases r with
        | lst h r =>
          refine .inl ⟨_, _, rfl, .inl (.inl (g3'.same _ _ h)), fun p hp => ?_⟩
          obtain ⟨g4, st4⟩ := g3'.fresh (r.cut i j) hp
          exact k _ _ Z3 _ env3 (S.trans st4) g4 (h3 p)
    · cases r with
      | sh r => cases r with
        | scr h r =>
          refine .inl ⟨_, _, rfl, g3'.same.seq h, fun p hp => ?_⟩
          obtain ⟨g4, st4⟩ := g3'.fresh (r.cut i j) hp
          exact k _ _ Z3 _ env3 (S.trans st4) g4 (h3 p)
    · cases r with
      | sh r => cases r with
        | tup h r =>
          refine .inr (.inl ⟨_, _, rfl, sqt_mono g3'.same h, fun e => ?_, fun _ p hp => ?_⟩)
          · refine k _ H3 Z3 _ env3 (S.trans Step.result) (g3'.result (.tup h ?_)) h3
            have rr := r.cut i j
            unfold cutV at rr
            rw [e.1, e.2] at rr
            simpa using rr
          · obtain ⟨g4, st4⟩ := g3'.freshT (r.cut i j) hp
            exact k _ _ _ _ env3 (S.trans st4) g4 h3
    · cases r with
      | sh r => cases r; exact .inr (.inr ⟨_, rfl, h3.1, k _ H3 Z3 _ env3 (S.trans Step.result) (g3'.result (.str _)) h3.2⟩)
    · exact h3.elim
end
/-! ### an index of a name's value, a name's length -/
def wIx1 (x y : OD) (k : SD → Prop) : Prop := match x, y with
  | .sh (.lst xs), .sh (.int i) => onSm (atI xs i) k
  | .sh (.scr xs), .sh (.int i) => onSm (atI xs i) k
  | .sh (.tup xs), .sh (.int i) => onSm (atI xs i) k
  | .sh (.str z), .sh (.int i) => z.length ≤ sizeLine ∧ onSm (atI z.cps.toList i) fun c => k (.str ⟨#[c]⟩)
  | .lst _ xs, .sh (.int i) => onSh (atI xs i) k
  | .tup xs, .sh (.int i) => onSh (atI xs i) k
  | _, _ => False
theorem rIx1 {K : PySem.W.Frag} {Z H : Hp} {v w : V} {x y : OD} {k : SD → Prop} {P : VK} (s : Same Z H) (rx : RepO K Z H v x) (ry : RepO K Z H w y) (h : wIx1 x y k) (c : ∀ u d, RepS K Z u d → k d → P u H) : rIx K v w H P := by
  unfold wIx1 at h
  split at h
  · obtain ⟨d, e, h⟩ := h
    cases rx with
    | sh rx => cases ry with
      | sh ry => cases ry; cases rx with
        | lst hh r =>
          obtain ⟨u, h1, h2⟩ := r.at e
          exact .inl ⟨_, _, _, u, rfl, rfl, .inl (.inl (s _ _ hh)), h1, c u d h2 h⟩
  · obtain ⟨d, e, h⟩ := h
    cases rx with
    | sh rx => cases ry with
      | sh ry => cases ry; cases rx with
        | scr hh r =>
          obtain ⟨u, h1, h2⟩ := r.at e
          exact .inl ⟨_, _, _, u, rfl, rfl, s.seq hh, h1, c u d h2 h⟩
  · obtain ⟨d, e, h⟩ := h
    cases rx with
    | sh rx => cases ry with
      | sh ry => cases ry; cases rx with
        | tup hh r =>
          obtain ⟨u, h1, h2⟩ := r.at e
          exact .inr (.inl ⟨_, _, _, u, rfl, rfl, sqt_mono s hh, h1, c u d h2 h⟩)
  · obtain ⟨hz, d, e, h⟩ := h
    cases rx with
    | sh rx => cases ry with
      | sh ry => cases ry; cases rx; exact .inr (.inr ⟨_, _, d, rfl, rfl, hz, e, c _ _ (.str _) h⟩)
  · obtain ⟨d, e, h⟩ := h
    cases rx with
    | lst hh r => cases ry with
      | sh ry =>
        cases ry
        obtain ⟨u, h1, h2⟩ := r.at e
        cases h2 with
        | sh h2 => exact .inl ⟨_, _, _, u, rfl, rfl, .inl (.inl hh), h1, c u d h2 h⟩
  · obtain ⟨d, e, h⟩ := h
    cases rx with
    | tup hh r => cases ry with
      | sh ry =>
        cases ry
        obtain ⟨u, h1, h2⟩ := r.at e
        cases h2 with
        | sh h2 => exact .inr (.inl ⟨_, _, _, u, rfl, rfl, sqt_mono s hh, h1, c u d h2 h⟩)
  · exact h.elim
def onV (env : Env) (i : Nat) (k : OD → Prop) : Prop := match env[i]? with
  | some (some d) => k d
  | _ => False
theorem onV_of {env : Env} {i : Nat} {k : OD → Prop} (h : onV env i k) : ∃ d, env[i]? = some (some d) ∧ k d := by
  unfold onV at h
  split at h
  · rename_i d e; exact ⟨d, e, h⟩
  · exact h.elim
def wIxV (i : Nat) (we : WE) : WE := fun env Q => onV env i fun _ => we env fun y env1 => onV env1 i fun x => wIx1 x y fun d => Q (.sh d) env1
def wLenV (i : Nat) : WE := fun env Q => onV env i fun x => match x with
  | .sh (.lst xs) => Q (.sh (.int xs.length)) env
  | .sh (.scr xs) => Q (.sh (.int xs.length)) env
  | .sh (.tup xs) => Q (.sh (.int xs.length)) env
  | .sh (.str z) => z.length ≤ sizeLine ∧ Q (.sh (.int z.length)) env
  | .lst _ xs => Q (.sh (.int xs.length)) env
  | _ => False
section
variable {X : Cx} {e a b : Expr} {es : List Expr} {wa wb we : WE} {wr : WA} {bk : List (Option Nat)} {pos p : Pos}
theorem de_ixv (i : Nat) {x : Str} (hb : DE X b wb) (hN : X.N[i]? = some x := by rfl) (hv : Vis X.env.scope x := by first | exact Or.inl rfl | exact Or.inr (Or.inl rfl) | exact Or.inr (Or.inr rfl)) (hd : (x == ("__debug__" : Str)) = false := by decide)
    (hcd : (x == ("__classdict__" : Str)) = false := by decide) (hs : PlainIx b := by exact fun _ _ => rfl) : DE X (.Subscript (.Name x p) b pos) (wIxV i wb) := let ⟨_, b1, b2⟩ := hb; ⟨_, pe_ix ix_seq (pe_var hN hv hd hcd) b1 hs, fun Z H σ env Q P g hw k => by
  unfold wIxV at hw
  obtain ⟨d0, e0, hw⟩ := onV_of hw
  obtain ⟨v, hv, r0⟩ := g.slots.get e0
  refine ⟨v, hv, ?_⟩
  refine b2 Z H σ env _ _ g hw fun w H1 Z1 y env1 st1 g1 h1 => ?_
  obtain ⟨d1, e1, h1⟩ := onV_of h1
  obtain ⟨v', hv', r1⟩ := g1.slots.get e1
  have ev : v' = v := by rw [hv] at hv'; exact (Option.some.inj (Option.some.inj hv')).symm
  subst ev
  have rs := g1.vals
  cases rs with
  | cons rw _ => exact rIx1 g1.same r1 rw h1 fun u d r hq => k u H1 Z1 _ env1 (st1.trans Step.result) (g1.result r) hq⟩
/-- len of a name's value -/
theorem de_lenv (i : Nat) {x : Str} {p2 : Pos} (hm : X.mg "len" = none) (hN : X.N[i]? = some x := by rfl) (hv : Vis X.env.scope x := by first | exact Or.inl rfl | exact Or.inr (Or.inl rfl) | exact Or.inr (Or.inr rfl)) (hd : (x == ("__debug__" : Str)) = false := by decide)
    (hcd : (x == ("__classdict__" : Str)) = false := by decide) (hg : Gl X "len" := by rfl) (he : starEach [.Name x p] X.env = (false, eval (.Name x p) X.env) :: starEach [] X.env := by rfl) (hpl : (backTo pos (starEach [] X.env)).any (·.1) = false := by rfl) :
    DE X (.Call (.Name "len" p2) [.Name x p] [] pos) (wLenV i) := ⟨_, pe_callB (call_len_seq.or call_len_str) hg hm boot_len (pa_cons (pe_var hN hv hd hcd) pa_nil he) (by decide) (by decide) he hpl, fun Z H σ env Q P g hw k => by
  unfold wLenV at hw
  obtain ⟨d0, e0, hw⟩ := onV_of hw
  obtain ⟨v, hv, r0⟩ := g.slots.get e0
  refine ⟨v, hv, ?_⟩
  have fin : ∀ n : Nat, Q (.sh (.int n)) env → P (.int n) H := fun n q => k _ H Z _ env (Step.result (ds := [])) (g.result (.int _)) q
  split at hw
  · cases r0 with
    | sh r => cases r with
      | lst h r => exact .inl ⟨_, _, rfl, .inl (.inl (.inl (g.same _ _ h))), by rw [r.length]; exact fin _ hw⟩
  · cases r0 with
    | sh r => cases r with
      | scr h r => exact .inl ⟨_, _, rfl, .inl (g.same.seq h), by rw [r.length]; exact fin _ hw⟩
  · cases r0 with
    | sh r => cases r with
      | tup h r => exact .inl ⟨_, _, rfl, .inr (sqt_mono g.same h), by rw [r.length]; exact fin _ hw⟩
  · cases r0 with
    | sh r => cases r; exact .inr ⟨_, rfl, hw.1, fin _ hw.2⟩
  · cases r0 with
    | lst h r => exact .inl ⟨_, _, rfl, .inl (.inl (.inl h)), by rw [r.length]; exact fin _ hw⟩
  · exact hw.elim⟩
end
end E8
/-! Built-ins by name, lists' methods, stores. -/
namespace E8
open PySem PySem.Spec PyProof.Rows L2

section
variable {X : Cx}
theorem CallD.or {f : Value} {w w' : List OD → (OD → Prop) → Prop} (h : CallD X f w) (h' : CallD X f w') : CallD X f (fun ds k => w ds k ∨ w' ds k) :=
  let ⟨_, a, b⟩ := h; let ⟨_, a', b'⟩ := h'; ⟨_, a.or a', fun Z H σ env vs ds k P g hw c => hw.imp (fun q => b Z H σ env vs ds k P g q c) fun q => b' Z H σ env vs ds k P g q c⟩
theorem CallD.imp {f : Value} {w w' : List OD → (OD → Prop) → Prop} (h : CallD X f w) (i : ∀ ds k, w' ds k → w ds k) : CallD X f w' :=
  let ⟨r, a, b⟩ := h; ⟨r, a, fun Z H σ env vs ds k P g hw c => b Z H σ env vs ds k P g (i _ _ hw) c⟩
/-- len -/
def wLen (ds : List OD) (k : OD → Prop) : Prop := match ds with
  | [.sh (.lst xs)] => k (.sh (.int xs.length))
  | [.sh (.scr xs)] => k (.sh (.int xs.length))
  | [.sh (.tup xs)] => k (.sh (.int xs.length))
  | [.sh (.str z)] => z.length ≤ sizeLine ∧ k (.sh (.int z.length))
  | [.lst _ xs] => k (.sh (.int xs.length))
  | _ => False
theorem c_len : CallD X (.builtin "len") wLen := ⟨_, call_len_seq.or call_len_str, call_shared fun Z H vs ds k P s rs hw c => by
  unfold wLen at hw
  split at hw
  · cases rs with
    | cons r rs => cases rs; cases r with
      | sh r => cases r with
        | lst h r => exact .inl ⟨_, _, rfl, .inl (.inl (.inl (s _ _ h))), by rw [r.length]; exact c _ _ (.int _) hw⟩
  · cases rs with
    | cons r rs => cases rs; cases r with
      | sh r => cases r with
        | scr h r => exact .inl ⟨_, _, rfl, .inl (s.seq h), by rw [r.length]; exact c _ _ (.int _) hw⟩
  · cases rs with
    | cons r rs => cases rs; cases r with
      | sh r => cases r with
        | tup h r => exact .inl ⟨_, _, rfl, .inr (sqt_mono s h), by rw [r.length]; exact c _ _ (.int _) hw⟩
  · cases rs with
    | cons r rs => cases rs; cases r with
      | sh r => cases r; exact .inr ⟨_, rfl, hw.1, c _ _ (.int _) hw.2⟩
  · cases rs with
    | cons r rs => cases rs; cases r with
      | lst h r => exact .inl ⟨_, _, rfl, .inl (.inl (.inl h)), by rw [r.length]; exact c _ _ (.int _) hw⟩
  · exact hw.elim⟩
/-- list(xs), tuple(xs): what is walked is frozen -/
def wList (ds : List OD) (k : OD → Prop) : Prop := match ds with
  | [d] => match frz d with
    | .lst xs => ∀ p, k (.lst p (xs.map .sh))
    | .scr xs => ∀ p, k (.lst p (xs.map .sh))
    | .tup xs => ∀ p, k (.lst p (xs.map .sh))
    | _ => False
  | _ => False
theorem frz1 {K : PySem.W.Frag} {Z : Hp} {vs : List V} {d : OD} (r : RepSs K Z vs (frzs [d])) : ∃ v, vs = [v] ∧ RepS K Z v (frz d) := by
  cases r with
  | cons r rs => cases rs; exact ⟨_, rfl, r⟩
theorem c_list : CallD X (.type "list") wList := ⟨_, call_list_of, fun Z H σ env vs ds k P g hw c => by
  unfold wList at hw
  split at hw
  · rename_i d
    obtain ⟨g2, st2, r⟩ := g.freeze
    obtain ⟨v, ev, r1⟩ := frz1 r
    subst ev
    split at hw
    · rename_i xs e
      rw [e] at r1
      cases r1 with
      | lst h r =>
        refine ⟨_, _, rfl, .inl (.inl (.inl (g2.same _ _ h))), fun p hp => ?_⟩
        obtain ⟨g3, st3⟩ := g2.fresh r hp
        exact c _ _ _ _ (st2.trans st3) g3 (hw p)
    · rename_i xs e
      rw [e] at r1
      cases r1 with
      | scr h r =>
        refine ⟨_, _, rfl, .inl (g2.same.seq h), fun p hp => ?_⟩
        obtain ⟨g3, st3⟩ := g2.fresh r hp
        exact c _ _ _ _ (st2.trans st3) g3 (hw p)
    · rename_i xs e
      rw [e] at r1
      cases r1 with
      | tup h r =>
        refine ⟨_, _, rfl, .inr (sqt_mono g2.same h), fun p hp => ?_⟩
        obtain ⟨g3, st3⟩ := g2.fresh r hp
        exact c _ _ _ _ (st2.trans st3) g3 (hw p)
    · exact hw.elim
  · exact hw.elim⟩
def wTuple (ds : List OD) (k : OD → Prop) : Prop := match ds with
  | [d] => match frz d with
    | .lst xs => k (.sh (.tup xs))
    | .scr xs => k (.sh (.tup xs))
    | .tup xs => k (.sh (.tup xs))
    | _ => False
  | _ => False
theorem c_tuple : CallD X (.type "tuple") wTuple := ⟨_, call_tuple_of, fun Z H σ env vs ds k P g hw c => by
  unfold wTuple at hw
  split at hw
  · rename_i d
    obtain ⟨g2, st2, r⟩ := g.freeze
    obtain ⟨v, ev, r1⟩ := frz1 r
    subst ev
    split at hw
    · rename_i xs e
      rw [e] at r1
      cases r1 with
      | lst h r =>
        refine ⟨_, _, rfl, .inl ⟨.inl (.inl (g2.same _ _ h)), fun p hp => ?_⟩⟩
        obtain ⟨g3, st3⟩ := g2.freshT r hp
        exact c _ _ _ _ (st2.trans st3) g3 hw
    · rename_i xs e
      rw [e] at r1
      cases r1 with
      | scr h r =>
        refine ⟨_, _, rfl, .inl ⟨g2.same.seq h, fun p hp => ?_⟩⟩
        obtain ⟨g3, st3⟩ := g2.freshT r hp
        exact c _ _ _ _ (st2.trans st3) g3 hw
    · rename_i xs e
      rw [e] at r1
      cases r1 with
      | tup h r => exact ⟨_, _, rfl, .inr ⟨sqt_mono g2.same h, c _ _ _ _ (st2.trans Step.result) (g2.result (.tup h r)) hw⟩⟩
    · exact hw.elim
  · exact hw.elim⟩
/-- min, max of two -/
def wMin2 (ds : List OD) (k : OD → Prop) : Prop := match ds with
  | [.sh (.int i), .sh (.int j)] => k (.sh (.int (min i j)))
  | _ => False
def wMax2 (ds : List OD) (k : OD → Prop) : Prop := match ds with
  | [.sh (.int i), .sh (.int j)] => k (.sh (.int (max i j)))
  | _ => False
theorem min_eq (i j : Int) : (if j < i then j else i) = min i j := by
  by_cases h : j < i
  · rw [if_pos h]; omega
  · rw [if_neg h]; omega
theorem max_eq (i j : Int) : (if j > i then j else i) = max i j := by
  by_cases h : j > i
  · rw [if_pos h]; omega
  · rw [if_neg h]; omega
theorem c_min2 (hc : X.calm = true) : CallD X (.builtin "min") wMin2 := ⟨_, call_min2 hc, call_shared fun Z H vs ds k P s rs hw c => by
  unfold wMin2 at hw
  split at hw
  · cases rs with
    | cons r rs => cases rs with
      | cons r' rs => cases rs; cases r with
        | sh r => cases r' with
          | sh r' => cases r; cases r'; exact ⟨_, _, rfl, by rw [min_eq]; exact c _ _ (.int _) hw⟩
  · exact hw.elim⟩
theorem c_max2 (hc : X.calm = true) : CallD X (.builtin "max") wMax2 := ⟨_, call_max2 hc, call_shared fun Z H vs ds k P s rs hw c => by
  unfold wMax2 at hw
  split at hw
  · cases rs with
    | cons r rs => cases rs with
      | cons r' rs => cases rs; cases r with
        | sh r => cases r' with
          | sh r' => cases r; cases r'; exact ⟨_, _, rfl, by rw [max_eq]; exact c _ _ (.int _) hw⟩
  · exact hw.elim⟩
/-- int(x) of a number, of a truth -/
def wInt (ds : List OD) (k : OD → Prop) : Prop := match ds with
  | [.sh (.int i)] => k (.sh (.int i))
  | [.sh (.bl b)] => k (.sh (.int (if b then 1 else 0)))
  | _ => False
theorem c_int : CallD X (.type "int") wInt := ⟨_, call_int1, call_shared fun Z H vs ds k P s rs hw c => by
  unfold wInt at hw
  split at hw
  · cases rs with
    | cons r rs => cases rs; cases r with
      | sh r => cases r; exact .inl ⟨_, rfl, c _ _ (.int _) hw⟩
  · cases rs with
    | cons r rs => cases rs; cases r with
      | sh r => cases r; exact .inr ⟨_, rfl, c _ _ (.int _) hw⟩
  · exact hw.elim⟩
/-- isinstance with a built-in class -/
def tyOf : OD → Option String
  | .sh .non => some "NoneType"
  | .sh (.bl _) => some "bool"
  | .sh (.int _) => some "int"
  | .sh (.str _) => some "str"
  | .sh (.lst _) => some "list"
  | .sh (.tup _) => some "tuple"
  | .sh (.dic _ _) => some "dict"
  | .lst _ _ => some "list"
  | .tup _ => some "tuple"
  | _ => none
/-- bool is an int -/
def isaT (t u : String) : Bool := t == u || (t == "bool" && u == "int")
def knownT (t : String) : Bool := t == "NoneType" || t == "bool" || t == "int" || t == "str" || t == "list" || t == "tuple" || t == "dict"
def wIsi (ds : List OD) (k : OD → Prop) : Prop := match ds with
  | [x, .sh (.ty u)] => match tyOf x with
    | some t => knownT u = true ∧ k (.sh (.bl (isaT t u)))
    | none => False
  | _ => False
theorem ty_rep {K : PySem.W.Frag} {Z H : Hp} {v : V} {d : OD} {t : String} (s : Same Z H) (r : RepO K Z H v d) (h : tyOf d = some t) : TyX K H v (.type t) := by
  cases r with
  | sh r => cases r with
    | non => cases h; exact .base .non
    | bl _ => cases h; exact .base (.bl _)
    | int _ => cases h; exact .base (.int _)
    | str _ => cases h; exact .base (.str _)
    | rf _ => cases h
    | ty _ => cases h
    | lst q _ => cases h; exact .base (.lst (s _ _ q))
    | scr q _ => cases h
    | tup q _ =>
      cases h
      rcases sqt_mono s q with (q | ⟨o, q⟩) | ⟨o, its, n, q1, q2, _⟩
      · exact .base (.tup q)
      · exact .fTuple q
      · exact .kTuple q1 q2
    | dic q _ _ _ => cases h; exact .base (.dK (s _ _ q))
    | ins _ _ _ _ => cases h
  | lst q _ => cases h; exact .base (.lst q)
  | tup q _ =>
    cases h
    rcases sqt_mono s q with (q | ⟨o, q⟩) | ⟨o, its, n, q1, q2, _⟩
    · exact .base (.tup q)
    · exact .fTuple q
    · exact .kTuple q1 q2
  | dic q _ _ _ => cases h
  | ins _ _ _ _ => cases h
theorem kit_all : ∀ t ∈ ["NoneType", "bool", "int", "str", "list", "tuple", "dict"], ∀ u ∈ ["NoneType", "bool", "int", "str", "list", "tuple", "dict"], kitB t u = some (isaT t u) := by decide +kernel
theorem known_mem {t : String} (h : knownT t = true) : t ∈ ["NoneType", "bool", "int", "str", "list", "tuple", "dict"] := by
  unfold knownT at h
  simp only [Bool.or_eq_true, beq_iff_eq] at h
  simp only [List.mem_cons, List.not_mem_nil, or_false]
  rcases h with (((((h | h) | h) | h) | h) | h) | h <;> simp [h]
theorem tyOf_known {x : OD} {t : String} (h : tyOf x = some t) : t ∈ ["NoneType", "bool", "int", "str", "list", "tuple", "dict"] := by
  unfold tyOf at h
  split at h <;> first | (cases h; decide) | cases h
theorem c_isi : CallD X (.builtin "isinstance") wIsi := ⟨_, call_isi, call_shared fun Z H vs ds k P s rs hw c => by
  unfold wIsi at hw
  split at hw
  · split at hw
    · rename_i t e
      cases rs with
      | cons r rs => cases rs with
        | cons r' rs => cases rs; cases r' with
          | sh r' =>
            cases r'
            exact ⟨_, _, _, _, _, rfl, .ty _, ty_rep s r e, kit_ty (kit_all _ (tyOf_known e) _ (known_mem hw.1)), c _ _ (.bl _) hw.2⟩
    · exact hw.elim
  · exact hw.elim⟩
end
/-! ### a built-in class as a value -/
section
variable {X : Cx} {e a b : Expr} {es : List Expr} {wa wb we : WE} {wr : WA} {bk : List (Option Nat)} {pos p : Pos}
theorem de_ty {x : Str} {n : String} (hm : X.mg x = none) (hv : bootBuiltins x = some (.type n)) (hg : Gl X x := by rfl) (hn : x ≠ "__name__" := by decide) (hd : (x == ("__debug__" : Str)) = false := by decide) : DE X (.Name x pos) (wC (.ty n)) := ⟨_, pe_bltn (v := .ty n) hg hm hv (show L2.RelV (.ty n) (.type n) from rfl) hn hd, sim_c fun _ => .ty _⟩
/-! ### methods of lists -/
/-- a list at a place changes -/
def wApp (wb : WB) (wa : WE) : WE := fun env Q => wb env fun l env1 => atL env1 l fun x => match x with
  | .lst a0 _ => wa env1 fun d env2 => atL env2 l fun y => match y with
    | .lst a xs => a = a0 ∧ xs.length < sizeLine ∧ Q (.sh .non) (upL env2 l (.lst a (xs ++ [d])))
    | _ => False
  | _ => False
theorem lst_at {K : PySem.W.Frag} {Z H : Hp} {σ : L2.St} {env : Env} {vs : List V} {ds : List OD} {l : Loc} {a : Addr} {xs : List OD} (g : Good K Z H σ env vs ds) (h : look env l = some (.lst a xs)) : ∃ ws, H a = some (.lst ws) ∧ RepOs K Z H ws xs := by
  obtain ⟨w, r⟩ := g.at h
  cases r with
  | lst h r => exact ⟨_, h, r⟩
theorem Good.putList {K : PySem.W.Frag} {Z H : Hp} {σ : L2.St} {env : Env} {vs ws : List V} {ds xs ys : List OD} {l : Loc} {a : Addr} (g : Good K Z H σ env vs ds) (h : look env l = some (.lst a xs)) (r : RepOs K Z H ws ys) (sub : ∀ b ∈ fps ys, b ∈ fps xs ∨ b ∈ fps ds) (nd : (fps ys).Nodup) :
    Good K Z (upd H a (.lst ws)) σ (upL env l (.lst a ys)) [] [] ∧ Step Z H (fps ds ++ fpE env) Z (upd H a (.lst ws)) (fpE (upL env l (.lst a ys))) := by
  obtain ⟨A, B, e1, _⟩ := look_split h
  have n := List.nodup_append.mp g.nd
  have nE := n.2.1
  rw [e1] at nE
  have nx := (List.nodup_append.mp (List.nodup_append.mp nE).2.1).1
  have na := List.nodup_cons.mp (show (a :: fps xs).Nodup by simpa [fp] using nx)
  have aE : a ∈ fpE env := by rw [e1]; exact List.mem_append_right _ (List.mem_append_left _ (by simp [fp]))
  have ay : a ∉ fps ys := fun m => (sub a m).elim na.1 fun q => n.2.2 a q a aE rfl
  refine g.mut h (x := .lst a xs) rfl (.lst upd_same (r.mono (Same.refl Z) fun b m o e => ?_)) (fun b m => ?_) ?_
  · rw [upd_ne (fun (q : b = a) => ay (by rw [← q]; exact m))]; exact e
  · rcases List.mem_cons.mp (show b ∈ a :: fps ys by simpa [fp] using m) with q | q
    · exact .inl (by simp [fp, q])
    · exact (sub b q).imp (fun z => by simp [fp, z]) id
  · simpa [fp] using ⟨ay, nd⟩
theorem beside0 {K : PySem.W.Frag} {Z Z' H H' : Hp} {σ : L2.St} {env env' : Env} {v : V} {d : OD} (g : Good K Z H σ env [v] [d]) (st : Step Z H (fpE env) Z' H' (fpE env')) (g' : Good K Z' H' σ env' [] []) : Good K Z' H' σ env' [v] [d] ∧ Step Z H (fps [d] ++ fpE env) Z' H' (fps [d] ++ fpE env') :=
  ⟨by simpa using Good.beside (vs' := []) (ds' := []) g (by simpa [fps] using st) g', st.frame _⟩
theorem de_app {o : Expr} {wb : WB} {apos : Pos} (ho : DB X o wb) (ha : DE X e wa) (hbase : attributeBase o "append" X.env (eval o X.env) = eval o X.env := by rfl)
    (hfew : ((backTo pos (starEach [e] X.env)).all (fun x => !x.1) && (backToKw pos (keywordEach [] X.env)).all (fun x => x.1.isSome)
      && decide ([e].length + ([] : List Keyword).length + (if ([] : List Keyword).isEmpty then 0 else 1) < 30)) = true := by rfl)
    (hline : (apos.endLine == pos.line) = true := by rfl) (hs : starEach [e] X.env = (false, eval e X.env) :: starEach [] X.env := by rfl) (hplain : (backTo pos (starEach [] X.env)).any (·.1) = false := by rfl) : DE X (.Call (.Attribute o "append" apos) [e] [] pos) (wApp wb wa) := by
  obtain ⟨to, po, qo⟩ := ho
  obtain ⟨ta, pa, qa⟩ := ha
  refine ⟨_, pe_bm PySem.F.plainAttrs_list PySem.F.slot_list_append PySem.F.type_list_append mt_append po (pa_cons pa pa_nil hs) hbase hfew hline hs hplain, fun Z H σ env Q P g hw k => ?_⟩
  refine qo Z H σ env _ _ g hw fun a H1 Z1 l env1 x st1 g1 hl hr h1 => ?_
  have h1 := atL_of hl h1
  split at h1
  · rename_i a0 xs0
    have ea : a0 = a := by simpa [root] using hr
    subst ea
    obtain ⟨ws0, hh0, _⟩ := lst_at g1 hl
    refine ⟨.inl ⟨rfl, _, .inl (.inl hh0)⟩, ?_⟩
    refine qa Z1 H1 σ env1 _ _ g1 h1 fun v H2 Z2 d env2 st2 g2 h2 => ?_
    obtain ⟨y, ey, h2⟩ := h2
    · skip
      split at h2
      · rename_i a' xs
        obtain ⟨rfl, hz, hq⟩ := h2
        obtain ⟨ws, hh, rs⟩ := lst_at g2 ey
        have r2 := g2.vals
        cases r2 with
        | cons r2 _ =>
          have nn := List.nodup_append.mp g2.nd
          obtain ⟨A, B, e1, _⟩ := look_split ey
          have nE := nn.2.1
          rw [e1] at nE
          have nx := (List.nodup_append.mp (List.nodup_append.mp nE).2.1).1
          have nxs := (List.nodup_cons.mp (show (a' :: fps xs).Nodup by simpa [fp] using nx)).2
          have xE : ∀ b ∈ fps xs, b ∈ fpE env2 := fun b m => by rw [e1]; exact List.mem_append_right _ (List.mem_append_left _ (by simp [fp, m]))
          obtain ⟨g3, st3⟩ := g2.putList (ws := ws ++ [v]) (ys := xs ++ [d]) ey (rs.append (.cons r2 .nil)) (fun b m => by
            rw [fps_append] at m
            exact (List.mem_append.mp m)) (by
            rw [fps_append]
            exact List.nodup_append.mpr ⟨nxs, nn.1, fun b hb c hc e => nn.2.2 c hc b (xE b hb) e.symm⟩)
          refine ⟨_, _, _, rfl, rfl, hh, by rw [rs.length]; exact hz, ?_⟩
          exact k .non _ Z2 _ _ ((st1.trans st2).trans (by simpa [fps, fp] using st3)) (g3.result .non) hq
      · exact h2.elim
  · exact h1.elim
/-- xs.clear() -/
def wClear (wb : WB) : WE := fun env Q => wb env fun l env1 => atL env1 l fun x => match x with
  | .lst a _ => Q (.sh .non) (upL env1 l (.lst a []))
  | _ => False
theorem de_clear {o : Expr} {wb : WB} {apos : Pos} (ho : DB X o wb) (hbase : attributeBase o "clear" X.env (eval o X.env) = eval o X.env := by rfl) (hline : (apos.endLine == pos.line) = true := by rfl) : DE X (.Call (.Attribute o "clear" apos) [] [] pos) (wClear wb) := by
  obtain ⟨to, po, qo⟩ := ho
  refine ⟨_, pe_bm0 PySem.F.plainAttrs_list PySem.F.slot_list_clear PySem.F.type_list_clear mt_clear po hbase hline, fun Z H σ env Q P g hw k => ?_⟩
  refine qo Z H σ env _ _ g hw fun a H1 Z1 l env1 x st1 g1 hl hr h1 => ?_
  have h1 := atL_of hl h1
  split at h1
  · rename_i a0 xs0
    have ea : a0 = a := by simpa [root] using hr
    subst ea
    obtain ⟨ws0, hh0, _⟩ := lst_at g1 hl
    obtain ⟨g3, st3⟩ := g1.putList (ws := []) (ys := []) hl .nil (by simp [fps]) (by simp [fps])
    exact ⟨.inl ⟨rfl, _, .inl (.inl hh0)⟩, _, _, rfl, rfl, hh0, k .non _ Z1 _ _ (st1.trans (by simpa [fps, fp] using st3)) (g3.result .non) h1⟩
  · exact h1.elim
/-- xs.pop() -/
def wPop (wb : WB) : WE := fun env Q => wb env fun l env1 => atL env1 l fun x => match x with
  | .lst a xs => onSm xs[xs.length - 1]? fun d => Q d (upL env1 l (.lst a xs.dropLast))
  | _ => False
theorem fps_dropLast {xs : List OD} {d : OD} (h : xs[xs.length - 1]? = some d) : fps xs = fps xs.dropLast ++ fp d := by
  have e : xs = xs.dropLast ++ [d] := by
    have hne : xs ≠ [] := fun q => by subst q; simp at h
    rw [← List.getLast?_eq_getElem?, List.getLast?_eq_some_getLast hne] at h
    rw [← Option.some.inj h, List.dropLast_concat_getLast]
  calc fps xs = fps (xs.dropLast ++ [d]) := by rw [← e]
    _ = _ := by rw [fps_append]; simp [fps]
theorem RepOs.dropLast {K : PySem.W.Frag} {Z H : Hp} : ∀ {xs : List OD} {vs : List V}, RepOs K Z H vs xs → RepOs K Z H vs.dropLast xs.dropLast
  | _, _, .nil => .nil
  | _, _, .cons a .nil => .nil
  | _, _, .cons a (.cons b c) => .cons a (RepOs.dropLast (.cons b c))
theorem de_pop {o : Expr} {wb : WB} {apos : Pos} (ho : DB X o wb) (hbase : attributeBase o "pop" X.env (eval o X.env) = eval o X.env := by rfl) (hline : (apos.endLine == pos.line) = true := by rfl) : DE X (.Call (.Attribute o "pop" apos) [] [] pos) (wPop wb) := by
  obtain ⟨to, po, qo⟩ := ho
  refine ⟨_, pe_bm0 PySem.F.plainAttrs_list PySem.F.slot_list_pop PySem.F.type_list_pop mt_pop po hbase hline, fun Z H σ env Q P g hw k => ?_⟩
  refine qo Z H σ env _ _ g hw fun a H1 Z1 l env1 x st1 g1 hl hr h1 => ?_
  have h1 := atL_of hl h1
  split at h1
  · rename_i a0 xs0
    have ea : a0 = a := by simpa [root] using hr
    subst ea
    obtain ⟨d, ed, h1⟩ := h1
    · skip
      obtain ⟨ws0, hh0, rs⟩ := lst_at g1 hl
      have e0 := fps_dropLast ed
      obtain ⟨A, B, e1, e2⟩ := look_split hl
      have nE : (fpE env1).Nodup := by simpa [fps] using g1.nd
      rw [e1] at nE
      have n1 := List.nodup_append.mp nE
      have n2 := List.nodup_append.mp n1.2.1
      have nx := List.nodup_cons.mp (show (a0 :: fps xs0).Nodup by simpa [fp] using n2.1)
      rw [e0] at nx
      have n3 := List.nodup_append.mp nx.2
      obtain ⟨v, hv, rv⟩ := rs.get ed
      obtain ⟨g3, st3⟩ := g1.putList (ws := ws0.dropLast) (ys := xs0.dropLast) hl rs.dropLast (fun b m => .inl (by rw [e0]; exact List.mem_append_left _ m)) n3.1
      have memx : ∀ b ∈ fp d, b ∈ fp (.lst a0 xs0) := fun b m => by simp [fp, e0, m]
      have outE : ∀ b ∈ fp d, b ∉ fpE (upL env1 l (.lst a0 xs0.dropLast)) := fun b m z => by
        rw [e2] at z
        rcases List.mem_append.mp z with z | z
        · exact n1.2.2 b z b (List.mem_append_left _ (memx b m)) rfl
        · rcases List.mem_append.mp z with z | z
          · rcases List.mem_cons.mp (show b ∈ a0 :: fps xs0.dropLast by simpa [fp] using z) with q | q
            · exact nx.1 (by rw [← q]; exact List.mem_append_right _ m)
            · exact n3.2.2 b q b m rfl
          · exact n2.2.2 b (memx b m) b z rfl
      have kp : ∀ b ∈ fp d, ∀ o, H1 b = some o → upd H1 a0 (.lst ws0.dropLast) b = some o := fun b m o e => by
        rw [upd_ne (fun (q : b = a0) => nx.1 (by rw [← q]; exact List.mem_append_right _ m))]; exact e
      have memE : ∀ b ∈ fp d, b ∈ fpE env1 := fun b m => by rw [e1]; exact List.mem_append_right _ (List.mem_append_left _ (memx b m))
      have g4 : Good X.K Z1 (upd H1 a0 (.lst ws0.dropLast)) σ (upL env1 l (.lst a0 xs0.dropLast)) [v] [d] := by
        refine ⟨g3.same, g3.slots, .cons (rv.mono (Same.refl _) kp) .nil, ?_, fun b m => ?_⟩
        · simp only [fps, List.append_nil]
          exact List.nodup_append.mpr ⟨n3.2.1, by simpa [fps] using g3.nd, fun b hb c hc e => outE b hb (e ▸ hc)⟩
        · rcases List.mem_append.mp m with q | q
          · exact g1.free b (by simpa [fps] using memE b (by simpa [fps] using q))
          · exact g3.free b (by simpa [fps] using q)
      refine ⟨.inl ⟨rfl, _, .inl (.inl hh0)⟩, _, _, v, rfl, rfl, hh0, by rw [rs.length]; exact hv, k v _ Z1 _ _ ⟨fun b o e n => (st1.trans st3).keep b o e n, (st1.trans st3).grow, (st1.trans st3).ext, (st1.trans st3).znew, fun b m => ?_⟩ g4 h1⟩
      rcases List.mem_append.mp m with q | q
      · exact st1.fnew b (memE b (by simpa [fps] using q))
      · exact (st1.trans st3).fnew b q
  · exact h1.elim
/-- x[i] = e, x a list -/
def wSetI (wb : WB) (wi : WE) (wa : WE) : WS := fun q env => wa env fun d env1 => wb env1 fun l env2 => atL env2 l fun x => wi env2 fun i env3 => atL env3 l fun y => root y = root x ∧ match y, i with
  | .lst a xs, .sh (.int i) => onSm (ixN xs.length i) fun j => q.nx (upL env3 l (.lst a (xs.set j d)))
  | _, _ => False
theorem RepOs.set {K : PySem.W.Frag} {Z H : Hp} {v : V} {d : OD} (r : RepO K Z H v d) : ∀ {xs : List OD} {vs : List V} (j : Nat), RepOs K Z H vs xs → RepOs K Z H (vs.set j v) (xs.set j d)
  | _, _, _, .nil => .nil
  | _, _, 0, .cons _ t => .cons r t
  | _, _, j + 1, .cons q t => .cons q (RepOs.set r j t)
theorem ds_seti {o i : Expr} {wb : WB} {wi : WE} {pos' : Pos} (ho : DB X o wb) (hi : DE X i wi) (he : DE X e wa) (hsub : ∀ v, assign (.Subscript o i pos') X.env v = (do
      let ov ← holding [v] (eval o X.env)
      let iv ← holding [v, ov] (eval i X.env)
      standAt pos'
      holding [v, ov, iv] (setItem ov iv v)
      release [v, ov, iv] []) := by intro _; rfl) (hs : swapsWithSole [.Subscript o i pos'] e pos.line X.env = pure false := by rfl) (hw : swappedStores [.Subscript o i pos'] e X.env = pure none := by rfl)
    (h1 : (assignEach [.Subscript o i pos'] X.env).map (·.2) = [assign (.Subscript o i pos') X.env] := by rfl) : DS X (.Assign [.Subscript o i pos'] e pos) (wSetI wb wi wa) := by
  obtain ⟨to, po, qo⟩ := ho
  obtain ⟨ti, pi, qi⟩ := hi
  obtain ⟨te, pe, qe⟩ := he
  refine ⟨_, ps_asg pe (pg_sub po pi set_list hsub) hs hw h1, fun Z H σ env q D g hw o => ?_⟩
  refine qe Z H σ env _ _ g hw fun v H1 Z1 d env1 st1 g1 h1 => ?_
  refine qo Z1 H1 σ env1 _ _ g1.base h1 fun a H2 Z2 l env2 x st2 g2 hl hr h2 => ?_
  obtain ⟨g2', st2'⟩ := beside0 g1 st2 g2
  have h2 := atL_of hl h2
  refine qi Z2 H2 σ env2 _ _ g2 h2 fun w H3 Z3 y env3 st3 g3 h3 => ?_
  obtain ⟨g4, st4⟩ := g2'.cons st3 g3
  obtain ⟨y', ey, h3⟩ := h3
  · skip
    obtain ⟨er, h3⟩ := h3
    split at h3
    · rename_i a' xs i
      have ea : a' = a := by
        have := er.trans hr
        simpa [root] using this
      subst ea
      obtain ⟨j, ej, h3⟩ := h3
      · skip
        obtain ⟨ws, hh, rs⟩ := lst_at g4 ey
        have rv := g4.vals
        cases rv with
        | cons rv rw => cases rw with
          | cons rw _ => cases rw with
            | sh rw =>
              cases rw
              refine ⟨_, _, i, j, rfl, rfl, hh, by rw [rs.length]; exact ej, ?_⟩
              have nn := List.nodup_append.mp g4.nd
              have nd : (fp d).Nodup := by simpa [fps, fp] using nn.1
              obtain ⟨A, B, e1, _⟩ := look_split ey
              have nE := nn.2.1
              rw [e1] at nE
              have nx := (List.nodup_append.mp (List.nodup_append.mp nE).2.1).1
              have nxs := (List.nodup_cons.mp (show (a' :: fps xs).Nodup by simpa [fp] using nx)).2
              have xE : ∀ b ∈ fps xs, b ∈ fpE env3 := fun b m => by rw [e1]; exact List.mem_append_right _ (List.mem_append_left _ (by simp [fp, m]))
              have dx : ∀ b ∈ fp d, b ∉ fps xs := fun b m z => nn.2.2 b (by simp [fps, fp, m]) b (xE b z) rfl
              have setsub : ∀ b ∈ fps (xs.set j d), b ∈ fps xs ∨ b ∈ fp d := fun b m => by
                cases hx : xs[j]? with
                | none => rw [List.set_eq_of_length_le (by simpa using hx)] at m; exact .inl m
                | some c =>
                  obtain ⟨A', B', q1, q2⟩ := fps_split hx
                  rw [q2] at m
                  rw [q1]
                  simp only [List.mem_append] at m ⊢
                  rcases m with m | m | m
                  · exact .inl (.inl m)
                  · exact .inr m
                  · exact .inl (.inr (.inr m))
              have setnd : (fps (xs.set j d)).Nodup := by
                cases hx : xs[j]? with
                | none => rw [List.set_eq_of_length_le (by simpa using hx)]; exact nxs
                | some c =>
                  obtain ⟨A', B', q1, q2⟩ := fps_split hx
                  rw [q2]
                  rw [q1] at nxs dx
                  have m1 := List.nodup_append.mp nxs
                  have m2 := List.nodup_append.mp m1.2.1
                  refine List.nodup_append.mpr ⟨m1.1, List.nodup_append.mpr ⟨nd, m2.2.1, fun b hb c hc e => dx b hb (by rw [e]; simp [hc])⟩, fun b hb c hc e => ?_⟩
                  rcases List.mem_append.mp hc with q | q
                  · exact dx c q (by rw [← e]; simp [hb])
                  · exact m1.2.2 b hb c (List.mem_append_right _ q) e
              obtain ⟨g5, st5⟩ := g4.putList (ws := ws.set j v) (ys := xs.set j d) ey (rs.set rv j) (fun b m => (setsub b m).imp id fun z => by simp [fps, fp, z]) setnd
              exact o.nx _ _ Z3 _ (((st1.trans st2').trans st4).trans st5) g5 h3
    · exact h3.elim
end
end E8
/-! Dicts over trees. -/
namespace E8
open PySem PySem.Spec PyProof.Rows L2

def keyS : SD → Option Key
  | .int i => some (.inl i)
  | .str x => some (.inr x)
  | _ => none
/-- the place of a key -/
def kix (ks : List Key) (k : Key) : Option Nat := ks.findIdx? fun x => decide (x = k)
def dlook {α : Type} (ks : List Key) (xs : List α) (k : Key) : Option α := (kix ks k).bind fun j => xs[j]?
theorem kix_get : ∀ {ks : List Key} {k : Key} {j : Nat}, kix ks k = some j → ks[j]? = some k
  | ks, k, j, h => by
    unfold kix at h
    obtain ⟨hj, h1, _⟩ := List.findIdx?_eq_some_iff_getElem.mp h
    have e := of_decide_eq_true h1
    rw [List.getElem?_eq_getElem hj, e]
theorem kix_none {ks : List Key} {k : Key} (h : kix ks k = none) : k ∉ ks := fun m => by
  unfold kix at h
  rw [List.findIdx?_eq_none_iff] at h
  simpa using h k m
theorem val_zip : ∀ {ks : List Key} {vs : List V} {k : Key}, ks.length = vs.length → valV (ks.zip vs) k = dlook ks vs k
  | [], vs, k, h => by simp [valV, dlook, kix]
  | a :: ks, [], k, h => by simp at h
  | a :: ks, v :: vs, k, h => by
    have ih := val_zip (ks := ks) (vs := vs) (k := k) (by simpa using h)
    unfold dlook kix at ih ⊢
    rw [List.zip_cons_cons, List.findIdx?_cons]
    by_cases e : a = k
    · rw [valV_pos (p := (a, v)) e]
      simp [e]
    · rw [valV_neg (p := (a, v)) e, ih]
      simp only [e, decide_false, Bool.false_eq_true, if_false]
      cases List.findIdx? (fun x => decide (x = k)) ks with
      | none => rfl
      | some j => rfl
def dputK (ks : List Key) (k : Key) : List Key := match kix ks k with
  | some _ => ks
  | none => ks ++ [k]
def dputX {α : Type} (ks : List Key) (xs : List α) (k : Key) (x : α) : List α := match kix ks k with
  | some j => xs.set j x
  | none => xs ++ [x]
theorem put_zip {ks : List Key} {vs : List V} {k : Key} {v : V} (h : ks.length = vs.length) (nd : ks.Nodup) : putK (ks.zip vs) k v = (dputK ks k).zip (dputX ks vs k v) := by
  have an : ((ks.zip vs).any fun kv => decide (kv.1 = k)) = (kix ks k).isSome := by
    rw [valV_any, val_zip h]
    unfold dlook
    cases e : kix ks k with
    | none => rfl
    | some j =>
      have := kix_get e
      obtain ⟨hj, _⟩ := List.getElem?_eq_some_iff.mp this
      simp [List.getElem?_eq_getElem (show j < vs.length by omega)]
  unfold putK
  rw [an]
  unfold dputK dputX
  cases e : kix ks k with
  | none =>
    rw [if_neg (by simp)]
    dsimp only
    rw [List.zip_append h]
    rfl
  | some j =>
    rw [if_pos (show (some j).isSome = true from rfl)]
    dsimp only
    apply List.ext_getElem?
    intro i
    have hk := kix_get e
    obtain ⟨hj, hjk⟩ := List.getElem?_eq_some_iff.mp hk
    by_cases hi : i < ks.length
    · have hv : i < vs.length := by omega
      rw [List.getElem?_eq_getElem (by simp; omega), List.getElem?_eq_getElem (by simp; omega)]
      simp only [List.getElem_map, List.getElem_zip, Option.some.injEq]
      by_cases q : i = j
      · subst q
        rw [if_pos hjk]
        simp
      · have : ks[i] ≠ k := fun z => q ((List.getElem_inj nd).mp (z.trans hjk.symm))
        rw [if_neg this]
        simp [List.getElem_set, Ne.symm q]
    · rw [List.getElem?_eq_none (by simp; omega), List.getElem?_eq_none (by simp; omega)]
theorem dput_len {α : Type} {ks : List Key} {xs : List α} {k : Key} {x : α} (h : ks.length = xs.length) : (dputK ks k).length = (dputX ks xs k x).length := by
  unfold dputK dputX
  cases kix ks k with
  | none => simp [h]
  | some j => simp [h]
theorem dputK_nodup {ks : List Key} {k : Key} (n : ks.Nodup) : (dputK ks k).Nodup := by
  unfold dputK
  cases e : kix ks k with
  | none => exact List.nodup_append.mpr ⟨n, by simp, fun x hx y hy q => kix_none e (by simp at hy; rw [← hy, ← q]; exact hx)⟩
  | some j => exact n
section
variable {K : PySem.W.Frag} {Z H : Hp}
theorem key_rep {d : SD} {k : Key} {v : V} (h : keyS d = some k) (r : RepS K Z v d) : v = kV k := by
  cases r <;> simp [keyS] at h <;> subst h <;> rfl
theorem RepSs.dlook {ks : List Key} {vs : List V} {ds : List SD} {k : Key} (r : RepSs K Z vs ds) : match dlook ks ds k with
    | some d => ∃ v, dlook ks vs k = some v ∧ RepS K Z v d
    | none => dlook ks vs k = none := by
  unfold E8.dlook
  cases e : kix ks k with
  | none => rfl
  | some j =>
    dsimp only [Option.bind_some]
    cases ed : ds[j]? with
    | none =>
      dsimp only
      have : ds.length ≤ j := by simpa using ed
      rw [List.getElem?_eq_none (by rw [r.length]; exact this)]
    | some d => exact r.get ed
theorem RepOs.dlook {ks : List Key} {vs : List V} {ds : List OD} {k : Key} (r : RepOs K Z H vs ds) : match dlook ks ds k with
    | some d => ∃ v, dlook ks vs k = some v ∧ RepO K Z H v d
    | none => dlook ks vs k = none := by
  unfold E8.dlook
  cases e : kix ks k with
  | none => rfl
  | some j =>
    dsimp only [Option.bind_some]
    cases ed : ds[j]? with
    | none =>
      dsimp only
      have : ds.length ≤ j := by simpa using ed
      rw [List.getElem?_eq_none (by rw [r.length]; exact this)]
    | some d => exact r.get ed
end
/-- what a dict holds at a key -/
def dGet (x : OD) (y : OD) (k : Option SD → Prop) : Prop := match x, y with
  | .sh (.dic ks xs), .sh y => match keyS y with
    | some key => k (dlook ks xs key)
    | none => False
  | .dic _ ks xs, .sh y => match keyS y with
    | some key => ∃ o : Option SD, dlook ks xs key = o.map .sh ∧ k o
    | none => False
  | _, _ => False
/-- .. whether there is something -/
def dHas (x : OD) (y : OD) (k : Bool → Prop) : Prop := match x, y with
  | .sh (.dic ks xs), .sh y => match keyS y with
    | some key => k (dlook ks xs key).isSome
    | none => False
  | .dic _ ks xs, .sh y => match keyS y with
    | some key => k (dlook ks xs key).isSome
    | none => False
  | _, _ => False
section
variable {K : PySem.W.Frag} {Z H : Hp} {x y : OD} {v w : V}
theorem dget_rep {k : Option SD → Prop} (s : Same Z H) (rx : RepO K Z H v x) (ry : RepO K Z H w y) (h : dGet x y k) : ∃ a o o', v = .ref a ∧ DGet H a w o ∧ k o' ∧ (match o' with
    | some d => ∃ u, o = some u ∧ RepS K Z u d
    | none => o = none) := by
  unfold dGet at h
  split at h
  · rename_i ks xs y
    split at h
    · rename_i key e
      cases rx with
      | sh rx => cases rx with
        | dic q l n r => cases ry with
          | sh ry =>
            have ew := key_rep e ry
            subst ew
            refine ⟨_, _, _, rfl, DGet.k (s _ _ q), h, ?_⟩
            have z := r.dlook (ks := ks) (k := key)
            rw [val_zip l]
            cases ed : dlook ks xs key with
            | none => rw [ed] at z; exact z
            | some d => rw [ed] at z; exact z
    · exact h.elim
  · rename_i a ks xs y
    split at h
    · rename_i key e
      cases rx with
      | dic q l n r => cases ry with
        | sh ry =>
          have ew := key_rep e ry
          subst ew
          have z := r.dlook (ks := ks) (k := key)
          obtain ⟨o, ed, h⟩ := h
          cases o with
          | some d =>
            rw [ed] at z
            obtain ⟨u, h1, h2⟩ := z
            cases h2 with
            | sh h2 => exact ⟨_, _, _, rfl, DGet.k q, h, u, by rw [val_zip l]; exact h1, h2⟩
          | none =>
            rw [ed] at z
            exact ⟨_, _, _, rfl, DGet.k q, h, by dsimp only; rw [val_zip l]; exact z⟩
    · exact h.elim
  · exact h.elim
theorem dhas_rep {k : Bool → Prop} (s : Same Z H) (rx : RepO K Z H v x) (ry : RepO K Z H w y) (h : dHas x y k) : ∃ a o, v = .ref a ∧ DGet H a w o ∧ k o.isSome := by
  unfold dHas at h
  split at h
  · rename_i ks xs y
    split at h
    · rename_i key e
      cases rx with
      | sh rx => cases rx with
        | dic q l n r => cases ry with
          | sh ry =>
            have ew := key_rep e ry
            subst ew
            refine ⟨_, _, rfl, DGet.k (s _ _ q), ?_⟩
            have z := r.dlook (ks := ks) (k := key)
            rw [val_zip l]
            cases ed : dlook ks xs key with
            | none => rw [ed] at z h; rw [z]; exact h
            | some d => rw [ed] at z h; obtain ⟨u, z, _⟩ := z; rw [z]; exact h
    · exact h.elim
  · rename_i a ks xs y
    split at h
    · rename_i key e
      cases rx with
      | dic q l n r => cases ry with
        | sh ry =>
          have ew := key_rep e ry
          subst ew
          refine ⟨_, _, rfl, DGet.k q, ?_⟩
          have z := r.dlook (ks := ks) (k := key)
          rw [val_zip l]
          cases ed : dlook ks xs key with
          | none => rw [ed] at z h; rw [z]; exact h
          | some d => rw [ed] at z h; obtain ⟨u, z, _⟩ := z; rw [z]; exact h
    · exact h.elim
  · exact h.elim
end
/-- d[k] of a value, of a name -/
def wDGet (wa wb : WE) : WE := fun env Q => wSh wa env fun x env1 => wb env1 fun y env2 => dGet x y fun o => onSm o fun d => Q (.sh d) env2
def wDGetV (i : Nat) (wb : WE) : WE := fun env Q => onV env i fun _ => wb env fun y env1 => onV env1 i fun x => dGet x y fun o => onSm o fun d => Q (.sh d) env1
/-- k in d, of a value, of a name -/
def wDIn (neg : Bool) (wb wa : WE) : WE := fun env Q => wb env fun y env1 => wSh wa env1 fun x env2 => match y with
  | .sh _ => dHas x y fun b => Q (.sh (.bl (if neg then !b else b))) env2
  | _ => False
def wDInV (neg : Bool) (i : Nat) (wb : WE) : WE := fun env Q => wb env fun y env1 => onV env1 i fun x => match y with
  | .sh _ => dHas x y fun b => Q (.sh (.bl (if neg then !b else b))) env1
  | _ => False
section
variable {X : Cx} {e a b o i : Expr} {es : List Expr} {wa wb wi we : WE} {wr : WA} {bk : List (Option Nat)} {pos p : Pos}
theorem de_dget (hu : X.A.units + 1 < cLine) (ho : DE X o wa) (hi : DE X i wb) (hs : NoSl i := by exact fun _ _ => rfl) : DE X (.Subscript o i pos) (wDGet wa wb) := by
  obtain ⟨_, p1, q1⟩ := de_sh ho
  obtain ⟨_, p2, q2⟩ := hi
  refine ⟨_, pe_dget hu p1 p2 hs, fun Z H σ env Q P g hw k => ?_⟩
  refine q1 Z H σ env _ _ g hw fun v H1 Z1 d env1 st1 g1 h1 => ?_
  refine q2 Z1 H1 σ env1 _ _ g1.base h1 fun w H2 Z2 y env2 st2 g2 h2 => ?_
  obtain ⟨g3, st3⟩ := g1.cons st2 g2
  have rs := g3.vals
  cases rs with
  | cons rx rs => cases rs with
    | cons ry _ =>
      obtain ⟨a, o, o', ev, hd, hk, hm⟩ := dget_rep g3.same rx ry h2
      obtain ⟨d, ed, hk⟩ := hk
      subst ed
      · obtain ⟨u, eo, r⟩ := hm
        subst eo
        exact ⟨a, u, ev, hd, k u H2 Z2 _ env2 ((st1.trans st3).trans Step.result) (g3.result r) hk⟩
theorem de_dgetv (j : Nat) {x : Str} (hu : X.A.units + 1 < cLine) (hi : DE X i wb) (hN : X.N[j]? = some x := by rfl) (hv : Vis X.env.scope x := by first | exact Or.inl rfl | exact Or.inr (Or.inl rfl) | exact Or.inr (Or.inr rfl)) (hd : (x == ("__debug__" : Str)) = false := by decide)
    (hcd : (x == ("__classdict__" : Str)) = false := by decide) (hs : NoSl i := by exact fun _ _ => rfl) : DE X (.Subscript (.Name x p) i pos) (wDGetV j wb) := by
  obtain ⟨_, p2, q2⟩ := hi
  refine ⟨_, pe_dget hu (pe_var hN hv hd hcd) p2 hs, fun Z H σ env Q P g hw k => ?_⟩
  obtain ⟨d0, e0, hw⟩ := onV_of hw
  obtain ⟨v, hv, r0⟩ := g.slots.get e0
  refine ⟨v, hv, ?_⟩
  refine q2 Z H σ env _ _ g hw fun w H1 Z1 y env1 st1 g1 h1 => ?_
  obtain ⟨d1, e1, h1⟩ := onV_of h1
  obtain ⟨v', hv', r1⟩ := g1.slots.get e1
  have ev : v' = v := by rw [hv] at hv'; exact (Option.some.inj (Option.some.inj hv')).symm
  subst ev
  have rs := g1.vals
  cases rs with
  | cons ry _ =>
    obtain ⟨a, o, o', ev, hd, hk, hm⟩ := dget_rep g1.same r1 ry h1
    obtain ⟨d, ed, hk⟩ := hk
    subst ed
    · obtain ⟨u, eo, r⟩ := hm
      subst eo
      exact ⟨a, u, ev, hd, k u H1 Z1 _ env1 (st1.trans Step.result) (g1.result r) hk⟩
theorem sim_din {td ty : TE} (q1 : SimE X.K td (wSh wa)) (q2 : SimE X.K ty wb) : SimE X.K (tDIn ty td) (wDIn false wb wa) ∧ SimE X.K (tDNotIn ty td) (wDIn true wb wa) := by
  have main : ∀ (neg : Bool) (Z H : Hp) (σ : L2.St) (env : Env) (Q : OD → Env → Prop) (P : VK), Good X.K Z H σ env [] [] → wDIn neg wb wa env Q → (∀ v H' Z' d env', Step Z H (fpE env) Z' H' (fps [d] ++ fpE env') → Good X.K Z' H' σ env' [v] [d] → Q d env' → P v H') →
      ty σ H fun y H1 => td σ H1 fun x H2 => ∃ a o, x = .ref a ∧ DGet H2 a y o ∧ P (.bl (if neg then !o.isSome else o.isSome)) H2 := fun neg Z H σ env Q P g hw k => by
    refine q2 Z H σ env _ _ g hw fun w H1 Z1 y env1 st1 g1 h1 => ?_
    refine q1 Z1 H1 σ env1 _ _ g1.base h1 fun v H2 Z2 d env2 st2 g2 h2 => ?_
    obtain ⟨g3, st3⟩ := g1.cons st2 g2
    have rs := g3.vals
    cases rs with
    | cons ry rs => cases rs with
      | cons rx _ =>
        split at h2
        · obtain ⟨a, o, ev, hd, hk⟩ := dhas_rep g3.same rx ry h2
          exact ⟨a, o, ev, hd, k _ H2 Z2 _ env2 ((st1.trans st3).trans Step.result) (g3.result (.bl _)) hk⟩
        · exact h2.elim
  exact ⟨fun Z H σ env Q P g hw k => main false Z H σ env Q P g hw k, fun Z H σ env Q P g hw k => main true Z H σ env Q P g hw k⟩
theorem de_din (hu : X.A.units + 1 < cLine) (hi : DE X i wb) (ho : DE X o wa) (hm : behindInMarks .In o = false := by rfl) : DE X (.Compare i [.In] [o] pos) (wDIn false wb wa) := by
  obtain ⟨_, p1, q1⟩ := de_sh ho
  obtain ⟨_, p2, q2⟩ := hi
  exact ⟨_, pe_cmp (pc_din hu p2 p1) hm, (sim_din q1 q2).1⟩
theorem de_dnotin (hu : X.A.units + 1 < cLine) (hi : DE X i wb) (ho : DE X o wa) (hm : behindInMarks .NotIn o = false := by rfl) : DE X (.Compare i [.NotIn] [o] pos) (wDIn true wb wa) := by
  obtain ⟨_, p1, q1⟩ := de_sh ho
  obtain ⟨_, p2, q2⟩ := hi
  exact ⟨_, pe_cmp (pc_dnotin hu p2 p1) hm, (sim_din q1 q2).2⟩
theorem dt_din (hu : X.A.units + 1 < cLine) (hi : DE X i wb) (ho : DE X o wa) (hm : behindInMarks .In o = false := by rfl) : DT X (.Compare i [.In] [o] pos) (wB (wDIn false wb wa)) := by
  obtain ⟨_, p1, q1⟩ := de_sh ho
  obtain ⟨_, p2, q2⟩ := hi
  exact ⟨_, pt_cmp (pc_din hu p2 p1) hm, sim_b (sim_din q1 q2).1⟩
theorem sim_dinv {ty : TE} (j : Nat) (q2 : SimE X.K ty wb) : SimE X.K (tDIn ty (tVar j)) (wDInV false j wb) ∧ SimE X.K (tDNotIn ty (tVar j)) (wDInV true j wb) := by
  have main : ∀ (neg : Bool) (Z H : Hp) (σ : L2.St) (env : Env) (Q : OD → Env → Prop) (P : VK), Good X.K Z H σ env [] [] → wDInV neg j wb env Q → (∀ v H' Z' d env', Step Z H (fpE env) Z' H' (fps [d] ++ fpE env') → Good X.K Z' H' σ env' [v] [d] → Q d env' → P v H') →
      ty σ H fun y H1 => tVar j σ H1 fun x H2 => ∃ a o, x = .ref a ∧ DGet H2 a y o ∧ P (.bl (if neg then !o.isSome else o.isSome)) H2 := fun neg Z H σ env Q P g hw k => by
    refine q2 Z H σ env _ _ g hw fun w H1 Z1 y env1 st1 g1 h1 => ?_
    obtain ⟨d1, e1, h1⟩ := onV_of h1
    obtain ⟨v, hv, r1⟩ := g1.slots.get e1
    refine ⟨v, hv, ?_⟩
    have rs := g1.vals
    cases rs with
    | cons ry rs =>
      split at h1
      · obtain ⟨a, o, ev, hd, hk⟩ := dhas_rep g1.same r1 ry h1
        exact ⟨a, o, ev, hd, k _ H1 Z1 _ env1 (st1.trans Step.result) (g1.result (.bl _)) hk⟩
      · exact h1.elim
  exact ⟨fun Z H σ env Q P g hw k => main false Z H σ env Q P g hw k, fun Z H σ env Q P g hw k => main true Z H σ env Q P g hw k⟩
theorem de_dinv (j : Nat) {x : Str} (hu : X.A.units + 1 < cLine) (hi : DE X i wb) (hN : X.N[j]? = some x := by rfl) (hv : Vis X.env.scope x := by first | exact Or.inl rfl | exact Or.inr (Or.inl rfl) | exact Or.inr (Or.inr rfl)) (hd : (x == ("__debug__" : Str)) = false := by decide)
    (hcd : (x == ("__classdict__" : Str)) = false := by decide) (hm : behindInMarks .In (.Name x p) = false := by rfl) : DE X (.Compare i [.In] [.Name x p] pos) (wDInV false j wb) := by
  obtain ⟨_, p2, q2⟩ := hi
  exact ⟨_, pe_cmp (pc_din hu p2 (pe_var hN hv hd hcd)) hm, (sim_dinv j q2).1⟩
theorem de_dnotinv (j : Nat) {x : Str} (hu : X.A.units + 1 < cLine) (hi : DE X i wb) (hN : X.N[j]? = some x := by rfl) (hv : Vis X.env.scope x := by first | exact Or.inl rfl | exact Or.inr (Or.inl rfl) | exact Or.inr (Or.inr rfl)) (hd : (x == ("__debug__" : Str)) = false := by decide)
    (hcd : (x == ("__classdict__" : Str)) = false := by decide) (hm : behindInMarks .NotIn (.Name x p) = false := by rfl) : DE X (.Compare i [.NotIn] [.Name x p] pos) (wDInV true j wb) := by
  obtain ⟨_, p2, q2⟩ := hi
  exact ⟨_, pe_cmp (pc_dnotin hu p2 (pe_var hN hv hd hcd)) hm, (sim_dinv j q2).2⟩
theorem dt_dinv (j : Nat) {x : Str} (hu : X.A.units + 1 < cLine) (hi : DE X i wb) (hN : X.N[j]? = some x := by rfl) (hv : Vis X.env.scope x := by first | exact Or.inl rfl | exact Or.inr (Or.inl rfl) | exact Or.inr (Or.inr rfl)) (hd : (x == ("__debug__" : Str)) = false := by decide)
    (hcd : (x == ("__classdict__" : Str)) = false := by decide) (hm : behindInMarks .In (.Name x p) = false := by rfl) : DT X (.Compare i [.In] [.Name x p] pos) (wB (wDInV false j wb)) := by
  obtain ⟨_, p2, q2⟩ := hi
  exact ⟨_, pt_cmp (pc_din hu p2 (pe_var hN hv hd hcd)) hm, sim_b (sim_dinv j q2).1⟩
theorem dt_dnotinv (j : Nat) {x : Str} (hu : X.A.units + 1 < cLine) (hi : DE X i wb) (hN : X.N[j]? = some x := by rfl) (hv : Vis X.env.scope x := by first | exact Or.inl rfl | exact Or.inr (Or.inl rfl) | exact Or.inr (Or.inr rfl)) (hd : (x == ("__debug__" : Str)) = false := by decide)
    (hcd : (x == ("__classdict__" : Str)) = false := by decide) (hm : behindInMarks .NotIn (.Name x p) = false := by rfl) : DT X (.Compare i [.NotIn] [.Name x p] pos) (wB (wDInV true j wb)) := by
  obtain ⟨_, p2, q2⟩ := hi
  exact ⟨_, pt_cmp (pc_dnotin hu p2 (pe_var hN hv hd hcd)) hm, sim_b (sim_dinv j q2).2⟩
/-- {} -/
def wDNew : WE := fun env Q => ∀ p, Q (.dic p [] []) env
theorem de_dnew : DE X (.Dict [] [] pos) wDNew := ⟨_, pe_dnewK, fun Z H σ env Q P g hw k p hp => by
  obtain ⟨g1, st, np, zp⟩ := g.alloc (o := .dK []) hp
  have e0 : fps [OD.dic p [] []] = [p] := by simp [fps, fp]
  refine k (.ref p) _ Z _ env ?_ ⟨g1.same, g1.slots, .cons (.dic (vs := []) upd_same rfl List.nodup_nil .nil) .nil, ?_, fun a m => ?_⟩ (hw p)
  · rw [e0]; simpa [fps] using st
  · rw [e0]
    simpa [fps] using ⟨by simpa [fps] using np, by simpa [fps] using g.nd⟩
  · rw [e0] at m
    rcases List.mem_append.mp m with q | q
    · have : a = p := by simpa using q
      rw [this]; exact zp
    · exact g.free a (by simpa [fps] using q)⟩
/-- d[k] = v -/
def wDSet (wb : WB) (wi wa : WE) : WS := fun q env => wSh wa env fun d env1 => wb env1 fun l env2 => atL env2 l fun x => wi env2 fun y env3 => atL env3 l fun x' => root x' = root x ∧ match x', y with
  | .dic a ks xs, .sh y => match keyS y with
    | some key => ks.length < sizeLine ∧ fps xs = [] ∧ q.nx (upL env3 l (.dic a (dputK ks key) (dputX ks xs key d)))
    | none => False
  | _, _ => False
theorem ds_dset {value : Expr} {wbb : WB} {pos' : Pos} (hu : X.A.units + 1 < cLine) (ho : DB X o wbb) (hi : DE X i wi) (hv : DE X value wa) (hs : swapsWith value (some (.Subscript o i pos')) pos.line X.env = pure false := by rfl) : DS X (.Assign [.Subscript o i pos'] value pos) (wDSet wbb wi wa) := by
  obtain ⟨_, po, qo⟩ := ho
  obtain ⟨_, pi, qi⟩ := hi
  obtain ⟨_, pv, qv⟩ := de_sh hv
  refine ⟨_, ps_dput hu po pi pv hs, fun Z H σ env q D g hw o => ?_⟩
  refine qv Z H σ env _ _ g hw fun v H1 Z1 d env1 st1 g1 h1 => ?_
  refine qo Z1 H1 σ env1 _ _ g1.base h1 fun a H2 Z2 l env2 x st2 g2 hl hr h2 => ?_
  obtain ⟨g2', st2'⟩ := beside0 g1 st2 g2
  have h2 := atL_of hl h2
  refine qi Z2 H2 σ env2 _ _ g2 h2 fun w H3 Z3 y env3 st3 g3 h3 => ?_
  obtain ⟨g4, st4⟩ := g2'.cons st3 g3
  obtain ⟨x', ex, h3⟩ := h3
  · skip
    obtain ⟨er, h3⟩ := h3
    split at h3
    · rename_i a' ks xs y'
      split at h3
      · rename_i key ek
        obtain ⟨hz, hx0, h3⟩ := h3
        have ea : a' = a := by
          have := er.trans hr
          simpa [root] using this
        subst ea
        obtain ⟨wx, rx⟩ := g4.at ex
        cases rx with
        | @dic _ _ vs _ hh hl' hn rs =>
          have rv := g4.vals
          cases rv with
          | cons rv rw => cases rw with
            | cons rw _ => cases rw with
              | sh rw =>
                have ew := key_rep ek rw
                subst ew
                refine ⟨a', _, rfl, DPut.k hh (by rw [List.length_zip, ← hl', Nat.min_self]; exact hz), ?_⟩
                have eput := put_zip (v := v) (k := key) hl' hn
                have a0 : a' ∉ fp d := fun m => by
                  have nn := List.nodup_append.mp g4.nd
                  obtain ⟨A, B, e1, _⟩ := look_split ex
                  exact nn.2.2 a' (by simp [fps, m]) a' (by rw [e1]; simp [fp]) rfl
                have setsub : ∀ b ∈ fps (dputX ks xs key d), b ∈ fp d := fun b m => by
                  unfold dputX at m
                  split at m
                  · rename_i j _
                    cases hx : xs[j]? with
                    | none => rw [List.set_eq_of_length_le (by simpa using hx), hx0] at m; cases m
                    | some c =>
                      obtain ⟨A', B', q1, q2⟩ := fps_split hx
                      rw [hx0] at q1
                      obtain ⟨e1, e2⟩ := List.append_eq_nil_iff.mp q1.symm
                      obtain ⟨e2, e3⟩ := List.append_eq_nil_iff.mp e2
                      rw [q2, e1, e3] at m
                      simpa using m
                  · rw [fps_append, hx0] at m
                    simpa [fps] using m
                have setnd : (fps (dputX ks xs key d)).Nodup := by
                  have nd : (fp d).Nodup := by
                    have := (List.nodup_append.mp g4.nd).1
                    simpa [fps, fp] using this
                  unfold dputX
                  split
                  · rename_i j _
                    cases hx : xs[j]? with
                    | none => rw [List.set_eq_of_length_le (by simpa using hx), hx0]; exact List.nodup_nil
                    | some c =>
                      obtain ⟨A', B', q1, q2⟩ := fps_split hx
                      rw [hx0] at q1
                      obtain ⟨e1, e2⟩ := List.append_eq_nil_iff.mp q1.symm
                      obtain ⟨e2, e3⟩ := List.append_eq_nil_iff.mp e2
                      rw [q2, e1, e3]
                      simpa using nd
                  · rw [fps_append, hx0]
                    simpa [fps] using nd
                have r2 : RepOs X.K Z3 H3 (dputX ks vs key v) (dputX ks xs key d) := by
                  unfold dputX
                  split
                  · exact rs.set rv _
                  · exact rs.append (.cons rv .nil)
                have kp : ∀ b ∈ fps (dputX ks xs key d), ∀ o, H3 b = some o → upd H3 a' (.dK (putK (ks.zip vs) key v)) b = some o := fun b m o e => by
                  rw [upd_ne (fun (q : b = a') => a0 (by rw [← q]; exact setsub b m))]; exact e
                obtain ⟨g5, st5⟩ := g4.mut (o' := .dK (putK (ks.zip vs) key v)) (y := .dic a' (dputK ks key) (dputX ks xs key d)) ex rfl
                  (.dic (vs := dputX ks vs key v) (by rw [← eput]; exact upd_same) (dput_len hl') (dputK_nodup hn) (r2.mono (Same.refl _) kp)) (fun b m => by
                    rcases List.mem_cons.mp (show b ∈ a' :: fps (dputX ks xs key d) by simpa [fp] using m) with q | q
                    · exact .inl (by simp [fp, q])
                    · exact .inr (by simp [fps, setsub b q])) (by
                    have : a' ∉ fps (dputX ks xs key d) := fun m => a0 (setsub a' m)
                    simpa [fp] using ⟨this, setnd⟩)
                exact o.nx _ _ Z3 _ (((st1.trans st2').trans st4).trans st5) g5 h3
      · exact h3.elim
    · exact h3.elim
/-- dict(d): a copy; d is frozen -/
theorem call_dict_of : CallR X (.type "dict") (fun xs H Q => ∃ a kvs, xs = [.ref a] ∧ Rd H a (.dK kvs) ∧ ∀ p, H p = none → Q (.ref p) (upd H p (.dK kvs))) := by
  intro pins s σ H xs us Q I rs h
  obtain ⟨a, kvs, rfl, e, q⟩ := h
  have eu := Vals.ref1 rs
  subst eu
  exact d_copyOf I e fun p s' hp I' => ⟨.ref p, _, I', rfl, q p hp⟩
def wDict (ds : List OD) (k : OD → Prop) : Prop := match ds with
  | [d] => match frz d with
    | .dic ks xs => ∀ p, k (.dic p ks (xs.map .sh))
    | _ => False
  | _ => False
theorem c_dict : CallD X (.type "dict") wDict := ⟨_, call_dict_of, fun Z H σ env vs ds k P g hw c => by
  unfold wDict at hw
  split at hw
  · rename_i d
    obtain ⟨g2, st2, r⟩ := g.freeze
    obtain ⟨v, ev, r1⟩ := frz1 r
    subst ev
    split at hw
    · rename_i ks xs e
      rw [e] at r1
      cases r1 with
      | dic hh hl hn rs =>
        refine ⟨_, _, rfl, .inl (g2.same _ _ hh), fun p hp => ?_⟩
        obtain ⟨g3, st3, np, zp⟩ := g2.base.alloc (o := .dK (ks.zip _)) hp
        have e0 : fps [OD.dic p ks (xs.map .sh)] = [p] := by simp [fps, fp, fps_sh]
        refine c (.ref p) _ _ (.dic p ks (xs.map .sh)) ((st2.less fun a m => List.mem_append_right _ m).trans ?_) ⟨g3.same, g3.slots, .cons (.dic upd_same hl hn (rs.mapO)) .nil, ?_, fun a m => ?_⟩ (hw p)
        · rw [e0]; simpa [fps] using st3
        · rw [e0]
          simpa [fps] using ⟨by simpa [fps] using np, by simpa [fps] using g3.nd⟩
        · rw [e0] at m
          rcases List.mem_append.mp m with q | q
          · have : a = p := by simpa using q
            rw [this]; exact zp
          · exact g3.free a (by simpa [fps] using q)
    · exact hw.elim
  · exact hw.elim⟩
end
end E8
/-! == of dicts whose values are data. -/
namespace E8
open PySem PySem.Spec PyProof.Rows L2

def kfind (kb : List (Key × PyData)) (k : Key) : Option PyData := (kb.find? fun kv => decide (kv.1 = k)).map (·.2)
def dHits (kb : List (Key × PyData)) : List (Key × PyData) → Bool
  | [] => true
  | (k, p) :: r => match kfind kb k with
    | none => false
    | some q => PyData.eqv p q && dHits kb r
def dEqv (ka kb : List (Key × PyData)) : Bool := ka.length == kb.length && dHits kb ka
def okP (p : PyData) : Bool := p.canLay0 && decide (p.depth ≤ 60)
def DpK (K : PySem.W.Frag) (H : Hp) : List (Key × V) → List (Key × PyData) → Prop := Paired fun a b => a.1 = b.1 ∧ Dp K H a.2 b.2 ∧ okP b.2 = true
section
variable {X : Cx} {pins : List (Addr × Obj)} {σ : L2.St} {H : Hp} {s : Shared}
theorem DpK.find {K : PySem.W.Frag} {ls : List (Key × V)} {qs : List (Key × PyData)} (r : DpK K H ls qs) (k : Key) : match kfind qs k with
    | some q => ∃ v, valV ls k = some v ∧ Dp K H v q ∧ okP q = true
    | none => valV ls k = none := by
  unfold DpK at r
  induction r with
  | nil => rfl
  | @cons a b as bs h t ih =>
    obtain ⟨h1, h2, h3⟩ := h
    unfold kfind at ih ⊢
    rw [List.find?_cons]
    by_cases e : b.1 = k
    · rw [decide_eq_true e]
      exact ⟨a.2, valV_pos (h1.trans e), h2, h3⟩
    · rw [decide_eq_false e]
      rw [valV_neg (fun z => e (h1.symm.trans z))]
      exact ih
theorem eqAt_dp (I : Inv X pins σ H s) {A : Around} (hu : A.units + 60 < cLine) {x y : V} {p q : PyData} {v u : Value} (hx : Dp X.K H x p) (hy : Dp X.K H y q) (ox : okP p = true) (oy : okP q = true) (rx : RelV x v) (ry : RelV y u) : SeqAt.EqAt A s v u (PyData.eqv p q) := by
  obtain ⟨as, r1⟩ := Dp.reads I p x v hx rx
  obtain ⟨bs, r2⟩ := Dp.reads I q y u hy ry
  unfold okP at ox oy
  rw [Bool.and_eq_true] at ox oy
  have h1 := of_decide_eq_true ox.2
  have h2 : min p.depth q.depth ≤ p.depth := Nat.min_le_left _ _
  exact SeqAt.eqAt_reads p q A s v u as bs r1 r2 ox.1 oy.1 (by omega)
theorem hits_dp (I : Inv X pins σ H s) {A : Around} (hu : A.units + 60 < cLine) {ls : List (Key × V)} {qs : List (Key × PyData)} (rl : DpK X.K H ls qs) {vb : List (Key × Value)} (rb : KV ls vb) : ∀ {ks : List (Key × V)} {ps : List (Key × PyData)} {va : List (Key × Value)}, DpK X.K H ks ps → KV ks va → PySem.W.KeqHitsP X.prog X.w A s vb va (dHits qs ps) := by
  intro ks ps va r
  unfold DpK at r
  induction r generalizing va with
  | nil => intro ra; cases ra; exact .nil
  | @cons a b as bs h t ih =>
    intro ra
    cases ra with
    | @cons _ c _ cs rc ra =>
      obtain ⟨h1, h2, h3⟩ := h
      obtain ⟨e1, e2⟩ := rc
      obtain ⟨ck, cv⟩ := c
      obtain ⟨bk, bp⟩ := b
      obtain ⟨ak, av⟩ := a
      dsimp only at h1 h2 h3 e1 e2
      subst h1 e1
      have f := DpK.find rl ak
      unfold dHits
      split
      · rename_i e
        rw [e] at f
        have q : valV ls ak = none := f
        have z := rb.val ak
        rw [q] at z
        exact .miss z.none_of
      · rename_i q e
        rw [e] at f
        obtain ⟨w, f1, f2, f3⟩ := f
        have z := rb.val ak
        rw [f1] at z
        obtain ⟨u, hu', ru⟩ := z.some_of
        exact .hit hu' (SeqAt.EqAt.eqP (eqAt_dp I hu h2 f2 h3 f3 e2 ru)) (ih ra)
def rEqK (K : PySem.W.Frag) : R2 := fun x y H Q => ∃ a b ks ls ps qs, x = .ref a ∧ y = .ref b ∧ H a = some (.dK ks) ∧ H b = some (.dK ls) ∧ DpK K H ks ps ∧ DpK K H ls qs ∧ Q (.bl (dEqv ps qs)) H
theorem op_eqK (hu : X.A.units + 64 < cLine) : OpR X (compareOp .Eq) (rEqK X.K) := by
  intro pins s σ H x y v u Q I rx ry h
  obtain ⟨a, b, ks, ls, ps, qs, rfl, rfl, ha, hb, dp, dq, q⟩ := h
  cases (show v = Value.ref a from rx)
  cases (show u = Value.ref b from ry)
  obtain ⟨_, ya, va, ra, da⟩ := (show ObjOk X.prog X.w H s.heap a (.dK ks) from I.hok a _ ha)
  obtain ⟨_, yb, vb, rb, db⟩ := (show ObjOk X.prog X.w H s.heap b (.dK ls) from I.hok b _ hb)
  refine PySem.W.rcP_dicts (knd := mixKind X.prog X.w) (r := dHits qs ps) ya yb da db (by omega) (fun _ => hits_dp I (A := X.A.in1) (by show X.A.units + 1 + 60 < cLine; omega) dq rb dp ra) _ _ ⟨.bl _, H, I, rfl, ?_⟩
  have e : va.length = ps.length := by rw [← ra.length]; exact Paired.length dp
  have e2 : vb.length = qs.length := by rw [← rb.length]; exact Paired.length dq
  rw [e, e2]
  exact q
theorem dpK_zip {K : PySem.W.Frag} {Z H : Hp} (sm : Same Z H) : ∀ {ks : List Key} {vs : List V} {ds : List SD} {ps : List PyData}, RepSs K Z vs ds → pds ds = some ps → (∀ p ∈ ps, okP p = true) → DpK K H (ks.zip vs) (ks.zip ps)
  | [], _, _, _, _, _, _ => .nil
  | k :: ks, _, [], _, .nil, e, _ => by cases e; exact .nil
  | k :: ks, _, d :: ds, _, .cons r rs, e, h => by
    unfold pds at e
    split at e
    · rename_i p q e1 e2
      cases e
      exact .cons ⟨rfl, dp_of sm r e1, h p (by simp)⟩ (dpK_zip sm rs e2 fun z hz => h z (by simp [hz]))
    · cases e
/-- == where there may be dicts, too -/
def wEqK (x y : OD) (k : OD → Prop) : Prop := match x, y with
  | .sh (.dic ks xs), .sh (.dic ls ys) => match pds xs, pds ys with
    | some ps, some qs => (∀ p ∈ ps, okP p = true) ∧ (∀ q ∈ qs, okP q = true) ∧ k (.sh (.bl (dEqv (ks.zip ps) (ls.zip qs))))
    | _, _ => False
  | _, _ => False
theorem d_eqK (hu : X.A.units + 64 < cLine) : OpD X (compareOp .Eq) wEqK := ⟨_, op_eqK hu, op_shared fun Z H vx vy dx dy k P sm rx ry hw c => by
  unfold wEqK at hw
  split at hw
  · cases rx with
    | sh rx => cases ry with
      | sh ry => cases rx with
        | dic ha la na ra => cases ry with
          | dic hb lb nb rb =>
            split at hw
            · rename_i ps qs e1 e2
              exact ⟨_, _, _, _, _, _, rfl, rfl, sm _ _ ha, sm _ _ hb, dpK_zip sm ra e1 hw.1, dpK_zip sm rb e2 hw.2.1, c _ _ (.bl _) hw.2.2⟩
            · exact hw.elim
  · exact hw.elim⟩
end
end E8
/-! enumerate; the built-ins' names. -/
namespace E8
open PySem PySem.Spec PyProof.Rows L2
/-- a new pair for each item -/
theorem pair_step {K : PySem.W.Frag} {Z1 H1 : Hp} {T : Addr} {vs : List V} {ds : List SD} (s2 : Same Z1 H1) (hT : H1 T = none) (r : RepSs K Z1 vs ds) :
    ∃ Z2, Step Z1 H1 [] Z2 (upd H1 T (.tup vs)) [] ∧ Same Z2 (upd H1 T (.tup vs)) ∧ RepS K Z2 (.ref T) (.tup ds) := by
  have g : Good K Z1 H1 [] [] [] [] := ⟨s2, .nil, .nil, by simp [fps, fpE], fun a m => by simp [fps, fpE] at m⟩
  obtain ⟨g2, st⟩ := g.freshT r hT
  have rs := g2.vals
  cases rs with
  | cons r2 _ => cases r2 with
    | sh r2 => exact ⟨_, by simpa [fps, fp, fpE] using st, g2.same, r2⟩
def enumS : Nat → List SD → List SD
  | _, [] => []
  | i, d :: ds => .tup [.int (i : Nat), d] :: enumS (i + 1) ds
theorem enumS_len : ∀ (ds : List SD) (i : Nat), (enumS i ds).length = ds.length
  | [], _ => rfl
  | d :: ds, i => by simp [enumS, enumS_len ds]
theorem enumS_get : ∀ (ds : List SD) (i j : Nat), (enumS i ds)[j]? = ds[j]?.map fun d => .tup [.int ((i + j : Nat) : Int), d]
  | [], _, _ => by simp [enumS]
  | d :: ds, i, 0 => by simp [enumS]
  | d :: ds, i, j + 1 => by
    simp only [enumS, List.getElem?_cons_succ, enumS_get ds (i + 1) j]
    rw [show i + 1 + j = i + (j + 1) by omega]
theorem ite_ok {K : PySem.W.Frag} {Z : Hp} {a : Addr} {vs : List V} {items : List SD} (h : SqL K Z a vs) (r : RepSs K Z vs items) : ItOk K Z (Ite K a) (enumS 0 items) := fun Z1 H1 s1 s2 => by
  have hs : SqL K H1 a vs := (s1.trans s2).seq h
  refine ⟨fun i d e => ?_, ⟨vs, hs, by rw [enumS_len, r.length]; exact Nat.le_refl _⟩⟩
  rw [enumS_get] at e
  cases ed : items[i]? with
  | none => rw [ed] at e; cases e
  | some x =>
    rw [ed] at e
    have e' := Option.some.inj e
    subst e'
    obtain ⟨v, e1, e2⟩ := r.get ed
    refine ⟨⟨vs, v, hs, e1⟩, fun x' H2 y => ?_⟩
    obtain ⟨T, xv, rfl, hT, rfl, hx⟩ := y
    have ev := hx vs hs
    rw [e1] at ev
    have evx : v = xv := Option.some.inj ev
    subst evx
    have := pair_step (K := K) (vs := [.int (i : Nat), v]) (ds := [.int (i : Nat), x]) s2 hT (.cons (.int _) (.cons (e2.mono s1) .nil))
    simpa using this
def wiEnum (wr : WA) : WI := fun env Q => wr env fun ds env1 => match ds with
  | [d] => match frz d with
    | .lst xs => Q (enumS 0 xs) env1
    | .scr xs => Q (enumS 0 xs) env1
    | _ => False
  | _ => False
section
variable {X : Cx} {e a : Expr} {es elts : List Expr} {kk : Nat} {wr : WA} {bk : List (Option Nat)} {pos p tpos : Pos}
theorem di_enum (hm : X.mg "enumerate" = none) (ha : DA X [e] bk wr) (hg : Gl X "enumerate" := by rfl) (hs : starEach [e] X.env = [(false, eval e X.env)] := by rfl) : DI X (.Tuple elts kk tpos) (.Call (.Name "enumerate" p) [e] [] pos) (wiEnum wr) :=
  let ⟨_, p, q⟩ := ha; ⟨_, pi_enum hg hm p hs, fun Z H σ env Q R g hw k => by
    refine q Z H σ env _ _ g hw fun vs H1 Z1 ds env1 st1 g1 bk h1 => ?_
    split at h1
    · rename_i d
      obtain ⟨g2, st2, r⟩ := g1.freeze
      obtain ⟨v, ev, r1⟩ := frz1 r
      subst ev
      have st : Step Z H (fpE env) (zOf Z1 H1 (fps [d])) H1 (fpE env1) := (st1.trans st2).less fun x m => List.mem_append_right _ m
      split at h1
      · rename_i xs e
        rw [e] at r1
        cases r1 with
        | lst hh rs => exact ⟨_, _, rfl, .inl (.inl (g2.same _ _ hh)), k _ H1 _ _ env1 st g2.base (ite_ok (.inl (.inl hh)) rs) h1⟩
      · rename_i xs e
        rw [e] at r1
        cases r1 with
        | scr hh rs => exact ⟨_, _, rfl, g2.same.seq hh, k _ H1 _ _ env1 st g2.base (ite_ok hh rs) h1⟩
      · exact h1.elim
    · exact h1.elim⟩
end
/-- no name of the text hides these -/
structure Blt (mg : Str → Option Value) : Prop where
  len : mg "len" = none
  range : mg "range" = none
  list : mg "list" = none
  tuple : mg "tuple" = none
  dict : mg "dict" = none
  min : mg "min" = none
  max : mg "max" = none
  int : mg "int" = none
  bool : mg "bool" = none
  isinstance : mg "isinstance" = none
  enumerate : mg "enumerate" = none
  zip : mg "zip" = none
  reversed : mg "reversed" = none
  str : mg "str" = none
  set : mg "set" = none
theorem bt_list : bootBuiltins "list" = some (.type "list") := by decide +kernel
theorem bt_tuple : bootBuiltins "tuple" = some (.type "tuple") := by decide +kernel
theorem bt_dict : bootBuiltins "dict" = some (.type "dict") := by decide +kernel
theorem bt_int : bootBuiltins "int" = some (.type "int") := by decide +kernel
theorem bt_bool : bootBuiltins "bool" = some (.type "bool") := by decide +kernel
theorem bt_str : bootBuiltins "str" = some (.type "str") := by decide +kernel
theorem bt_min : bootBuiltins "min" = some (.builtin "min") := by decide +kernel
theorem bt_max : bootBuiltins "max" = some (.builtin "max") := by decide +kernel
theorem bt_len : bootBuiltins "len" = some (.builtin "len") := by decide +kernel
theorem bt_isi : bootBuiltins "isinstance" = some (.builtin "isinstance") := by decide +kernel
end E8
/-! Values looked at while they stay owned: x is None, calls that only look, places in a tuple. -/
namespace E8
open PySem PySem.Spec PyProof.Rows L2
section
variable {X : Cx} {e : Expr} {es : List Expr} {wr : WA} {bk : List (Option Nat)} {pos p p2 : Pos}
/-- x is None, x is not None, of a name -/
def wIsV (i : Nat) (neg : Bool) : WE := fun env Q => onV env i fun x => Q (.sh (.bl (if neg then !isNon x else isNon x))) env
theorem de_isv0 {op : CmpOp} {neg : Bool} {r : R2} (i : Nat) {x : Str} {j} (ho : OpR X (compareOp op) r) (hb : behindInMarks op (.Constant .none j p2) = false) (hr : ∀ (v : V) (H : Hp) (Q : VK), Q (.bl (if neg then !decide (v = .non) else decide (v = .non))) H → r v .non H Q) (hN : X.N[i]? = some x) (hv : Vis X.env.scope x) (hd : (x == ("__debug__" : Str)) = false)
    (hcd : (x == ("__classdict__" : Str)) = false) : DE X (.Compare (.Name x p) [op] [.Constant .none j p2] pos) (wIsV i neg) ∧ DT X (.Compare (.Name x p) [op] [.Constant .none j p2] pos) (wB (wIsV i neg)) := by
  have s : SimE X.K (tOp r (tVar i) (tC .non)) (wIsV i neg) := fun Z H σ env Q P g hw k => by
    obtain ⟨d0, e0, hw⟩ := onV_of hw
    obtain ⟨v, hv, r0⟩ := g.slots.get e0
    refine ⟨v, hv, hr v H _ ?_⟩
    rw [isNon_of r0]
    exact k _ H Z _ env (Step.result (ds := [])) (g.result (.bl _)) hw
  exact ⟨⟨_, pe_cmpR ho (pe_var hN hv hd hcd) pe_non hb, s⟩, ⟨_, pt_cmpR ho (pe_var hN hv hd hcd) pe_non hb, sim_b s⟩⟩
theorem de_isv (i : Nat) {x : Str} {j} (hN : X.N[i]? = some x := by rfl) (hv : Vis X.env.scope x := by first | exact Or.inl rfl | exact Or.inr (Or.inl rfl) | exact Or.inr (Or.inr rfl)) (hd : (x == ("__debug__" : Str)) = false := by decide)
    (hcd : (x == ("__classdict__" : Str)) = false := by decide) : DE X (.Compare (.Name x p) [.Is] [.Constant .none j p2] pos) (wIsV i false) := (de_isv0 (neg := false) i op_isN rfl (fun _ _ _ h => ⟨rfl, h⟩) hN hv hd hcd).1
theorem dt_isv (i : Nat) {x : Str} {j} (hN : X.N[i]? = some x := by rfl) (hv : Vis X.env.scope x := by first | exact Or.inl rfl | exact Or.inr (Or.inl rfl) | exact Or.inr (Or.inr rfl)) (hd : (x == ("__debug__" : Str)) = false := by decide)
    (hcd : (x == ("__classdict__" : Str)) = false := by decide) : DT X (.Compare (.Name x p) [.Is] [.Constant .none j p2] pos) (wB (wIsV i false)) := (de_isv0 (neg := false) i op_isN rfl (fun _ _ _ h => ⟨rfl, h⟩) hN hv hd hcd).2
theorem de_notv (i : Nat) {x : Str} {j} (hN : X.N[i]? = some x := by rfl) (hv : Vis X.env.scope x := by first | exact Or.inl rfl | exact Or.inr (Or.inl rfl) | exact Or.inr (Or.inr rfl)) (hd : (x == ("__debug__" : Str)) = false := by decide)
    (hcd : (x == ("__classdict__" : Str)) = false := by decide) : DE X (.Compare (.Name x p) [.IsNot] [.Constant .none j p2] pos) (wIsV i true) := (de_isv0 (neg := true) i op_notN rfl (fun _ _ _ h => ⟨rfl, h⟩) hN hv hd hcd).1
theorem dt_notv (i : Nat) {x : Str} {j} (hN : X.N[i]? = some x := by rfl) (hv : Vis X.env.scope x := by first | exact Or.inl rfl | exact Or.inr (Or.inl rfl) | exact Or.inr (Or.inr rfl)) (hd : (x == ("__debug__" : Str)) = false := by decide)
    (hcd : (x == ("__classdict__" : Str)) = false := by decide) : DT X (.Compare (.Name x p) [.IsNot] [.Constant .none j p2] pos) (wB (wIsV i true)) := (de_isv0 (neg := true) i op_notN rfl (fun _ _ _ h => ⟨rfl, h⟩) hN hv hd hcd).2
/-- a value that no heap knows of -/
def plainO : OD → Prop
  | .sh .non => True
  | .sh (.bl _) => True
  | .sh (.int _) => True
  | .sh (.str _) => True
  | _ => False
theorem plain_rep {K : PySem.W.Frag} {Z H Z' H' : Hp} {v : V} {d : OD} (h : plainO d) (r : RepO K Z H v d) : RepO K Z' H' v d ∧ fp d = [] := by
  unfold plainO at h
  split at h
  · cases r with | sh r => cases r; exact ⟨.sh .non, rfl⟩
  · cases r with | sh r => cases r; exact ⟨.sh (.bl _), rfl⟩
  · cases r with | sh r => cases r; exact ⟨.sh (.int _), rfl⟩
  · cases r with | sh r => cases r; exact ⟨.sh (.str _), rfl⟩
  · exact h.elim
theorem fps_prep0 : ∀ ds : List OD, fps (prep [] ds) = []
  | [] => rfl
  | d :: ds => by simp only [prep, fps, fp, List.nil_append, fps_prep0 ds]
/-- a call that only looks at what is lent -/
def wPeek (φ : Spec) (back : List (Option Nat)) (wr : WA) : WE := fun env Q => wr env fun ds env1 => φ (prep [] ds) fun d _ => plainO d ∧ Q d (putBack back ds env1)
theorem sim_peek {K : PySem.W.Frag} {n : Nat} {φ : Spec} {back : List (Option Nat)} {ta : TA} {wr : WA} {E : XK} (hn : back.length = n) (q : SimA K ta back wr) : SimE K (tCall (spOf K n φ) [] E ta) (wPeek φ back wr) := fun Z H σ env Q P g hw k => by
  refine q Z H σ env _ _ g hw fun vs H1 Z1 ds env1 st1 g1 bk h1 => ?_
  obtain ⟨Z2, g2, st2⟩ := g1.prep []
  refine ⟨by rw [List.length_append, bk.length]; exact hn, Z2, prep [] ds, _, by rw [List.append_nil]; exact g2.alone, h1, fun d outs hq v Z' H' st g' => ?_⟩
  obtain ⟨pl, hq⟩ := hq
  rw [fps_prep0] at st
  have rv := g'.vals
  cases rv with
  | cons rv _ =>
    obtain ⟨rd, fd⟩ := plain_rep (Z' := Z1) (H' := H') pl rv
    have kp : ∀ a o, H1 a = some o → H' a = some o := fun a o e => st.keep a o e (by simp)
    have f1 : fps (d :: ds) = fps ds := by simp only [fps, fd, List.nil_append]
    have g3 : Good K Z1 H' σ env1 (v :: vs) (d :: ds) := by
      refine ⟨fun a o e => kp a o (g1.same a o e), g1.slots.mono (Same.refl _) (fun a _ o e => kp a o e), .cons rd (g1.vals.mono (Same.refl _) fun a _ o e => kp a o e), ?_, fun a m => ?_⟩
      · rw [f1]; exact g1.nd
      · rw [f1] at m; exact g1.free a m
    have st3 : Step Z1 H1 (fps ds ++ fpE env1) Z1 H' (fps (d :: ds) ++ fpE env1) := by
      rw [f1]
      exact ⟨fun a o e _ => kp a o e, fun a o e => ⟨o, kp a o e⟩, Same.refl _, fun a o e => .inl ⟨o, e⟩, fun a m => .inr m⟩
    obtain ⟨g5, st5⟩ := g3.putBack (by have := bk.more []; rwa [List.append_nil] at this)
    exact k v H' Z1 d _ ((st1.trans st3).trans st5) g5 hq
theorem de_peek {x : Str} {k n : Nat} {φ : Spec} (c : Cal X.prog X.w X.K X.mg X.base x k n φ) (hr : Room k X.A) (ha : DA X (e :: es) bk wr) (hx : Passes CX0 X E0 := by exact pass0) (hn : bk.length = n := by rfl) (hg : Gl X x := by rfl) (hdb : (x == ("__debug__" : Str)) = false := by decide)
    (he : starEach (e :: es) X.env = (false, eval e X.env) :: starEach es X.env := by rfl) (hpl : (backTo pos (starEach es X.env)).any (·.1) = false := by rfl) : DE X (.Call (.Name x p) (e :: es) [] pos) (wPeek φ bk wr) :=
  let ⟨_, _, _, F, hm, hk, hb⟩ := c.ex
  let ⟨_, p', q'⟩ := ha; ⟨_, pe_call F hr hg hm hk hb .nil hx p' hdb he hpl, sim_peek hn q'⟩
/-- an item of a name's owned tuple -/
def wbTV (i j : Nat) : WB := fun env Q => onV env i fun x => match x with
  | .tup xs => atL env ⟨i, [j]⟩ fun d => isRoot d = true ∧ xs[j]? = some d ∧ Q ⟨i, [j]⟩ env
  | _ => False
theorem db_tv (i : Nat) {x : Str} {j : Nat} {jj} (hN : X.N[i]? = some x := by rfl) (hv : Vis X.env.scope x := by first | exact Or.inl rfl | exact Or.inr (Or.inl rfl) | exact Or.inr (Or.inr rfl)) (hd : (x == ("__debug__" : Str)) = false := by decide)
    (hcd : (x == ("__classdict__" : Str)) = false := by decide) (hs : PlainIx (.Constant (.int (j : Int)) jj p2) := by exact fun _ _ => rfl) : DB X (.Subscript (.Name x p) (.Constant (.int (j : Int)) jj p2) pos) (wbTV i j) := ⟨_, pe_ix ix_seq (pe_var hN hv hd hcd) pe_int hs, fun Z H σ env Q P g hw k => by
  unfold wbTV at hw
  obtain ⟨d0, e0, hw⟩ := onV_of hw
  obtain ⟨v, hv, r0⟩ := g.slots.get e0
  refine ⟨v, hv, ?_⟩
  split at hw
  · rename_i xs
    obtain ⟨d, ed, h1, h2, hw⟩ := hw
    cases r0 with
    | tup h r =>
      obtain ⟨w, e1, e2⟩ := r.get h2
      cases rd : root d with
      | none => rw [isRoot, rd] at h1; cases h1
      | some a' =>
        have ev := root_rep rd e2
        subst ev
        have hl : j < xs.length := (List.getElem?_eq_some_iff.mp h2).1
        refine .inr (.inl ⟨_, _, _, _, rfl, rfl, sqt_mono g.same h, ?_, k a' H Z _ env d Step.refl g ed rd hw⟩)
        have ej : ixN xs.length (j : Int) = some j := by
          unfold ixN
          rw [if_pos (by omega), if_pos (by omega), Int.toNat_natCast]
        unfold atI
        rw [r.length, ej]
        exact e1
  · exact hw.elim⟩
end
end E8
/-! Octagons over the whole numbers: forms, tables, held, points. Plain Lean. -/
namespace E8M

/-- the flip of a form -/
def fl (f : Nat) : Nat := if f % 2 = 0 then f + 1 else f - 1
theorem fl_fl (f : Nat) : fl (fl f) = f := by unfold fl; split <;> split <;> omega
theorem fl_lt {c f : Nat} (h : f < 2 * c) : fl f < 2 * c := by unfold fl; split <;> omega
theorem fl_ne (f : Nat) : fl f ≠ f := by unfold fl; split <;> omega
theorem fl_div (f : Nat) : fl f / 2 = f / 2 := by unfold fl; split <;> omega
theorem fl_inj {f g : Nat} (h : fl f = fl g) : f = g := by rw [← fl_fl f, h, fl_fl]
def worth (p : Nat → Int) (f : Nat) : Int := if f % 2 = 1 then -p (f / 2) else p (f / 2)
theorem worth_fl (p : Nat → Int) (f : Nat) : worth p (fl f) = -worth p f := by
  unfold worth
  rw [fl_div]
  unfold fl
  split <;> split <;> split <;> omega
abbrev T := Nat → Nat → Option Int
/-- the entry is a number not above w -/
def Le (t : T) (f g : Nat) (w : Int) : Prop := ∃ a, t f g = some a ∧ a ≤ w
theorem Le.mono {t : T} {f g : Nat} {w w' : Int} (h : Le t f g w) (e : w ≤ w') : Le t f g w' := let ⟨a, b, c⟩ := h; ⟨a, b, by omega⟩
theorem Le.at {t : T} {f g : Nat} {a : Int} (h : t f g = some a) : Le t f g a := ⟨a, h, Int.le_refl a⟩
theorem le_ext {t s : T} {f g : Nat} (h : ∀ w, Le t f g w ↔ Le s f g w) : t f g = s f g := by
  cases e : t f g with
  | none =>
    cases e' : s f g with
    | none => rfl
    | some b =>
      obtain ⟨a, h1, _⟩ := (h b).mpr (Le.at e')
      rw [e] at h1; cases h1
  | some a =>
    obtain ⟨b, h1, h2⟩ := (h a).mp (Le.at e)
    obtain ⟨a', h3, h4⟩ := (h b).mpr (Le.at h1)
    rw [e] at h3
    cases h3
    rw [h1]
    congr 1
    omega
/-- the point keeps all entries -/
def Sat (n : Nat) (p : Nat → Int) (t : T) : Prop := ∀ f g w, f < n → g < n → Le t f g w → worth p f + worth p g ≤ w
/-- linked tables -/
structure Lnk (n : Nat) (t : T) : Prop where
  sym : ∀ f g w, f < n → g < n → Le t f g w → Le t g f w
  zero : ∀ f w, f < n → (Le t f (fl f) w ↔ 0 ≤ w)
  link : ∀ f g h u v, f < n → g < n → h < n → Le t f g u → Le t (fl g) h v → Le t f h (u + v)
/-- tables closed tight -/
structure Cl (n : Nat) (t : T) : Prop extends Lnk n t where
  strong : ∀ f g a b, f < n → g < n → Le t f f a → Le t g g b → Le t f g (a / 2 + b / 2)
theorem Cl.even {n : Nat} {t : T} (c : Cl n t) {f : Nat} {a : Int} (hf : f < n) (h : t f f = some a) : a % 2 = 0 := by
  obtain ⟨b, h1, h2⟩ := c.strong f f a a hf hf (Le.at h) (Le.at h)
  rw [h] at h1; cases h1
  omega
theorem Lnk.nonneg {n : Nat} {t : T} (c : Lnk n t) {f : Nat} {a b : Int} (hf : f < n) (hf' : fl f < n) (h : Le t f f a) (h' : Le t (fl f) (fl f) b) : 0 ≤ a + b :=
  (c.zero f _ hf).mp (c.link f f (fl f) a b hf hf hf' h h')
/-- f and g against their flips -/
theorem Lnk.cross {n : Nat} {t : T} (c : Lnk n t) {f g : Nat} {a b : Int} (hf : f < n) (hg : g < n) (hf' : fl f < n) (hg' : fl g < n) (h : Le t f g a) (h' : Le t (fl f) (fl g) b) : 0 ≤ a + b :=
  (c.zero f _ hf).mp (c.link f g (fl f) a b hf hg hf' h (c.sym _ _ _ hf' hg' h'))

/-! ### entries -/
def added : Option Int → Option Int → Option Int
  | some a, some b => some (a + b)
  | _, _ => none
def lesser : Option Int → Option Int → Option Int
  | none, y => y
  | some a, none => some a
  | some a, some b => if a ≤ b then some a else some b
def ole (o : Option Int) (w : Int) : Prop := ∃ a, o = some a ∧ a ≤ w
theorem ole_added {x y : Option Int} {w : Int} : ole (added x y) w ↔ ∃ a b, ole x a ∧ ole y b ∧ a + b ≤ w := by
  constructor
  · rintro ⟨a, h, hl⟩
    cases x with
    | none => cases h
    | some x => cases y with
      | none => cases h
      | some y => cases h; exact ⟨x, y, ⟨x, rfl, Int.le_refl _⟩, ⟨y, rfl, Int.le_refl _⟩, hl⟩
  · rintro ⟨a, b, ⟨x', rfl, h1⟩, ⟨y', rfl, h2⟩, h3⟩
    exact ⟨x' + y', rfl, by omega⟩
theorem ole_lesser {x y : Option Int} {w : Int} : ole (lesser x y) w ↔ ole x w ∨ ole y w := by
  cases x with
  | none => simp [lesser, ole]
  | some a => cases y with
    | none => simp [lesser, ole]
    | some b =>
      simp only [lesser, ole]
      split
      · constructor
        · rintro ⟨x, h, hl⟩; exact .inl ⟨x, h, hl⟩
        · rintro (⟨x, h, hl⟩ | ⟨x, h, hl⟩)
          · exact ⟨x, h, hl⟩
          · cases h; exact ⟨a, rfl, by omega⟩
      · constructor
        · rintro ⟨x, h, hl⟩; exact .inr ⟨x, h, hl⟩
        · rintro (⟨x, h, hl⟩ | ⟨x, h, hl⟩)
          · cases h; exact ⟨b, rfl, by omega⟩
          · exact ⟨x, h, hl⟩
theorem ole_some {a w : Int} : ole (some a) w ↔ a ≤ w := by simp [ole]
theorem ole_none {w : Int} : ¬ ole none w := by simp [ole]

/-! ### the steps of held -/
def ledM (t : T) (f g : Nat) (c : Int) (i : Nat) : Option Int :=
  lesser (added (t i (fl f)) (some c)) (added (added (t i (fl g)) (some (2 * c))) (t (fl f) (fl f)))
def relM (t : T) (f g : Nat) (c : Int) : T := fun i j =>
  lesser (t i j) (lesser (added (ledM t f g c i) (t (fl g) j)) (added (ledM t g f c i) (t (fl f) j)))
def halfM (t : T) : T := fun i j => if i = j then (t i j).map fun a => a / 2 * 2 else t i j
def noneM (n : Nat) (t : T) : Prop := ∃ f, f < n ∧ ∃ a b, t f f = some a ∧ t (fl f) (fl f) = some b ∧ a + b < 0
def strM (t : T) : T := fun i j => match added (t i i) (t j j) with
  | some s => lesser (t i j) (some (s / 2))
  | none => t i j
theorem le_led {t : T} {f g i : Nat} {c w : Int} : ole (ledM t f g c i) w ↔ (∃ a, Le t i (fl f) a ∧ a + c ≤ w) ∨ ∃ a b, Le t i (fl g) a ∧ Le t (fl f) (fl f) b ∧ a + 2 * c + b ≤ w := by
  unfold ledM
  rw [ole_lesser, ole_added, ole_added]
  constructor
  · rintro (⟨a, b, h1, h2, h3⟩ | ⟨a, b, h1, h2, h3⟩)
    · rw [ole_some] at h2; exact .inl ⟨a, h1, by omega⟩
    · rw [ole_added] at h1
      obtain ⟨x, y, h4, h5, h6⟩ := h1
      rw [ole_some] at h5
      exact .inr ⟨x, b, h4, h2, by omega⟩
  · rintro (⟨a, h1, h2⟩ | ⟨a, b, h1, h2, h3⟩)
    · exact .inl ⟨a, c, h1, ole_some.mpr (Int.le_refl _), h2⟩
    · exact .inr ⟨a + 2 * c, b, ole_added.mpr ⟨a, 2 * c, h1, ole_some.mpr (Int.le_refl _), Int.le_refl _⟩, h2, by omega⟩
theorem le_rel {t : T} {f g i j : Nat} {c w : Int} : Le (relM t f g c) i j w ↔ Le t i j w ∨ (∃ a b, ole (ledM t f g c i) a ∧ Le t (fl g) j b ∧ a + b ≤ w) ∨ ∃ a b, ole (ledM t g f c i) a ∧ Le t (fl f) j b ∧ a + b ≤ w := by
  show ole (lesser _ _) w ↔ _
  rw [ole_lesser, ole_lesser, ole_added, ole_added]
  exact Iff.rfl
section
variable {n : Nat} {t : T} {f g : Nat} {c : Int}
theorem led_sat {p : Nat → Int} (s : Sat n p t) (hf' : fl f < n) (hg' : fl g < n) (k : worth p f + worth p g ≤ c) {i : Nat} {w : Int} (hi : i < n) (h : ole (ledM t f g c i) w) : worth p i + worth p g ≤ w := by
  rcases le_led.mp h with ⟨a, h1, h2⟩ | ⟨a, b, h1, h2, h3⟩
  · have := s i (fl f) a hi hf' h1
    rw [worth_fl] at this
    omega
  · have q1 := s i (fl g) a hi hg' h1
    have q2 := s (fl f) (fl f) b hf' hf' h2
    rw [worth_fl] at q1 q2
    omega
theorem rel_sat {p : Nat → Int} (s : Sat n p t) (hf' : fl f < n) (hg' : fl g < n) (k : worth p f + worth p g ≤ c) : Sat n p (relM t f g c) := fun i j w hi hj h => by
  rcases le_rel.mp h with h | ⟨a, b, h1, h2, h3⟩ | ⟨a, b, h1, h2, h3⟩
  · exact s i j w hi hj h
  · have q1 := led_sat s hf' hg' k hi h1
    have q2 := s _ _ _ hg' hj h2
    rw [worth_fl] at q2
    omega
  · have q1 := led_sat (f := g) (g := f) s hg' hf' (by omega) hi h1
    have q2 := s _ _ _ hf' hj h2
    rw [worth_fl] at q2
    omega
variable (cl : Cl n t) (hf : f < n) (hg : g < n) (hf' : fl f < n) (hg' : fl g < n) (pos : ∀ w, Le t (fl f) (fl g) w → 0 ≤ w + c)
include cl hf hg hf' hg' pos
theorem both_pos {a b : Int} (ha : Le t (fl f) (fl f) a) (hb : Le t (fl g) (fl g) b) : 0 ≤ 2 * c + a + b := by
  have h := pos _ (cl.strong _ _ a b hf' hg' ha hb)
  omega
/-- from the left -/
theorem led_link {i k : Nat} {u v : Int} (hi : i < n) (hk : k < n) (hk' : fl k < n) (h : Le t i k u) (h' : ole (ledM t f g c (fl k)) v) : ole (ledM t f g c i) (u + v) := by
  rcases le_led.mp h' with ⟨a, h1, h2⟩ | ⟨a, b, h1, h2, h3⟩
  · exact le_led.mpr (.inl ⟨u + a, cl.link i k (fl f) u a hi hk hf' h h1, by omega⟩)
  · exact le_led.mpr (.inr ⟨u + a, b, cl.link i k (fl g) u a hi hk hg' h h1, h2, by omega⟩)
theorem led_back {v : Int} (h : ole (ledM t f g c (fl g)) v) : 0 ≤ v := by
  rcases le_led.mp h with ⟨a, h1, h2⟩ | ⟨a, b, h1, h2, h3⟩
  · have := pos _ (cl.sym _ _ _ hg' hf' h1)
    omega
  · have := both_pos cl hf hg hf' hg' pos h2 h1
    omega
theorem rel_lnk (nb : ∀ k, k < n → fl k < n) : Lnk n (relM t f g c) where
  sym := fun i j w hi hj h => by
    have S := cl.sym
    rcases le_rel.mp h with h | ⟨a, b, h1, h2, h3⟩ | ⟨a, b, h1, h2, h3⟩
    · exact le_rel.mpr (.inl (S _ _ _ hi hj h))
    · rcases le_led.mp h1 with ⟨x, q1, q2⟩ | ⟨x, y, q1, q2, q3⟩
      · -- i f̄ x, ḡ j b
        exact le_rel.mpr (.inr (.inr ⟨b + c, x, le_led.mpr (.inl ⟨b, S _ _ _ hg' hj h2, Int.le_refl _⟩), S _ _ _ hi hf' q1, by omega⟩))
      · exact le_rel.mpr (.inr (.inl ⟨b + 2 * c + y, x, le_led.mpr (.inr ⟨b, y, S _ _ _ hg' hj h2, q2, by omega⟩), S _ _ _ hi hg' q1, by omega⟩))
    · rcases le_led.mp h1 with ⟨x, q1, q2⟩ | ⟨x, y, q1, q2, q3⟩
      · exact le_rel.mpr (.inr (.inl ⟨b + c, x, le_led.mpr (.inl ⟨b, S _ _ _ hf' hj h2, Int.le_refl _⟩), S _ _ _ hi hg' q1, by omega⟩))
      · exact le_rel.mpr (.inr (.inr ⟨b + 2 * c + y, x, le_led.mpr (.inr ⟨b, y, S _ _ _ hf' hj h2, q2, by omega⟩), S _ _ _ hi hf' q1, by omega⟩))
  zero := fun k w hk => by
    have hk' := nb k hk
    have pos' : ∀ w, Le t (fl g) (fl f) w → 0 ≤ w + c := fun w h => pos w (cl.sym _ _ _ hg' hf' h)
    constructor
    · intro h
      rcases le_rel.mp h with h | ⟨a, b, h1, h2, h3⟩ | ⟨a, b, h1, h2, h3⟩
      · exact (cl.zero k w hk).mp h
      · have q := led_link cl hf hg hf' hg' pos (i := fl g) (k := fl k) (u := b) (v := a) hg' hk' (by rw [fl_fl]; exact hk) h2 (by rw [fl_fl]; exact h1)
        have := led_back cl hf hg hf' hg' pos q
        omega
      · have q := led_link cl hg hf hg' hf' pos' (i := fl f) (k := fl k) (u := b) (v := a) hf' hk' (by rw [fl_fl]; exact hk) h2 (by rw [fl_fl]; exact h1)
        have := led_back cl hg hf hg' hf' pos' q
        omega
    · intro h
      exact le_rel.mpr (.inl ((cl.zero k w hk).mpr h))
  link := fun i h j u v hi hh hj p q => by
    have hh' := nb h hh
    have pos' : ∀ w, Le t (fl g) (fl f) w → 0 ≤ w + c := fun w h => pos w (cl.sym _ _ _ hg' hf' h)
    -- one side of a mixed case
    have mixed : ∀ {a b a' b' : Int}, ole (ledM t f g c i) a → Le t (fl g) h b → ole (ledM t g f c (fl h)) a' → Le t (fl f) j b' → Le (relM t f g c) i j (a + b + (a' + b')) := fun {a b a' b'} h1 h2 h3 h4 => by
      have q1 := led_link cl hg hf hg' hf' pos' (i := fl g) (k := h) hg' hh hh' h2 h3
      -- to_f at ḡ
      rcases le_led.mp q1 with ⟨x, e1, e2⟩ | ⟨x, y, e1, e2, e3⟩
      · -- ḡ ḡ x
        rcases le_led.mp h1 with ⟨z, r1, r2⟩ | ⟨z, y, r1, r2, r3⟩
        · exact le_rel.mpr (.inr (.inr ⟨z + 2 * c + x, b', le_led.mpr (.inr ⟨z, x, r1, e1, by omega⟩), h4, by omega⟩))
        · have bp := both_pos cl hf hg hf' hg' pos r2 e1
          exact le_rel.mpr (.inr (.inr ⟨z + c, b', le_led.mpr (.inl ⟨z, r1, Int.le_refl _⟩), h4, by omega⟩))
      · -- ḡ f̄ x, ḡ ḡ y
        have px := pos' _ e1
        rcases le_led.mp h1 with ⟨z, r1, r2⟩ | ⟨z, y', r1, r2, r3⟩
        · exact le_rel.mpr (.inr (.inr ⟨z + 2 * c + y, b', le_led.mpr (.inr ⟨z, y, r1, e2, by omega⟩), h4, by omega⟩))
        · have bp := both_pos cl hf hg hf' hg' pos r2 e2
          exact le_rel.mpr (.inr (.inr ⟨z + c, b', le_led.mpr (.inl ⟨z, r1, Int.le_refl _⟩), h4, by omega⟩))
    have mixed' : ∀ {a b a' b' : Int}, ole (ledM t g f c i) a → Le t (fl f) h b → ole (ledM t f g c (fl h)) a' → Le t (fl g) j b' → Le (relM t f g c) i j (a + b + (a' + b')) := fun {a b a' b'} h1 h2 h3 h4 => by
      have q1 := led_link cl hf hg hf' hg' pos (i := fl f) (k := h) hf' hh hh' h2 h3
      rcases le_led.mp q1 with ⟨x, e1, e2⟩ | ⟨x, y, e1, e2, e3⟩
      · rcases le_led.mp h1 with ⟨z, r1, r2⟩ | ⟨z, y, r1, r2, r3⟩
        · exact le_rel.mpr (.inr (.inl ⟨z + 2 * c + x, b', le_led.mpr (.inr ⟨z, x, r1, e1, by omega⟩), h4, by omega⟩))
        · have bp := both_pos cl hf hg hf' hg' pos e1 r2
          exact le_rel.mpr (.inr (.inl ⟨z + c, b', le_led.mpr (.inl ⟨z, r1, Int.le_refl _⟩), h4, by omega⟩))
      · have px := pos _ e1
        rcases le_led.mp h1 with ⟨z, r1, r2⟩ | ⟨z, y', r1, r2, r3⟩
        · exact le_rel.mpr (.inr (.inl ⟨z + 2 * c + y, b', le_led.mpr (.inr ⟨z, y, r1, e2, by omega⟩), h4, by omega⟩))
        · have bp := both_pos cl hf hg hf' hg' pos e2 r2
          exact le_rel.mpr (.inr (.inl ⟨z + c, b', le_led.mpr (.inl ⟨z, r1, Int.le_refl _⟩), h4, by omega⟩))
    rcases le_rel.mp p with p | ⟨a, b, h1, h2, h3⟩ | ⟨a, b, h1, h2, h3⟩
    · rcases le_rel.mp q with q | ⟨a', b', k1, k2, k3⟩ | ⟨a', b', k1, k2, k3⟩
      · exact le_rel.mpr (.inl (cl.link i h j u v hi hh hj p q))
      · exact le_rel.mpr (.inr (.inl ⟨u + a', b', led_link cl hf hg hf' hg' pos hi hh hh' p k1, k2, by omega⟩))
      · exact le_rel.mpr (.inr (.inr ⟨u + a', b', led_link cl hg hf hg' hf' pos' hi hh hh' p k1, k2, by omega⟩))
    · rcases le_rel.mp q with q | ⟨a', b', k1, k2, k3⟩ | ⟨a', b', k1, k2, k3⟩
      · exact le_rel.mpr (.inr (.inl ⟨a, b + v, h1, cl.link _ h j b v hg' hh hj h2 q, by omega⟩))
      · have q1 := led_link cl hf hg hf' hg' pos (i := fl g) (k := h) hg' hh hh' h2 k1
        have := led_back cl hf hg hf' hg' pos q1
        exact le_rel.mpr (.inr (.inl ⟨a, b', h1, k2, by omega⟩))
      · exact (mixed h1 h2 k1 k2).mono (by omega)
    · rcases le_rel.mp q with q | ⟨a', b', k1, k2, k3⟩ | ⟨a', b', k1, k2, k3⟩
      · exact le_rel.mpr (.inr (.inr ⟨a, b + v, h1, cl.link _ h j b v hf' hh hj h2 q, by omega⟩))
      · exact (mixed' h1 h2 k1 k2).mono (by omega)
      · have q1 := led_link cl hg hf hg' hf' pos' (i := fl f) (k := h) hf' hh hh' h2 k1
        have := led_back cl hg hf hg' hf' pos' q1
        exact le_rel.mpr (.inr (.inr ⟨a, b', h1, k2, by omega⟩))
theorem rel_new : Le (relM t f g c) f g c :=
  le_rel.mpr (.inr (.inl ⟨c, 0, le_led.mpr (.inl ⟨0, (cl.zero f 0 hf).mpr (Int.le_refl _), by omega⟩), by
    have := (cl.zero (fl g) 0 hg').mpr (Int.le_refl _)
    rw [fl_fl] at this
    exact this, by omega⟩))
end
/-! ### halving, strengthening -/
theorem le_half {t : T} {f g : Nat} {w : Int} : Le (halfM t) f g w ↔ if f = g then ∃ a, Le t f f a ∧ a / 2 * 2 ≤ w else Le t f g w := by
  unfold Le halfM
  by_cases h : f = g
  · subst h
    simp only [if_true]
    constructor
    · rintro ⟨a, e, hl⟩
      cases q : t f f with
      | none => rw [q] at e; cases e
      | some b => rw [q] at e; cases e; exact ⟨b, ⟨b, rfl, Int.le_refl _⟩, hl⟩
    · rintro ⟨a, ⟨b, e, hb⟩, hl⟩
      rw [e]
      exact ⟨b / 2 * 2, rfl, by omega⟩
  · simp only [if_neg h]
theorem le_halfd {t : T} {f : Nat} {w : Int} : Le (halfM t) f f w ↔ ∃ a, Le t f f a ∧ a / 2 * 2 ≤ w := by
  rw [le_half, if_pos rfl]
theorem le_str {t : T} {f g : Nat} {w : Int} : Le (strM t) f g w ↔ Le t f g w ∨ ∃ a b, Le t f f a ∧ Le t g g b ∧ (a + b) / 2 ≤ w := by
  show ole (strM t f g) w ↔ _
  unfold strM
  split
  · rename_i s e
    have q : ∃ a b, t f f = some a ∧ t g g = some b ∧ s = a + b := by
      cases e1 : t f f with
      | none => rw [e1] at e; cases e
      | some a => cases e2 : t g g with
        | none => rw [e1, e2] at e; cases e
        | some b => rw [e1, e2] at e; cases e; exact ⟨a, b, rfl, rfl, rfl⟩
    obtain ⟨a, b, e1, e2, rfl⟩ := q
    rw [ole_lesser, ole_some]
    constructor
    · rintro (h | h)
      · exact .inl h
      · exact .inr ⟨a, b, ⟨a, e1, Int.le_refl _⟩, ⟨b, e2, Int.le_refl _⟩, h⟩
    · rintro (h | ⟨x, y, ⟨x', h1, h2⟩, ⟨y', h3, h4⟩, h5⟩)
      · exact .inl h
      · rw [e1] at h1; rw [e2] at h3; cases h1; cases h3
        exact .inr (by omega)
  · rename_i e
    constructor
    · exact .inl
    · rintro (h | ⟨x, y, ⟨x', h1, h2⟩, ⟨y', h3, h4⟩, h5⟩)
      · exact h
      · rw [h1, h3] at e; cases e
/-- halved and strengthened, by what the linked table says -/
theorem le_fin {r : T} {f g : Nat} {w : Int} : Le (strM (halfM r)) f g w ↔ (f ≠ g ∧ Le r f g w) ∨ ∃ a b, Le r f f a ∧ Le r g g b ∧ a / 2 + b / 2 ≤ w := by
  rw [le_str, le_half]
  simp only [le_halfd]
  constructor
  · rintro (h | ⟨a, b, ⟨x, h1, h2⟩, ⟨y, h3, h4⟩, h5⟩)
    · by_cases e : f = g
      · subst e
        rw [if_pos rfl] at h
        obtain ⟨a, h1, h2⟩ := h
        exact .inr ⟨a, a, h1, h1, by omega⟩
      · rw [if_neg e] at h
        exact .inl ⟨e, h⟩
    · exact .inr ⟨x, y, h1, h3, by omega⟩
  · rintro (⟨e, h⟩ | ⟨a, b, h1, h2, h3⟩)
    · exact .inl (by rw [if_neg e]; exact h)
    · exact .inr ⟨a / 2 * 2, b / 2 * 2, ⟨a, h1, Int.le_refl _⟩, ⟨b, h2, Int.le_refl _⟩, by omega⟩
section
variable {n : Nat} {r : T} (l : Lnk n r) (nb : ∀ k, k < n → fl k < n)
include l nb
theorem fin_sat {p : Nat → Int} : Sat n p (strM (halfM r)) ↔ Sat n p r := by
  constructor
  · intro s f g w hf hg h
    by_cases e : f = g
    · subst e
      have := s f f (w / 2 + w / 2) hf hf (le_fin.mpr (.inr ⟨w, w, h, h, Int.le_refl _⟩))
      omega
    · exact s f g w hf hg (le_fin.mpr (.inl ⟨e, h⟩))
  · intro s f g w hf hg h
    rcases le_fin.mp h with ⟨_, h⟩ | ⟨a, b, h1, h2, h3⟩
    · exact s f g w hf hg h
    · have q1 := s f f a hf hf h1
      have q2 := s g g b hg hg h2
      omega
theorem none_unsat (h : noneM n (halfM r)) {p : Nat → Int} : ¬ Sat n p r := fun s => by
  obtain ⟨f, hf, a, b, h1, h2, h3⟩ := h
  obtain ⟨x, q1, q2⟩ := le_halfd.mp (Le.at h1)
  obtain ⟨y, q3, q4⟩ := le_halfd.mp (Le.at h2)
  have r1 := s f f x hf hf q1
  have r2 := s (fl f) (fl f) y (nb f hf) (nb f hf) q3
  rw [worth_fl] at r2
  omega
theorem fin_cl (h : ¬ noneM n (halfM r)) : Cl n (strM (halfM r)) := by
  have ok : ∀ f, f < n → ∀ a b, Le r f f a → Le r (fl f) (fl f) b → 0 ≤ a / 2 + b / 2 := fun f hf a b ha hb => by
    obtain ⟨x, e1, l1⟩ := ha
    obtain ⟨y, e2, l2⟩ := hb
    rcases Int.lt_or_le (x / 2 * 2 + y / 2 * 2) 0 with z | z
    · exact (h ⟨f, hf, x / 2 * 2, y / 2 * 2, by unfold halfM; rw [if_pos rfl, e1]; rfl, by unfold halfM; rw [if_pos rfl, e2]; rfl, z⟩).elim
    · omega
  -- a linked bound is one of the new table's
  have low : ∀ f g w, Le r f g w → Le (strM (halfM r)) f g w := fun f g w q => by
    by_cases e : f = g
    · subst e; exact le_fin.mpr (.inr ⟨w, w, q, q, by omega⟩)
    · exact le_fin.mpr (.inl ⟨e, q⟩)
  refine ⟨⟨fun f g w hf hg q => ?_, fun f w hf => ⟨fun q => ?_, fun q => ?_⟩, fun f g j u v hf hg hj p q => ?_⟩, fun f g a b hf hg p q => ?_⟩
  · rcases le_fin.mp q with ⟨e, q⟩ | ⟨a, b, h1, h2, h3⟩
    · exact le_fin.mpr (.inl ⟨Ne.symm e, l.sym f g w hf hg q⟩)
    · exact le_fin.mpr (.inr ⟨b, a, h2, h1, by omega⟩)
  · rcases le_fin.mp q with ⟨_, q⟩ | ⟨a, b, h1, h2, h3⟩
    · exact (l.zero f w hf).mp q
    · have := ok f hf a b h1 h2
      omega
  · exact low _ _ _ ((l.zero f w hf).mpr q)
  · have hg' := nb g hg
    rcases le_fin.mp p with ⟨_, p⟩ | ⟨a, b, h1, h2, h3⟩
    · rcases le_fin.mp q with ⟨_, q⟩ | ⟨a', b', k1, k2, k3⟩
      · exact low _ _ _ (l.link f g j u v hf hg hj p q)
      · -- f g u, ḡ ḡ a'
        have e1 := l.link f g (fl g) u a' hf hg hg' p k1
        have e2 := l.link f (fl g) f (u + a') u hf hg' hf e1 (by rw [fl_fl]; exact l.sym _ _ _ hf hg p)
        exact le_fin.mpr (.inr ⟨_, b', e2, k2, by omega⟩)
    · rcases le_fin.mp q with ⟨_, q⟩ | ⟨a', b', k1, k2, k3⟩
      · -- g g b, ḡ j v
        have e1 := l.link g g j b v hg hg hj h2 q
        have e2 := l.link j g j (b + v) v hj hg hj (l.sym _ _ _ hg hj e1) q
        exact le_fin.mpr (.inr ⟨a, _, h1, e2, by omega⟩)
      · have := ok g hg b a' h2 k1
        exact le_fin.mpr (.inr ⟨a, b', h1, k2, by omega⟩)
  · obtain ⟨x, h1, h2⟩ := p
    obtain ⟨y, h3, h4⟩ := q
    rcases le_fin.mp (Le.at h1) with ⟨e, _⟩ | ⟨a1, b1, p1, p2, p3⟩
    · exact (e rfl).elim
    · rcases le_fin.mp (Le.at h3) with ⟨e, _⟩ | ⟨a2, b2, q1, q2, q3⟩
      · exact (e rfl).elim
      · -- the lesser of a1, b1 at f; of a2, b2 at g
        have c1 : Le r f f (min a1 b1) := by rcases Int.le_total a1 b1 with z | z; exact p1.mono (by omega); exact p2.mono (by omega)
        have c2 : Le r g g (min a2 b2) := by rcases Int.le_total a2 b2 with z | z; exact q1.mono (by omega); exact q2.mono (by omega)
        exact le_fin.mpr (.inr ⟨_, _, c1, c2, by omega⟩)
end
end E8M
/-! held, wide; points of tables closed tight. Plain Lean. -/
namespace E8M
def noneB (n : Nat) (t : T) : Bool := (List.range n).any fun f => match t f f, t (fl f) (fl f) with
  | some a, some b => decide (a + b < 0)
  | _, _ => false
theorem noneB_iff {n : Nat} {t : T} : noneB n t = true ↔ noneM n t := by
  unfold noneB noneM
  rw [List.any_eq_true]
  constructor
  · rintro ⟨f, hf, h⟩
    split at h
    · rename_i a b e1 e2
      exact ⟨f, List.mem_range.mp hf, a, b, e1, e2, of_decide_eq_true h⟩
    · cases h
  · rintro ⟨f, hf, a, b, e1, e2, h⟩
    refine ⟨f, List.mem_range.mpr hf, ?_⟩
    rw [e1, e2]
    exact decide_eq_true h
def leB (o : Option Int) (w : Int) : Bool := match o with
  | some a => decide (a ≤ w)
  | none => false
def ltB (o : Option Int) (w : Int) : Bool := match o with
  | some a => decide (a + w < 0)
  | none => false
def heldM (n : Nat) (t : T) (f g : Nat) (c : Int) : Option T :=
  if leB (t f g) c = true then some t
  else if ltB (t (fl f) (fl g)) c = true then none
  else if noneB n (halfM (relM t f g c)) = true then none
  else some (strM (halfM (relM t f g c)))
theorem held_spec {n : Nat} {t : T} {f g : Nat} {c : Int} (cl : Cl n t) (nb : ∀ k, k < n → fl k < n) (hf : f < n) (hg : g < n) : match heldM n t f g c with
    | none => ∀ p, Sat n p t → ¬ worth p f + worth p g ≤ c
    | some s => Cl n s ∧ ∀ p, Sat n p s ↔ (Sat n p t ∧ worth p f + worth p g ≤ c) := by
  have hf' := nb f hf
  have hg' := nb g hg
  unfold heldM
  by_cases h1 : leB (t f g) c = true
  · rw [if_pos h1]
    refine ⟨cl, fun p => ⟨fun s => ⟨s, ?_⟩, fun s => s.1⟩⟩
    unfold leB at h1
    split at h1
    · rename_i a e
      exact s f g c hf hg ⟨a, e, of_decide_eq_true h1⟩
    · cases h1
  · rw [if_neg h1]
    by_cases h2 : ltB (t (fl f) (fl g)) c = true
    · rw [if_pos h2]
      intro p s k
      unfold ltB at h2
      split at h2
      · rename_i a e
        have q := s (fl f) (fl g) a hf' hg' (Le.at e)
        have z := of_decide_eq_true h2
        rw [worth_fl, worth_fl] at q
        omega
      · cases h2
    · rw [if_neg h2]
      have pos : ∀ w, Le t (fl f) (fl g) w → 0 ≤ w + c := fun w ⟨a, e, hl⟩ => by
        unfold ltB at h2
        rw [e] at h2
        simp only [decide_eq_true_eq] at h2
        omega
      have l := rel_lnk cl hf hg hf' hg' pos nb
      by_cases h3 : noneB n (halfM (relM t f g c)) = true
      · rw [if_pos h3]
        intro p s k
        exact none_unsat l nb (noneB_iff.mp h3) (rel_sat s hf' hg' k)
      · rw [if_neg h3]
        refine ⟨fin_cl l nb fun z => h3 (noneB_iff.mpr z), fun p => ?_⟩
        rw [fin_sat l nb]
        constructor
        · intro s
          exact ⟨fun i j w hi hj q => s i j w hi hj (le_rel.mpr (.inl q)), s f g c hf hg (rel_new cl hf hg hf' hg' pos)⟩
        · rintro ⟨s, k⟩
          exact rel_sat s hf' hg' k
def wideM : T := fun f g => if g = fl f then some 0 else none
theorem le_wide {f g : Nat} {w : Int} : Le wideM f g w ↔ g = fl f ∧ 0 ≤ w := by
  unfold Le wideM
  by_cases h : g = fl f
  · rw [if_pos h]
    constructor
    · rintro ⟨a, e, hl⟩
      have e' : (0 : Int) = a := Option.some.inj e
      exact ⟨h, by omega⟩
    · rintro ⟨_, hw⟩; exact ⟨0, rfl, hw⟩
  · rw [if_neg h]
    constructor
    · rintro ⟨a, e, _⟩; cases e
    · rintro ⟨e, _⟩; exact (h e).elim
theorem wide_cl (n : Nat) : Cl n wideM := by
  refine ⟨⟨fun f g w _ _ h => ?_, fun f w _ => ?_, fun f g h u v _ _ _ p q => ?_⟩, fun f g a b _ _ p _ => ?_⟩
  · obtain ⟨e, hw⟩ := le_wide.mp h
    exact le_wide.mpr ⟨by rw [e, fl_fl], hw⟩
  · rw [le_wide]; simp
  · obtain ⟨e1, h1⟩ := le_wide.mp p
    obtain ⟨e2, h2⟩ := le_wide.mp q
    exact le_wide.mpr ⟨by rw [e2, e1, fl_fl], by omega⟩
  · obtain ⟨e, _⟩ := le_wide.mp p
    exact (fl_ne f e.symm).elim
theorem wide_sat (n : Nat) (p : Nat → Int) : Sat n p wideM := fun f g w _ _ h => by
  obtain ⟨e, hw⟩ := le_wide.mp h
  subst e
  rw [worth_fl]
  omega
/-! ### points -/
theorem between : ∀ (ls us : List Int), (∀ l ∈ ls, ∀ u ∈ us, l ≤ u) → ∃ x, (∀ l ∈ ls, l ≤ x) ∧ ∀ u ∈ us, x ≤ u
  | [], [], _ => ⟨0, by simp, by simp⟩
  | [], u :: us, _ => by
    obtain ⟨x, _, h⟩ := between [] us (by simp)
    refine ⟨min x u, by simp, fun v hv => ?_⟩
    rcases List.mem_cons.mp hv with e | e
    · subst e; omega
    · have := h v e; omega
  | l :: ls, us, h => by
    obtain ⟨x, h1, h2⟩ := between ls us fun a ha => h a (List.mem_cons_of_mem _ ha)
    refine ⟨max x l, fun a ha => ?_, fun u hu => ?_⟩
    · rcases List.mem_cons.mp ha with e | e
      · subst e; omega
      · have := h1 a e; omega
    · have q1 := h2 u hu
      have q2 := h l List.mem_cons_self u hu
      omega
/-- the point keeps the entries among the forms of some names -/
def PSat (L : List Nat) (p : Nat → Int) (t : T) : Prop := ∀ f g w, f / 2 ∈ L → g / 2 ∈ L → Le t f g w → worth p f + worth p g ≤ w
def setP (p : Nat → Int) (k : Nat) (x : Int) : Nat → Int := fun j => if j = k then x else p j
theorem worth_set_ne {p : Nat → Int} {k : Nat} {x : Int} {f : Nat} (h : f / 2 ≠ k) : worth (setP p k x) f = worth p f := by
  unfold worth setP
  rw [if_neg h]
theorem worth_set_up {p : Nat → Int} {k : Nat} {x : Int} : worth (setP p k x) (2 * k) = x := by
  unfold worth setP
  rw [if_neg (by omega), if_pos (by omega)]
theorem worth_set_dn {p : Nat → Int} {k : Nat} {x : Int} : worth (setP p k x) (2 * k + 1) = -x := by
  unfold worth setP
  rw [if_pos (by omega), if_pos (by omega)]
theorem fl_up (k : Nat) : fl (2 * k) = 2 * k + 1 := by unfold fl; rw [if_pos (by omega)]
theorem fl_dn (k : Nat) : fl (2 * k + 1) = 2 * k := by unfold fl; rw [if_neg (by omega)]; omega
/-- how far form f may go beside the names of L -/
def bounds (t : T) (p : Nat → Int) (f : Nat) (L : List Nat) : List Int :=
  ((t f f).map fun a => a / 2).toList ++ L.flatMap fun j => ((t f (2 * j)).map fun b => b - worth p (2 * j)).toList ++ ((t f (2 * j + 1)).map fun b => b - worth p (2 * j + 1)).toList
theorem mem_bounds {t : T} {p : Nat → Int} {f : Nat} {L : List Nat} {x : Int} : x ∈ bounds t p f L ↔ (∃ a, t f f = some a ∧ x = a / 2) ∨ ∃ g b, g / 2 ∈ L ∧ t f g = some b ∧ x = b - worth p g := by
  unfold bounds
  rw [List.mem_append, List.mem_flatMap]
  constructor
  · rintro (h | ⟨j, hj, h⟩)
    · cases e : t f f with
      | none => rw [e] at h; simp at h
      | some a => rw [e] at h; exact .inl ⟨a, rfl, by simpa using h⟩
    · rcases List.mem_append.mp h with h | h
      · cases e : t f (2 * j) with
        | none => rw [e] at h; simp at h
        | some a => rw [e] at h; exact .inr ⟨2 * j, a, by rw [show 2 * j / 2 = j by omega]; exact hj, e, by simpa using h⟩
      · cases e : t f (2 * j + 1) with
        | none => rw [e] at h; simp at h
        | some a => rw [e] at h; exact .inr ⟨2 * j + 1, a, by rw [show (2 * j + 1) / 2 = j by omega]; exact hj, e, by simpa using h⟩
  · rintro (⟨a, e, rfl⟩ | ⟨g, b, hg, e, rfl⟩)
    · left; rw [e]; simp
    · right
      refine ⟨g / 2, hg, ?_⟩
      rcases Nat.mod_two_eq_zero_or_one g with m | m
      · have eg : 2 * (g / 2) = g := by omega
        rw [eg, e]
        exact List.mem_append_left _ (by simp)
      · have eg : 2 * (g / 2) + 1 = g := by omega
        rw [eg, e]
        exact List.mem_append_right _ (by simp)
section
variable {c : Nat} {t : T} (cl : Cl (2 * c) t)
include cl
/-- one name more -/
theorem extend {L : List Nat} {p : Nat → Int} {k : Nat} (hk : k < c) (hL : ∀ j ∈ L, j < c) (hn : k ∉ L) (s : PSat L p t) : ∃ x, PSat (k :: L) (setP p k x) t := by
  have lt : ∀ g, g / 2 ∈ L → g < 2 * c := fun g h => by have := hL _ h; omega
  have k0 : 2 * k < 2 * c := by omega
  have k1 : 2 * k + 1 < 2 * c := by omega
  obtain ⟨x, hl, hu⟩ := between ((bounds t p (2 * k + 1) L).map fun y => -y) (bounds t p (2 * k) L) (fun l hl u hu => by
    obtain ⟨y, hy, rfl⟩ := List.mem_map.mp hl
    show -y ≤ u
    rcases mem_bounds.mp hy with ⟨a, ea, rfl⟩ | ⟨h, a, hh, ea, rfl⟩
    · rcases mem_bounds.mp hu with ⟨b, eb, rfl⟩ | ⟨g, b, hg, eb, rfl⟩
      · have q := cl.nonneg k0 (by rw [fl_up]; exact k1) (Le.at eb) (by rw [fl_up]; exact Le.at ea)
        have e1 := cl.even k0 eb
        have e2 := cl.even k1 ea
        omega
      · -- w g ≤ a / 2 + b
        have q1 := cl.link g (2 * k) (2 * k + 1) b a (lt g hg) k0 k1 (cl.sym _ _ _ k0 (lt g hg) (Le.at eb)) (by rw [fl_up]; exact Le.at ea)
        have q2 := cl.link g (2 * k + 1) g (b + a) b (lt g hg) k1 (lt g hg) q1 (by rw [fl_dn]; exact Le.at eb)
        have q3 := s g g _ hg hg q2
        have e2 := cl.even k1 ea
        omega
    · rcases mem_bounds.mp hu with ⟨b, eb, rfl⟩ | ⟨g, b, hg, eb, rfl⟩
      · have q1 := cl.link h (2 * k + 1) (2 * k) a b (lt h hh) k1 k0 (cl.sym _ _ _ k1 (lt h hh) (Le.at ea)) (by rw [fl_dn]; exact Le.at eb)
        have q2 := cl.link h (2 * k) h (a + b) a (lt h hh) k0 (lt h hh) q1 (by rw [fl_up]; exact Le.at ea)
        have q3 := s h h _ hh hh q2
        have e2 := cl.even k0 eb
        omega
      · have q1 := cl.link g (2 * k) h b a (lt g hg) k0 (lt h hh) (cl.sym _ _ _ k0 (lt g hg) (Le.at eb)) (by rw [fl_up]; exact Le.at ea)
        have q3 := s g h _ hg hh q1
        omega)
  have up : ∀ y, y ∈ bounds t p (2 * k) L → x ≤ y := hu
  have dn : ∀ y, y ∈ bounds t p (2 * k + 1) L → -x ≤ y := fun y hy => by
    have := hl (-y) (List.mem_map.mpr ⟨y, hy, rfl⟩)
    omega
  have neL : ∀ g, g / 2 ∈ L → g / 2 ≠ k := fun g h e => hn (e ▸ h)
  have two : ∀ f, f / 2 = k → f = 2 * k ∨ f = 2 * k + 1 := fun f h => by omega
  -- the new name beside an old one
  have old : ∀ f g w, f / 2 = k → g / 2 ∈ L → Le t f g w → worth (setP p k x) f + worth (setP p k x) g ≤ w := fun f g w hf hg ⟨a, e, ha⟩ => by
    rw [worth_set_ne (neL g hg)]
    rcases two f hf with rfl | rfl
    · rw [worth_set_up]
      have := up _ (mem_bounds.mpr (.inr ⟨g, a, hg, e, rfl⟩))
      omega
    · rw [worth_set_dn]
      have := dn _ (mem_bounds.mpr (.inr ⟨g, a, hg, e, rfl⟩))
      omega
  refine ⟨x, fun f g w hf hg h => ?_⟩
  rcases List.mem_cons.mp hf with hf | hf
  · rcases List.mem_cons.mp hg with hg | hg
    · rcases two f hf with rfl | rfl
      · rcases two g hg with rfl | rfl
        · obtain ⟨a, e, ha⟩ := h
          rw [worth_set_up]
          have := up _ (mem_bounds.mpr (.inl ⟨a, e, rfl⟩))
          omega
        · rw [worth_set_up, worth_set_dn]
          have := (cl.zero (2 * k) w k0).mp (by rw [fl_up]; exact h)
          omega
      · rcases two g hg with rfl | rfl
        · rw [worth_set_up, worth_set_dn]
          have := (cl.zero (2 * k + 1) w k1).mp (by rw [fl_dn]; exact h)
          omega
        · obtain ⟨a, e, ha⟩ := h
          rw [worth_set_dn]
          have := dn _ (mem_bounds.mpr (.inl ⟨a, e, rfl⟩))
          omega
    · exact old f g w hf hg h
  · rcases List.mem_cons.mp hg with hg | hg
    · have hfc := lt f hf
      have hgc : g < 2 * c := by rcases two g hg with rfl | rfl <;> omega
      have := old g f w hg hf (cl.sym f g w hfc hgc h)
      omega
    · rw [worth_set_ne (neL f hf), worth_set_ne (neL g hg)]
      exact s f g w hf hg h
/-- all names more -/
theorem extendAll : ∀ (m : Nat) (L : List Nat) (p : Nat → Int), m ≤ c → (∀ j ∈ L, j < c) → PSat L p t → ∃ q, (∀ j ∈ L, q j = p j) ∧ ∃ L', (∀ j ∈ L, j ∈ L') ∧ (∀ j < m, j ∈ L') ∧ (∀ j ∈ L', j < c) ∧ PSat L' q t
  | 0, L, p, _, hL, s => ⟨p, fun _ _ => rfl, L, fun _ h => h, fun j h => (Nat.not_lt_zero j h).elim, hL, s⟩
  | m + 1, L, p, hm, hL, s => by
    obtain ⟨q, h1, L', h2, h3, h4, h5⟩ := extendAll m L p (by omega) hL s
    by_cases hk : m ∈ L'
    · exact ⟨q, h1, L', h2, fun j hj => by rcases Nat.lt_succ_iff_lt_or_eq.mp hj with z | z; exact h3 j z; exact z ▸ hk, h4, h5⟩
    · obtain ⟨x, hx⟩ := extend cl (k := m) (by omega) h4 hk h5
      refine ⟨setP q m x, fun j hj => ?_, m :: L', fun j hj => List.mem_cons_of_mem _ (h2 j hj), fun j hj => ?_, fun j hj => ?_, hx⟩
      · unfold setP
        rw [if_neg (fun (e : j = m) => hk (by rw [← e]; exact h2 j hj))]
        exact h1 j hj
      · rcases Nat.lt_succ_iff_lt_or_eq.mp hj with z | z
        · exact List.mem_cons_of_mem _ (h3 j z)
        · subst z; exact List.mem_cons_self
      · rcases List.mem_cons.mp hj with z | z
        · subst z; omega
        · exact h4 j z
theorem complete {L : List Nat} {p : Nat → Int} (hL : ∀ j ∈ L, j < c) (s : PSat L p t) : ∃ q, (∀ j ∈ L, q j = p j) ∧ Sat (2 * c) q t := by
  obtain ⟨q, h1, L', h2, h3, h4, h5⟩ := extendAll cl c L p (Nat.le_refl _) hL s
  exact ⟨q, h1, fun f g w hf hg h => h5 f g w (h3 _ (by omega)) (h3 _ (by omega)) h⟩
/-- a table closed tight has a point -/
theorem point : ∃ q, Sat (2 * c) q t := by
  obtain ⟨q, _, h⟩ := complete cl (L := []) (p := fun _ => 0) (by simp) (fun f g w hf => by cases hf)
  exact ⟨q, h⟩
end
end E8M
/-! each entry of a table closed tight is met. Plain Lean. -/
namespace E8M
theorem same_name {f h : Nat} (e : h / 2 = f / 2) : h = f ∨ h = fl f := by unfold fl; split <;> omega
def valP (f : Nat) (x : Int) : Int := if f % 2 = 1 then -x else x
theorem worth_val {p : Nat → Int} {f : Nat} {x : Int} : worth (setP p (f / 2) (valP f x)) f = x := by
  unfold worth setP valP
  rw [if_pos rfl]
  split <;> omega
section
variable {c : Nat} {t : T} (cl : Cl (2 * c) t)
include cl
theorem meet1 {f : Nat} {x : Int} (hf : f < 2 * c) (h1 : ∀ a, Le t f f a → 2 * x ≤ a) (h2 : ∀ a, Le t (fl f) (fl f) a → -(2 * x) ≤ a) : ∃ p, Sat (2 * c) p t ∧ worth p f = x := by
  have w1 : worth (setP (fun _ => 0) (f / 2) (valP f x)) f = x := worth_val
  have w2 : worth (setP (fun _ => 0) (f / 2) (valP f x)) (fl f) = -x := by rw [worth_fl, w1]
  obtain ⟨q, e, s⟩ := complete cl (L := [f / 2]) (p := setP (fun _ => 0) (f / 2) (valP f x)) (fun j hj => by
    have : j = f / 2 := by simpa using hj
    omega) (fun a b w ha hb h => by
    have ha' : a / 2 = f / 2 := by simpa using ha
    have hb' : b / 2 = f / 2 := by simpa using hb
    rcases same_name ha' with rfl | rfl
    · rcases same_name hb' with e | e
      · rw [e] at h ⊢; rw [w1]; have := h1 w h; omega
      · rw [e] at h ⊢; rw [w1, w2]; have := (cl.zero a w hf).mp h; omega
    · rcases same_name hb' with e | e
      · rw [e] at h ⊢; rw [w1, w2]
        have := (cl.zero f w hf).mp (cl.sym _ _ _ (fl_lt hf) hf h)
        omega
      · rw [e] at h ⊢; rw [w2]; have := h2 w h; omega)
  refine ⟨q, s, ?_⟩
  rw [← w1]
  unfold worth
  rw [e (f / 2) (by simp)]
theorem meet2 {f g : Nat} {x y : Int} (hf : f < 2 * c) (hg : g < 2 * c) (ne : f / 2 ≠ g / 2) (h1 : ∀ a, Le t f f a → 2 * x ≤ a) (h2 : ∀ a, Le t (fl f) (fl f) a → -(2 * x) ≤ a)
    (h3 : ∀ a, Le t g g a → 2 * y ≤ a) (h4 : ∀ a, Le t (fl g) (fl g) a → -(2 * y) ≤ a) (h5 : ∀ a, Le t f g a → x + y ≤ a) (h6 : ∀ a, Le t f (fl g) a → x - y ≤ a) (h7 : ∀ a, Le t (fl f) g a → -x + y ≤ a) (h8 : ∀ a, Le t (fl f) (fl g) a → -x - y ≤ a) :
    ∃ p, Sat (2 * c) p t ∧ worth p f = x ∧ worth p g = y := by
  have hf' := fl_lt hf
  have hg' := fl_lt hg
  have w1 : worth (setP (setP (fun _ => 0) (f / 2) (valP f x)) (g / 2) (valP g y)) f = x := by rw [worth_set_ne ne]; exact worth_val
  have w2 : worth (setP (setP (fun _ => 0) (f / 2) (valP f x)) (g / 2) (valP g y)) (fl f) = -x := by rw [worth_fl, w1]
  have w3 : worth (setP (setP (fun _ => 0) (f / 2) (valP f x)) (g / 2) (valP g y)) g = y := worth_val
  have w4 : worth (setP (setP (fun _ => 0) (f / 2) (valP f x)) (g / 2) (valP g y)) (fl g) = -y := by rw [worth_fl, w3]
  have S := cl.sym
  obtain ⟨q, e, s⟩ := complete cl (L := [f / 2, g / 2]) (p := setP (setP (fun _ => 0) (f / 2) (valP f x)) (g / 2) (valP g y)) (fun j hj => by
    have : j = f / 2 ∨ j = g / 2 := by simpa using hj
    omega) (fun a b w ha hb h => by
    have ha' : a / 2 = f / 2 ∨ a / 2 = g / 2 := by simpa using ha
    have hb' : b / 2 = f / 2 ∨ b / 2 = g / 2 := by simpa using hb
    have fa : a = f ∨ a = fl f ∨ a = g ∨ a = fl g := by
      rcases ha' with z | z
      · rcases same_name z with z | z; exact .inl z; exact .inr (.inl z)
      · rcases same_name z with z | z; exact .inr (.inr (.inl z)); exact .inr (.inr (.inr z))
    have fb : b = f ∨ b = fl f ∨ b = g ∨ b = fl g := by
      rcases hb' with z | z
      · rcases same_name z with z | z; exact .inl z; exact .inr (.inl z)
      · rcases same_name z with z | z; exact .inr (.inr (.inl z)); exact .inr (.inr (.inr z))
    rcases fa with ea | ea | ea | ea <;> rcases fb with eb | eb | eb | eb <;> rw [ea, eb] at h ⊢
    · rw [w1]; have := h1 w h; omega
    · rw [w1, w2]; have := (cl.zero f w hf).mp h; omega
    · rw [w1, w3]; exact h5 w h
    · rw [w1, w4]; have := h6 w h; omega
    · rw [w1, w2]; have := (cl.zero f w hf).mp (S _ _ _ hf' hf h); omega
    · rw [w2]; have := h2 w h; omega
    · rw [w2, w3]; exact h7 w h
    · rw [w2, w4]; have := h8 w h; omega
    · rw [w1, w3]; have := h5 w (S _ _ _ hg hf h); omega
    · rw [w2, w3]; have := h7 w (S _ _ _ hg hf' h); omega
    · rw [w3]; have := h3 w h; omega
    · rw [w3, w4]; have := (cl.zero g w hg).mp h; omega
    · rw [w1, w4]; have := h6 w (S _ _ _ hg' hf h); omega
    · rw [w2, w4]; have := h8 w (S _ _ _ hg' hf' h); omega
    · rw [w3, w4]; have := (cl.zero g w hg).mp (S _ _ _ hg' hg h); omega
    · rw [w4]; have := h4 w h; omega)
  refine ⟨q, s, ?_, ?_⟩
  · rw [← w1]; unfold worth; rw [e (f / 2) (by simp)]
  · rw [← w3]; unfold worth; rw [e (g / 2) (by simp)]
/-- how far an entry may be below 0 -/
def mag (o : Option Int) : Int := match o with
  | some b => b.natAbs
  | none => 0
omit cl in
theorem mag_nn (o : Option Int) : 0 ≤ mag o := by unfold mag; split <;> omega
omit cl in
theorem mag_le {f g : Nat} {a : Int} (h : Le t f g a) : -mag (t f g) ≤ a := by
  obtain ⟨b, e, hl⟩ := h
  rw [e]
  unfold mag
  dsimp only
  omega
theorem attain_diag {f : Nat} (hf : f < 2 * c) : (∀ v, t f f = some v → ∃ p, Sat (2 * c) p t ∧ worth p f + worth p f = v) ∧ (t f f = none → ∀ N, ∃ p, Sat (2 * c) p t ∧ N ≤ worth p f) := by
  have hf' := fl_lt hf
  constructor
  · intro v e
    have ev := cl.even hf e
    obtain ⟨p, s, w⟩ := meet1 cl (x := v / 2) hf (fun a ⟨b, h, hl⟩ => by rw [e] at h; cases h; omega) (fun a h => by
      have := cl.nonneg hf hf' (Le.at e) h
      omega)
    exact ⟨p, s, by omega⟩
  · intro e N
    have m0 := mag_nn (t (fl f) (fl f))
    obtain ⟨p, s, w⟩ := meet1 cl (x := max N (mag (t (fl f) (fl f)))) hf (fun a ⟨b, h, hl⟩ => by rw [e] at h; cases h) (fun a h => by
      have := mag_le h
      omega)
    exact ⟨p, s, by omega⟩
omit cl in
def optL (o : Option Int) (h : Int → Int) : List Int := (o.map h).toList
omit cl in
theorem mem_optL {o : Option Int} {h : Int → Int} {x : Int} : x ∈ optL o h ↔ ∃ a, o = some a ∧ x = h a := by
  unfold optL
  cases o with
  | none => simp
  | some a => simp [eq_comm]
theorem attain_two {f g : Nat} {v : Int} (hf : f < 2 * c) (hg : g < 2 * c) (ne : f / 2 ≠ g / 2) (e : t f g = some v) : ∃ p, Sat (2 * c) p t ∧ worth p f + worth p g = v := by
  have hf' := fl_lt hf
  have hg' := fl_lt hg
  have S := cl.sym
  have L : ∀ {i j : Nat} {a : Int}, t i j = some a → Le t i j a := fun h => Le.at h
  obtain ⟨x, hl, hu⟩ := between (optL (t (fl f) (fl f)) (fun a => -(a / 2)) ++ (optL (t g g) (fun a => v - a / 2) ++ optL (t (fl f) g) fun b => -((b - v) / 2)))
    (optL (t f f) (fun a => a / 2) ++ (optL (t (fl g) (fl g)) (fun a => v + a / 2) ++ optL (t f (fl g)) fun b => (v + b) / 2)) (fun l hl u hu => by
    simp only [List.mem_append, mem_optL] at hl hu
    rcases hl with ⟨a, ea, rfl⟩ | ⟨a, ea, rfl⟩ | ⟨a, ea, rfl⟩
    · have eva := cl.even hf' ea
      rcases hu with ⟨b, eb, rfl⟩ | ⟨b, eb, rfl⟩ | ⟨b, eb, rfl⟩
      · have := cl.nonneg hf hf' (L eb) (L ea)
        have := cl.even hf eb
        omega
      · have q := cl.strong _ _ a b hf' hg' (L ea) (L eb)
        have := cl.cross hf hg hf' hg' (L e) q
        omega
      · -- f̄ f̄ a, f g v → f̄ g : a + v ; with ḡ... b : f ḡ
        have q := cl.link (fl f) (fl f) g a v hf' hf' hg (L ea) (by rw [fl_fl]; exact L e)
        have := (cl.zero f _ hf).mp (cl.link f (fl g) (fl f) b (a + v) hf hg' hf' (L eb) (by rw [fl_fl]; exact S _ _ _ hf' hg q))
        omega
    · have eva := cl.even hg ea
      rcases hu with ⟨b, eb, rfl⟩ | ⟨b, eb, rfl⟩ | ⟨b, eb, rfl⟩
      · obtain ⟨w, h1, h2⟩ := cl.strong f g b a hf hg (L eb) (L ea)
        rw [e] at h1; cases h1
        have := cl.even hf eb
        omega
      · have := cl.nonneg hg hg' (L ea) (L eb)
        have := cl.even hg' eb
        omega
      · obtain ⟨w, h1, h2⟩ := S _ _ _ hg hf (cl.link g g f a b hg hg hf (L ea) (S _ _ _ hf hg' (L eb)))
        rw [e] at h1; cases h1
        omega
    · rcases hu with ⟨b, eb, rfl⟩ | ⟨b, eb, rfl⟩ | ⟨b, eb, rfl⟩
      · -- f̄ g a, f f b
        obtain ⟨w, h1, h2⟩ := cl.link f f g b a hf hf hg (L eb) (L ea)
        rw [e] at h1; cases h1
        have := cl.even hf eb
        omega
      · -- f̄ g a, ḡ ḡ b → f̄ ḡ : a + b
        have q := cl.link (fl f) g (fl g) a b hf' hg hg' (L ea) (L eb)
        have := cl.cross hf hg hf' hg' (L e) q
        have := cl.even hg' eb
        omega
      · -- f̄ g a, f ḡ b: 0 ≤ a + b; the parity
        have z := cl.cross hf hg' hf' (by rw [fl_fl]; exact hg) (L eb) (by rw [fl_fl]; exact L ea)
        -- f f ≤ v + b, g g ≤ v + a
        have q1 := cl.link f g f v b hf hg hf (L e) (S _ _ _ hf hg' (L eb))
        have q2 := cl.link g f g v a hg hf hg (S _ _ _ hf hg (L e)) (L ea)
        obtain ⟨w1, r1, r2⟩ := q1
        obtain ⟨w2, r3, r4⟩ := q2
        have p1 := cl.even hf r1
        have p2 := cl.even hg r3
        obtain ⟨w, h1, h2⟩ := cl.strong f g w1 w2 hf hg (L r1) (L r3)
        rw [e] at h1; cases h1
        omega)
  simp only [List.mem_append, mem_optL] at hl hu
  have zz : ∀ a, Le t (fl f) (fl g) a → 0 ≤ v + a := fun a h => cl.cross hf hg hf' hg' (L e) h
  obtain ⟨p, s, w1, w2⟩ := meet2 cl (x := x) (y := v - x) hf hg ne
    (fun a ⟨b, h, q⟩ => by have := hu _ (.inl ⟨b, h, rfl⟩); omega) (fun a ⟨b, h, q⟩ => by have := hl _ (.inl ⟨b, h, rfl⟩); omega)
    (fun a ⟨b, h, q⟩ => by have := hl _ (.inr (.inl ⟨b, h, rfl⟩)); omega) (fun a ⟨b, h, q⟩ => by have := hu _ (.inr (.inl ⟨b, h, rfl⟩)); omega)
    (fun a ⟨b, h, q⟩ => by rw [e] at h; cases h; omega) (fun a ⟨b, h, q⟩ => by have := hu _ (.inr (.inr ⟨b, h, rfl⟩)); omega)
    (fun a ⟨b, h, q⟩ => by have := hl _ (.inr (.inr ⟨b, h, rfl⟩)); omega) (fun a h => by have := zz a h; omega)
  exact ⟨p, s, by omega⟩
theorem attain_inf {f g : Nat} (hf : f < 2 * c) (hg : g < 2 * c) (ne : f / 2 ≠ g / 2) (e : t f g = none) (ef : t f f = none) (N : Int) : ∃ p, Sat (2 * c) p t ∧ N ≤ worth p f + worth p g := by
  have hf' := fl_lt hf
  have hg' := fl_lt hg
  have no : ∀ {i j : Nat} {a : Int}, t i j = none → Le t i j a → False := fun h ⟨b, q, _⟩ => by rw [h] at q; cases q
  cases ea : t f (fl g) with
  | some a =>
    have eg : t g g = none := by
      cases eg : t g g with
      | none => rfl
      | some b => exact (no e (cl.sym _ _ _ hg hf (cl.link g g f b a hg hg hf (Le.at eg) (cl.sym _ _ _ hf hg' (Le.at ea))))).elim
    have m1 := mag_nn (t (fl f) (fl f))
    have m2 := mag_nn (t (fl g) (fl g))
    have m3 := mag_nn (t (fl f) (fl g))
    have m4 := mag_nn (some a)
    have m5 : a ≤ mag (some a) ∧ -a ≤ mag (some a) := by unfold mag; dsimp only; omega
    obtain ⟨x, hx⟩ : ∃ x : Int, x = N.natAbs + mag (t (fl f) (fl f)) + mag (t (fl g) (fl g)) + mag (t (fl f) (fl g)) + mag (some a) := ⟨_, rfl⟩
    obtain ⟨p, s, w1, w2⟩ := meet2 cl (x := x) (y := x - a) hf hg ne (fun b h => (no ef h).elim) (fun b h => by have := mag_le h; omega)
      (fun b h => (no eg h).elim) (fun b h => by have := mag_le h; omega) (fun b h => (no e h).elim) (fun b ⟨b', h, q⟩ => by rw [ea] at h; cases h; omega)
      (fun b h => by have := cl.cross hf hg' hf' (by rw [fl_fl]; exact hg) (Le.at ea) (by rw [fl_fl]; exact h); omega) (fun b h => by have := mag_le h; omega)
    exact ⟨p, s, by omega⟩
  | none =>
    obtain ⟨y, y1, y2⟩ : ∃ y : Int, (∀ a, Le t g g a → 2 * y ≤ a) ∧ ∀ a, Le t (fl g) (fl g) a → -(2 * y) ≤ a := by
      cases eg : t g g with
      | none => exact ⟨mag (t (fl g) (fl g)), fun a h => (no eg h).elim, fun a h => by have := mag_le h; have := mag_nn (t (fl g) (fl g)); omega⟩
      | some b =>
        have := cl.even hg eg
        exact ⟨b / 2, fun a ⟨b', h, q⟩ => by rw [eg] at h; cases h; omega, fun a h => by have := cl.nonneg hg hg' (Le.at eg) h; omega⟩
    have m1 := mag_nn (t (fl f) (fl f))
    have m2 := mag_nn (t (fl f) g)
    have m3 := mag_nn (t (fl f) (fl g))
    obtain ⟨x, hx⟩ : ∃ x : Int, x = N.natAbs + y.natAbs + mag (t (fl f) (fl f)) + mag (t (fl f) g) + mag (t (fl f) (fl g)) := ⟨_, rfl⟩
    obtain ⟨p, s, w1, w2⟩ := meet2 cl (x := x) (y := y) hf hg ne (fun b h => (no ef h).elim) (fun b h => by have := mag_le h; omega)
      y1 y2 (fun b h => (no e h).elim) (fun b h => (no ea h).elim) (fun b h => by have := mag_le h; omega) (fun b h => by have := mag_le h; omega)
    exact ⟨p, s, by omega⟩
/-- each number of a table closed tight is met, and where none stands points go as far as one asks -/
theorem attain {f g : Nat} (hf : f < 2 * c) (hg : g < 2 * c) : (∀ v, t f g = some v → ∃ p, Sat (2 * c) p t ∧ worth p f + worth p g = v) ∧ (t f g = none → ∀ N, ∃ p, Sat (2 * c) p t ∧ N ≤ worth p f + worth p g) := by
  by_cases h : f / 2 = g / 2
  · rcases same_name h.symm with e | e
    · subst e
      obtain ⟨a, b⟩ := attain_diag cl hf
      refine ⟨a, fun e N => ?_⟩
      obtain ⟨p, s, w⟩ := b e N.natAbs
      exact ⟨p, s, by omega⟩
    · subst e
      refine ⟨fun v e => ?_, fun e N => ?_⟩
      · obtain ⟨p, s⟩ := point cl
        have z1 := (cl.zero f v hf).mp (Le.at e)
        obtain ⟨w, h1, h2⟩ := (cl.zero f 0 hf).mpr (Int.le_refl _)
        rw [e] at h1; cases h1
        exact ⟨p, s, by rw [worth_fl]; omega⟩
      · obtain ⟨w, h1, h2⟩ := (cl.zero f 0 hf).mpr (Int.le_refl _)
        rw [e] at h1; cases h1
  · refine ⟨fun v e => attain_two cl hf hg h e, fun e N => ?_⟩
    cases ef : t f f with
    | none => exact attain_inf cl hf hg h e ef N
    | some a =>
      cases eg : t g g with
      | none =>
        have e' : t g f = none := by
          cases q : t g f with
          | none => rfl
          | some w =>
            obtain ⟨b, h1, _⟩ := cl.sym _ _ _ hg hf (Le.at q)
            rw [e] at h1; cases h1
        obtain ⟨p, s, w⟩ := attain_inf cl hg hf (Ne.symm h) e' eg N
        exact ⟨p, s, by omega⟩
      | some b =>
        obtain ⟨w, h1, _⟩ := cl.strong f g a b hf hg (Le.at ef) (Le.at eg)
        rw [e] at h1; cases h1
end
/-- tables of the same points have the same entries -/
theorem le_of_sub {c : Nat} {t s : T} (ct : Cl (2 * c) t) (cs : Cl (2 * c) s) (h : ∀ p, Sat (2 * c) p t → Sat (2 * c) p s) {f g : Nat} {w : Int} (hf : f < 2 * c) (hg : g < 2 * c) (q : Le s f g w) : Le t f g w := by
  obtain ⟨a1, a2⟩ := attain ct hf hg
  cases e : t f g with
  | none =>
    obtain ⟨p, sp, hp⟩ := a2 e (w + 1)
    have := h p sp f g w hf hg q
    omega
  | some v =>
    obtain ⟨p, sp, hp⟩ := a1 v e
    have := h p sp f g w hf hg q
    exact ⟨v, e, by omega⟩
theorem same_pts {c : Nat} {t s : T} (ct : Cl (2 * c) t) (cs : Cl (2 * c) s) (h : ∀ p, Sat (2 * c) p t ↔ Sat (2 * c) p s) {f g : Nat} (hf : f < 2 * c) (hg : g < 2 * c) : t f g = s f g :=
  le_ext fun w => ⟨fun q => le_of_sub cs ct (fun p => (h p).mpr) hf hg q, fun q => le_of_sub ct cs (fun p => (h p).mp) hf hg q⟩
end E8M
/-! Chains of sides as paths; rings. Plain. -/
namespace E8M
structure Side where
  f : Nat
  g : Nat
  c : Int
def Side.ok (n : Nat) (s : Side) : Prop := s.f < n ∧ s.g < n
def Meets (ss : List Side) (p : Nat → Int) : Prop := ∀ s ∈ ss, worth p s.f + worth p s.g ≤ s.c
/-- a way to go over a side: its place, from where, to where, its number -/
structure Way where
  n : Nat
  f : Nat
  g : Nat
  c : Int
def WayOf (ss : List Side) (w : Way) : Prop := ∃ s, ss[w.n]? = some s ∧ w.c = s.c ∧ ((w.f = s.f ∧ w.g = s.g) ∨ (w.f = s.g ∧ w.g = s.f))
/-- paths over ways; one stands at the flip of the form that the last way ended at -/
def Pth (ws : List Way) : Nat → List Way → Nat → Prop
  | a, [], b => a = b
  | a, w :: r, b => w ∈ ws ∧ w.f = a ∧ Pth ws (fl w.g) r b
def tot : List Way → Int
  | [] => 0
  | w :: r => w.c + tot r
theorem tot_append : ∀ p q, tot (p ++ q) = tot p + tot q
  | [], q => by simp [tot]
  | w :: p, q => by simp only [List.cons_append, tot, tot_append p q]; omega
theorem pth_append {ws : List Way} : ∀ {p q : List Way} {a b c : Nat}, Pth ws a p b → Pth ws b q c → Pth ws a (p ++ q) c
  | [], q, a, b, c, h1, h2 => by cases h1; exact h2
  | w :: p, q, a, b, c, h1, h2 => ⟨h1.1, h1.2.1, pth_append h1.2.2 h2⟩
theorem pth_last {ws : List Way} : ∀ {p : List Way} {a b : Nat}, p ≠ [] → Pth ws a p b → ∃ p' w, p = p' ++ [w] ∧ Pth ws a p' w.f ∧ w ∈ ws ∧ fl w.g = b
  | [], _, _, h, _ => absurd rfl h
  | [w], a, b, _, h => ⟨[], w, rfl, h.2.1.symm, h.1, h.2.2⟩
  | w :: v :: p, a, b, _, h => by
    obtain ⟨p', u, e, h1, h2, h3⟩ := pth_last (p := v :: p) (by simp) h.2.2
    exact ⟨w :: p', u, by rw [e]; rfl, ⟨h.1, h.2.1, h1⟩, h2, h3⟩
/-- the places of a path behind its first -/
def nds (p : List Way) : List Nat := p.map fun w => fl w.g
theorem pth_split {ws : List Way} : ∀ {p : List Way} {a b x : Nat}, Pth ws a p b → x ∈ a :: nds p → ∃ p1 p2, p = p1 ++ p2 ∧ Pth ws a p1 x ∧ Pth ws x p2 b
  | [], a, b, x, h, m => by
    cases h
    have : x = a := by simpa [nds] using m
    subst this
    exact ⟨[], [], rfl, rfl, rfl⟩
  | w :: p, a, b, x, h, m => by
    by_cases e : x = a
    · subst e; exact ⟨[], w :: p, rfl, rfl, h⟩
    · obtain ⟨p1, p2, e1, h1, h2⟩ := pth_split (x := x) h.2.2 (by
        rcases List.mem_cons.mp m with q | q
        · exact absurd q e
        · exact q)
      exact ⟨w :: p1, p2, by rw [e1]; rfl, ⟨h.1, h.2.1, h1⟩, h2⟩
theorem nodup_len : ∀ (n : Nat) (l : List Nat), l.Nodup → (∀ x ∈ l, x < n) → l.length ≤ n
  | 0, [], _, _ => Nat.le_refl _
  | 0, x :: l, _, h => absurd (h x List.mem_cons_self) (Nat.not_lt_zero x)
  | n + 1, l, nd, h => by
    have ih := nodup_len n (l.erase n) (nd.erase n) (fun x m => by
      have h1 := h x (List.mem_of_mem_erase m)
      have h2 : x ≠ n := (List.Nodup.mem_erase_iff nd).mp m |>.1
      omega)
    by_cases m : n ∈ l
    · rw [List.length_erase_of_mem m] at ih
      omega
    · rw [List.erase_of_not_mem m] at ih
      omega
section
variable {ws : List Way} {n : Nat}
/-- no way round comes to less than nothing -/
def NoNeg (ws : List Way) (n : Nat) : Prop := ∀ x p, x < n → Pth ws x p x → p.length ≤ n → 0 ≤ tot p
theorem pth_end (hw : ∀ w ∈ ws, fl w.g < n) : ∀ {p : List Way} {a b : Nat}, a < n → Pth ws a p b → b < n
  | [], a, b, h, q => by cases q; exact h
  | w :: p, a, b, _, q => pth_end hw (hw w q.1) q.2.2
theorem pth_short (hw : ∀ w ∈ ws, fl w.g < n) (nn : NoNeg ws n) : ∀ {p : List Way} {a b : Nat}, a < n → Pth ws a p b → ∃ q, Pth ws a q b ∧ tot q ≤ tot p ∧ (a :: nds q).Nodup ∧ (∀ x ∈ a :: nds q, x < n)
  | [], a, b, ha, h => ⟨[], h, Int.le_refl _, by simp [nds], by simpa [nds] using ha⟩
  | w :: p, a, b, ha, h => by
    obtain ⟨q, h1, h2, h3, h4⟩ := pth_short hw nn (hw w h.1) h.2.2
    by_cases m : a ∈ fl w.g :: nds q
    · obtain ⟨q1, q2, e, g1, g2⟩ := pth_split h1 m
      subst e
      have hl : (w :: q1).length ≤ n := by
        have := nodup_len n _ h3 h4
        simp [nds] at this ⊢
        omega
      have := nn a (w :: q1) ha ⟨h.1, h.2.1, g1⟩ hl
      rw [tot_append] at h2
      simp only [tot] at this ⊢
      have sub2 : ∀ x ∈ nds q2, x ∈ nds (q1 ++ q2) := fun x mx => by
        unfold nds at *
        rw [List.map_append]
        exact List.mem_append_right _ mx
      refine ⟨q2, g2, by omega, ?_, ?_⟩
      · refine List.nodup_cons.mpr ⟨fun mm => ?_, ?_⟩
        · -- a stands in q2 again
          cases hq : q1 with
          | nil =>
            subst hq
            have e0 : fl w.g = a := g1
            rw [e0] at h3
            exact (List.nodup_cons.mp h3).1 (sub2 a mm)
          | cons v r =>
            have ma : a ∈ nds q1 := by
              have : q1 ≠ [] := by rw [hq]; simp
              obtain ⟨p', u, e', _, _, e2⟩ := pth_last this g1
              rw [e']
              unfold nds
              rw [List.map_append]
              exact List.mem_append_right _ (by simp [e2])
            have nd := (List.nodup_cons.mp h3).2
            unfold nds at nd mm ma
            rw [List.map_append] at nd
            exact (List.nodup_append.mp nd).2.2 a ma a mm rfl
        · have nd := (List.nodup_cons.mp h3).2
          unfold nds at nd ⊢
          rw [List.map_append] at nd
          exact (List.nodup_append.mp nd).2.1
      · intro x mx
        rcases List.mem_cons.mp mx with rfl | mx
        · exact ha
        · exact h4 x (List.mem_cons_of_mem _ (sub2 x mx))
    · refine ⟨w :: q, ⟨h.1, h.2.1, h1⟩, by simp only [tot]; omega, ?_, ?_⟩
      · exact List.nodup_cons.mpr ⟨m, h3⟩
      · intro x mx
        rcases List.mem_cons.mp mx with rfl | mx
        · exact ha
        · exact h4 x mx
theorem short_len {a : Nat} {q : List Way} (h3 : (a :: nds q).Nodup) (h4 : ∀ x ∈ a :: nds q, x < n) : q.length ≤ n := by
  have := nodup_len n _ h3 h4
  simp [nds] at this
  omega
/-- a path the other way round -/
theorem pth_rev (hr : ∀ w ∈ ws, ∃ v ∈ ws, v.f = w.g ∧ v.g = w.f ∧ v.c = w.c) : ∀ {p : List Way} {a b : Nat}, Pth ws a p b → ∃ q, Pth ws (fl b) q (fl a) ∧ tot q = tot p
  | [], a, b, h => by cases h; exact ⟨[], rfl, rfl⟩
  | w :: p, a, b, h => by
    obtain ⟨q, h1, h2⟩ := pth_rev hr h.2.2
    obtain ⟨v, m, e1, e2, e3⟩ := hr w h.1
    refine ⟨q ++ [v], pth_append h1 ⟨m, by rw [e1, fl_fl], ?_⟩, ?_⟩
    · show fl v.g = fl a
      rw [e2, h.2.1]
    · rw [tot_append]
      simp only [tot]
      omega
theorem pth_sat {p : Nat → Int} (hp : ∀ w ∈ ws, worth p w.f + worth p w.g ≤ w.c) : ∀ {q : List Way} {a b : Nat}, Pth ws a q b → worth p a - worth p b ≤ tot q
  | [], a, b, h => by cases h; simp [tot]
  | w :: q, a, b, h => by
    have h1 := pth_sat hp h.2.2
    have h2 := hp w h.1
    rw [worth_fl] at h1
    rw [h.2.1] at h2
    simp only [tot]
    omega
end
/-! ### dicts of what was found -/
abbrev Leg := Nat × Nat × Nat
def Way.leg (w : Way) : Leg := (w.n, w.f, w.g)
abbrev Ent := Int × List Way
abbrev Fnd := List (Nat × Ent)
def dlk : Fnd → Nat → Option Ent
  | [], _ => none
  | x :: D, e => if x.1 = e then some x.2 else dlk D e
def dput : Fnd → Nat → Ent → Fnd
  | [], e, v => [(e, v)]
  | x :: D, e, v => if x.1 = e then (e, v) :: D else x :: dput D e v
theorem dlk_put : ∀ (D : Fnd) (e : Nat) (v : Ent) (g : Nat), dlk (dput D e v) g = if g = e then some v else dlk D g
  | [], e, v, g => by
    simp only [dput, dlk]
    by_cases h : g = e
    · simp [h]
    · simp [h, Ne.symm h]
  | x :: D, e, v, g => by
    simp only [dput]
    by_cases h1 : x.1 = e
    · rw [if_pos h1]
      simp only [dlk]
      by_cases h : g = e
      · simp [h]
      · rw [if_neg (Ne.symm h), if_neg h, if_neg (by rw [h1]; exact Ne.symm h)]
    · rw [if_neg h1]
      simp only [dlk, dlk_put D e v g]
      by_cases h : g = e
      · subst h; simp [h1]
      · simp [h]
def betterM (D : Fnd) (e : Nat) (s : Int) : Bool := match dlk D e with
  | none => true
  | some x => decide (s < x.1)
/-- D with (e, s) put in, where it is better -/
def putB (D : Fnd) (e : Nat) (v : Ent) : Fnd := if betterM D e v.1 = true then dput D e v else D
theorem putB_le {D : Fnd} {e : Nat} {v : Ent} : ∃ x, dlk (putB D e v) e = some x ∧ x.1 ≤ v.1 := by
  unfold putB betterM
  cases h : dlk D e with
  | none => exact ⟨v, by simp [dlk_put], Int.le_refl _⟩
  | some x =>
    by_cases c : v.1 < x.1
    · exact ⟨v, by simp [c, dlk_put], Int.le_refl _⟩
    · exact ⟨x, by simp [c, h], by omega⟩
theorem putB_mono {D : Fnd} {e : Nat} {v : Ent} {g : Nat} {x : Ent} (h : dlk D g = some x) : ∃ y, dlk (putB D e v) g = some y ∧ y.1 ≤ x.1 := by
  by_cases c : g = e
  · subst c
    unfold putB betterM
    rw [h]
    by_cases c : v.1 < x.1
    · exact ⟨v, by simp [c, dlk_put], by omega⟩
    · exact ⟨x, by simp [c, h], Int.le_refl _⟩
  · unfold putB
    split
    · exact ⟨x, by rw [dlk_put, if_neg c, h], Int.le_refl _⟩
    · exact ⟨x, h, Int.le_refl _⟩
theorem putB_from {D : Fnd} {e : Nat} {v : Ent} {g : Nat} {x : Ent} (h : dlk (putB D e v) g = some x) : dlk D g = some x ∨ (g = e ∧ x = v) := by
  unfold putB at h
  split at h
  · rw [dlk_put] at h
    split at h
    · rename_i c; exact .inr ⟨c, (Option.some.inj h).symm⟩
    · exact .inl h
  · exact .inl h
def first1 (b : Nat) (D : Fnd) (w : Way) : Fnd := if w.f = b then putB D w.g (w.c, [w]) else D
def more1 (D0 : Fnd) (D : Fnd) (w : Way) : Fnd := match dlk D0 (fl w.f) with
  | none => D
  | some x => putB D w.g (x.1 + w.c, x.2 ++ [w])
section
variable {ws : List Way} {b : Nat}
/-- what stands in D are paths of k ways at most -/
def Snd (ws : List Way) (b : Nat) (k : Nat) (D : Fnd) : Prop := ∀ e x, dlk D e = some x → x.2 ≠ [] ∧ Pth ws b x.2 (fl e) ∧ tot x.2 = x.1 ∧ x.2.length ≤ k
/-- no path of k ways at most is better -/
def Opt (ws : List Way) (b : Nat) (k : Nat) (D : Fnd) : Prop := ∀ e p, p ≠ [] → Pth ws b p (fl e) → p.length ≤ k → ∃ x, dlk D e = some x ∧ x.1 ≤ tot p
def LeD (D D' : Fnd) : Prop := ∀ e x, dlk D e = some x → ∃ y, dlk D' e = some y ∧ y.1 ≤ x.1
theorem LeD.refl (D : Fnd) : LeD D D := fun e x h => ⟨x, h, Int.le_refl _⟩
theorem LeD.trans {A B C : Fnd} (h : LeD A B) (h' : LeD B C) : LeD A C := fun e x q => by
  obtain ⟨y, h1, h2⟩ := h e x q
  obtain ⟨z, h3, h4⟩ := h' e y h1
  exact ⟨z, h3, by omega⟩
theorem first1_le (D : Fnd) (w : Way) : LeD D (first1 b D w) := fun e x h => by
  unfold first1
  split
  · exact putB_mono h
  · exact ⟨x, h, Int.le_refl _⟩
theorem more1_le (D0 D : Fnd) (w : Way) : LeD D (more1 D0 D w) := fun e x h => by
  unfold more1
  split
  · exact ⟨x, h, Int.le_refl _⟩
  · exact putB_mono h
theorem fold_le {f : Fnd → Way → Fnd} (h : ∀ D w, LeD D (f D w)) : ∀ (l : List Way) (D : Fnd), LeD D (l.foldl f D)
  | [], D => LeD.refl D
  | w :: l, D => (h D w).trans (fold_le h l (f D w))
theorem fold_hit {f : Fnd → Way → Fnd} (h : ∀ D w, LeD D (f D w)) {e : Nat} {s : Int} {w : Way} (hw : ∀ D, ∃ x, dlk (f D w) e = some x ∧ x.1 ≤ s) : ∀ (l : List Way) (D : Fnd), w ∈ l → ∃ x, dlk (l.foldl f D) e = some x ∧ x.1 ≤ s
  | [], D, m => by cases m
  | v :: l, D, m => by
    rw [List.foldl_cons]
    rcases List.mem_cons.mp m with e1 | m
    · subst e1
      obtain ⟨x, h1, h2⟩ := hw D
      obtain ⟨y, h3, h4⟩ := fold_le h l _ e x h1
      exact ⟨y, h3, by omega⟩
    · exact fold_hit h hw l _ m
theorem first_snd : ∀ (l : List Way) (D : Fnd), (∀ w ∈ l, w ∈ ws) → Snd ws b 1 D → Snd ws b 1 (l.foldl (first1 b) D)
  | [], D, _, h => h
  | w :: l, D, hl, h => first_snd l _ (fun v m => hl v (List.mem_cons_of_mem _ m)) fun e x q => by
    unfold first1 at q
    split at q
    · rename_i hb
      rcases putB_from q with q | ⟨rfl, rfl⟩
      · exact h e x q
      · exact ⟨by simp, ⟨hl w List.mem_cons_self, hb, rfl⟩, by simp [tot], by simp⟩
    · exact h e x q
theorem first_opt : Opt ws b 1 (ws.foldl (first1 b) []) := fun e p hp h hl => by
  match p, hp, hl with
  | [w], _, _ =>
    have he : w.g = e := fl_inj h.2.2
    subst he
    have := fold_hit (f := first1 b) first1_le (e := w.g) (s := w.c) (w := w) (fun D => by
      unfold first1
      rw [if_pos h.2.1]
      exact putB_le) ws [] h.1
    simpa [tot] using this
  | w :: v :: r, _, hl => simp at hl
theorem Snd.more {k j : Nat} {D : Fnd} (h : Snd ws b k D) (hk : k ≤ j) : Snd ws b j D := fun e x q => let ⟨a, c, d, f⟩ := h e x q; ⟨a, c, d, by omega⟩
theorem more_snd {k : Nat} {D0 : Fnd} (h0 : Snd ws b k D0) : ∀ (l : List Way) (D : Fnd), (∀ w ∈ l, w ∈ ws) → Snd ws b (k + 1) D → Snd ws b (k + 1) (l.foldl (more1 D0) D)
  | [], D, _, h => h
  | w :: l, D, hl, h => more_snd h0 l _ (fun v m => hl v (List.mem_cons_of_mem _ m)) fun e x q => by
    unfold more1 at q
    split at q
    · exact h e x q
    · rename_i y hy
      rcases putB_from q with q | ⟨rfl, rfl⟩
      · exact h e x q
      · obtain ⟨a1, a2, a3, a4⟩ := h0 _ _ hy
        rw [fl_fl] at a2
        exact ⟨by simp, pth_append a2 ⟨hl w List.mem_cons_self, rfl, rfl⟩, by rw [tot_append, a3]; simp [tot], by simp; omega⟩
/-- a way behind what stands in D0 -/
theorem more_hit {D0 D : Fnd} {w : Way} {x : Ent} (hw : w ∈ ws) (h : dlk D0 (fl w.f) = some x) : ∃ y, dlk (ws.foldl (more1 D0) D) w.g = some y ∧ y.1 ≤ x.1 + w.c :=
  fold_hit (f := more1 D0) (more1_le D0) (fun D => by
    unfold more1
    rw [h]
    exact putB_le) ws D hw
theorem more_opt {k : Nat} {D0 : Fnd} (hk : 1 ≤ k) (h0 : Opt ws b k D0) : Opt ws b (k + 1) (ws.foldl (more1 D0) D0) := fun e p hp h hl => by
  by_cases c : p.length ≤ k
  · obtain ⟨x, h1, h2⟩ := h0 e p hp h c
    obtain ⟨y, h3, h4⟩ := fold_le (more1_le D0) ws D0 e x h1
    exact ⟨y, h3, by omega⟩
  · obtain ⟨p', w, rfl, h1, h2, h3⟩ := pth_last hp h
    have he := fl_inj h3
    subst he
    have hp' : p' ≠ [] := fun e => by subst e; simp at c; omega
    obtain ⟨x, g1, g2⟩ := h0 (fl w.f) p' hp' (by rw [fl_fl]; exact h1) (by simp at hl; omega)
    obtain ⟨y, g3, g4⟩ := more_hit (D := D0) h2 g1
    exact ⟨y, g3, by rw [tot_append]; simp only [tot]; omega⟩
/-- what a step more makes no better, no step makes better -/
theorem still_opt {D : Fnd} (h1 : Opt ws b 1 D) (h : ∀ e y, dlk (ws.foldl (more1 D) D) e = some y → ∃ x, dlk D e = some x ∧ x.1 = y.1) : ∀ k, Opt ws b k D
  | 0 => fun e p hp _ hl => by
    cases p with
    | nil => exact absurd rfl hp
    | cons w r => simp at hl
  | 1 => h1
  | k + 2 => fun e p hp q hl => by
    have ih := still_opt h1 h (k + 1)
    by_cases c : p.length ≤ k + 1
    · exact ih e p hp q c
    · obtain ⟨p', w, rfl, q1, q2, q3⟩ := pth_last hp q
      have he := fl_inj q3
      subst he
      have hp' : p' ≠ [] := fun e => by subst e; simp at c
      obtain ⟨x, g1, g2⟩ := ih (fl w.f) p' hp' (by rw [fl_fl]; exact q1) (by simp at hl; omega)
      obtain ⟨y, g3, g4⟩ := more_hit (D := D) q2 g1
      obtain ⟨z, g5, g6⟩ := h _ _ g3
      exact ⟨z, g5, by rw [tot_append]; simp only [tot]; omega⟩
end
/-- found by chains_from -/
def Found (ws : List Way) (n b : Nat) (D : Fnd) : Prop := Snd ws b n D ∧ Opt ws b n D
/-! ### rings -/
/-- a ring of sides that no point meets -/
def IsRing (ws : List Way) (n : Nat) (p1 p2 : List Way) : Prop := p1 ≠ [] ∧ p1.length ≤ n ∧ ∃ f, f < n ∧ ((p2 = [] ∧ Pth ws f p1 f ∧ tot p1 < 0) ∨ (p2 ≠ [] ∧ p2.length ≤ n ∧ Pth ws f p1 (fl f) ∧ Pth ws (fl f) p2 f ∧ tot p1 / 2 + tot p2 / 2 < 0))
theorem ring_unsat {ws : List Way} {n : Nat} {p1 p2 : List Way} (h : IsRing ws n p1 p2) {p : Nat → Int} (hp : ∀ w ∈ ws, worth p w.f + worth p w.g ≤ w.c) : False := by
  obtain ⟨_, _, f, _, ⟨_, h1, h2⟩ | ⟨_, _, h1, h2, h3⟩⟩ := h
  · have := pth_sat hp h1
    omega
  · have a := pth_sat hp h1
    have b := pth_sat hp h2
    rw [worth_fl] at a b
    omega
section
variable {ws : List Way} {c : Nat} {D : Nat → Fnd}
/-- the table of the least sums -/
def ringT (D : Nat → Fnd) : T := fun f g => if g = fl f then some 0 else (dlk (D f) g).map (·.1)
variable (hw : ∀ w ∈ ws, w.f < 2 * c ∧ w.g < 2 * c) (hr : ∀ w ∈ ws, ∃ v ∈ ws, v.f = w.g ∧ v.g = w.f ∧ v.c = w.c) (hD : ∀ f, f < 2 * c → Found ws (2 * c) f (D f))
  (h1 : ∀ f, f < 2 * c → ∀ x, dlk (D f) (fl f) = some x → 0 ≤ x.1) (h2 : ∀ f, f < 2 * c → ∀ x y, dlk (D f) f = some x → dlk (D (fl f)) (fl f) = some y → 0 ≤ x.1 / 2 + y.1 / 2)
include hw hD h1
theorem no_neg : NoNeg ws (2 * c) := fun x p hx h hl => by
  cases p with
  | nil => exact Int.le_refl 0
  | cons w r =>
    obtain ⟨y, e1, e2⟩ := (hD x hx).2 (fl x) (w :: r) (by simp) (by rw [fl_fl]; exact h) hl
    have := h1 x hx y e1
    omega
theorem le_ring {f g : Nat} {w : Int} (hf : f < 2 * c) : Le (ringT D) f g w ↔ ∃ p, Pth ws f p (fl g) ∧ tot p ≤ w := by
  have nn := no_neg hw hD h1
  have hw' : ∀ w ∈ ws, fl w.g < 2 * c := fun w m => fl_lt (hw w m).2
  unfold Le ringT
  by_cases e : g = fl f
  · rw [if_pos e]
    constructor
    · rintro ⟨a, h, hl⟩
      cases h
      exact ⟨[], by rw [e, fl_fl]; rfl, hl⟩
    · rintro ⟨p, h, hl⟩
      obtain ⟨q, q1, q2, q3, q4⟩ := pth_short hw' nn hf h
      rw [e, fl_fl] at q1
      have := nn f q hf q1 (short_len q3 q4)
      exact ⟨0, rfl, by omega⟩
  · rw [if_neg e]
    constructor
    · rintro ⟨a, h, hl⟩
      cases ed : dlk (D f) g with
      | none => rw [ed] at h; cases h
      | some x =>
        rw [ed] at h
        have ea : x.1 = a := Option.some.inj h
        obtain ⟨_, a2, a3, _⟩ := (hD f hf).1 g x ed
        exact ⟨x.2, a2, by omega⟩
    · rintro ⟨p, h, hl⟩
      obtain ⟨q, q1, q2, q3, q4⟩ := pth_short hw' nn hf h
      have nq : q ≠ [] := fun e0 => by
        subst e0
        have : f = fl g := q1
        exact e (by rw [this, fl_fl])
      obtain ⟨x, x1, x2⟩ := (hD f hf).2 g q nq q1 (short_len q3 q4)
      exact ⟨x.1, by rw [x1]; rfl, by omega⟩
include hr in
theorem ring_lnk : Lnk (2 * c) (ringT D) where
  sym := fun f g w hf hg h => by
    rw [le_ring hw hD h1 hf] at h
    rw [le_ring hw hD h1 hg]
    obtain ⟨p, h, hl⟩ := h
    obtain ⟨q, q1, q2⟩ := pth_rev hr h
    rw [fl_fl] at q1
    exact ⟨q, q1, by omega⟩
  zero := fun f w hf => by
    unfold Le ringT
    rw [if_pos rfl]
    constructor
    · rintro ⟨a, h, hl⟩; cases h; exact hl
    · intro h; exact ⟨0, rfl, h⟩
  link := fun f g h u v hf hg hh a b => by
    rw [le_ring hw hD h1 hf] at a ⊢
    rw [le_ring hw hD h1 (fl_lt hg)] at b
    obtain ⟨p, p1, p2⟩ := a
    obtain ⟨q, q1, q2⟩ := b
    exact ⟨p ++ q, pth_append p1 q1, by rw [tot_append]; omega⟩
include hr h2 in
/-- where there is no ring there is a point -/
theorem no_ring_point : ∃ p, ∀ w ∈ ws, worth p w.f + worth p w.g ≤ w.c := by
  have nn : ¬ noneM (2 * c) (halfM (ringT D)) := fun ⟨f, hf, a, b, e1, e2, hl⟩ => by
    unfold halfM ringT at e1 e2
    rw [if_pos rfl, if_neg (fun e => fl_ne f e.symm)] at e1
    rw [if_pos rfl, if_neg (fun e => fl_ne (fl f) e.symm)] at e2
    cases d1 : dlk (D f) f with
    | none => rw [d1] at e1; cases e1
    | some x => cases d2 : dlk (D (fl f)) (fl f) with
      | none => rw [d2] at e2; cases e2
      | some y =>
        rw [d1] at e1
        rw [d2] at e2
        have e1 : x.1 / 2 * 2 = a := Option.some.inj e1
        have e2 : y.1 / 2 * 2 = b := Option.some.inj e2
        have := h2 f hf x y d1 d2
        omega
  obtain ⟨q, hq⟩ := point (fin_cl (ring_lnk hw hr hD h1) (fun k hk => fl_lt hk) nn)
  have hs := (fin_sat (ring_lnk hw hr hD h1) (fun k hk => fl_lt hk)).mp hq
  refine ⟨q, fun w m => hs w.f w.g w.c (hw w m).1 (hw w m).2 ?_⟩
  rw [le_ring hw hD h1 (hw w m).1]
  exact ⟨[w], ⟨m, rfl, rfl⟩, by simp [tot]⟩
end
end E8M
/-! Promises of the program's defs over trees: forms, entries, tables. -/
namespace E8
open PySem PySem.Spec PyProof.Rows L2 E8M
/-! ### flipped -/
theorem xor_one (n : Nat) : n ^^^ 1 = fl n := by
  have h1 : (n ^^^ 1) / 2 = n / 2 := by
    rw [Nat.xor_div_two]; simp
  have h2 : (n ^^^ 1) % 2 = (n + 1) % 2 := by
    have := @Nat.xor_mod_two_eq_one n 1
    omega
  unfold fl
  split <;> omega
theorem bitXor_one (f : Nat) : Builtin.bitXor (f : Int) 1 = ((fl f : Nat) : Int) := by
  rw [Bits.bitXor_pp (by omega) (by omega)]
  show (((f : Int).toNat ^^^ 1 : Nat) : Int) = _
  rw [Int.toNat_natCast, xor_one]
abbrev oi (i : Int) : OD := .sh (.int i)
abbrev on (n : Nat) : OD := .sh (.int (n : Int))
def φ_flipped : Spec := fun ds k => ∃ f : Nat, ds = [on f] ∧ k (on (fl f)) ds
/-- flipped -/
def w_flipped : WS := (wRet (wOp (wII fXor) (wFrz 0) (wC (.int 1))))
abbrev ms_flipped : List Bool := [false]
abbrev n_flipped : Nat := 1
theorem h_flipped : ∀ ds κ, φ_flipped ds κ → lentOk ms_flipped ds ∧ w_flipped (endsOf ms_flipped ds κ) (startE n_flipped ds) := by
  rintro ds κ ⟨f, rfl, hk⟩
  refine ⟨⟨rfl, rfl⟩, ?_⟩
  show κ (.sh (.int (Builtin.bitXor (f : Int) 1))) _
  rw [bitXor_one]
  exact hk
/-! ### entries -/
def encO : Option Int → SD
  | none => .non
  | some a => .int a
abbrev oO (o : Option Int) : OD := .sh (encO o)
def φ_added : Spec := fun ds k => ∃ x y, ds = [oO x, oO y] ∧ k (oO (added x y)) ds
/-- added -/
def w_added : WS := (wSeq (wIf (wOrT (wB (wOp wIsN (wFrz 0) (wC .non))) (wB (wOp wIsN (wFrz 1) (wC .non)))) (wRet (wC .non)) wNext)
  (wRet (wOp wAdd (wFrz 0) (wFrz 1))))
abbrev ms_added : List Bool := [false, false]
abbrev n_added : Nat := 2
theorem h_added : ∀ ds κ, φ_added ds κ → lentOk ms_added ds ∧ w_added (endsOf ms_added ds κ) (startE n_added ds) := by
  rintro ds κ ⟨x, y, rfl, hk⟩
  refine ⟨⟨rfl, rfl, rfl⟩, ?_⟩
  cases x <;> cases y <;> exact hk
def φ_lesser : Spec := fun ds k => ∃ x y, ds = [oO x, oO y] ∧ k (oO (lesser x y)) ds
/-- lesser -/
def w_lesser : WS := (wSeq (wIf (wB (wOp wIsN (wFrz 0) (wC .non))) (wRet (wMove 1)) wNext)
  (wSeq (wIf (wOrT (wB (wOp wIsN (wFrz 1) (wC .non))) (wB (wOp (wII fLe) (wFrz 0) (wFrz 1)))) (wRet (wMove 0)) wNext)
  (wRet (wMove 1))))
abbrev ms_lesser : List Bool := [false, false]
abbrev n_lesser : Nat := 2
theorem h_lesser : ∀ ds κ, φ_lesser ds κ → lentOk ms_lesser ds ∧ w_lesser (endsOf ms_lesser ds κ) (startE n_lesser ds) := by
  rintro ds κ ⟨x, y, rfl, hk⟩
  refine ⟨⟨rfl, rfl, rfl⟩, ?_⟩
  cases x with
  | none => exact hk
  | some a => cases y with
    | none => exact hk
    | some b =>
      show if decide (a ≤ b) = true then _ else _
      have hk : κ (oO (if a ≤ b then some a else some b)) [oO (some a), oO (some b)] := hk
      by_cases h : a ≤ b
      · rw [if_pos (decide_eq_true h)]
        rw [if_pos h] at hk
        exact hk
      · rw [if_neg (by simpa using h)]
        rw [if_neg h] at hk
        exact hk
/-! ### tables -/
/-- F 0, F 1, .. F (n - 1) -/
def mk {α : Type} (F : Nat → α) : Nat → List α
  | 0 => []
  | n + 1 => mk F n ++ [F n]
theorem mk_len {α : Type} (F : Nat → α) : ∀ n, (mk F n).length = n
  | 0 => rfl
  | n + 1 => by rw [mk, List.length_append, mk_len F n]; rfl
theorem mk_get {α : Type} {F : Nat → α} : ∀ {n i : Nat}, i < n → (mk F n)[i]? = some (F i)
  | n + 1, i, h => by
    rw [mk]
    by_cases e : i < n
    · rw [List.getElem?_append_left (by rw [mk_len]; exact e), mk_get e]
    · have e' : i = n := by omega
      subst e'
      rw [List.getElem?_append_right (by rw [mk_len]; omega), mk_len, Nat.sub_self]
      rfl
theorem mk_none {α : Type} {F : Nat → α} {n i : Nat} (h : ¬ i < n) : (mk F n)[i]? = none := List.getElem?_eq_none (by rw [mk_len]; omega)
theorem mk_map {α β : Type} (F : Nat → α) (g : α → β) : ∀ n, (mk F n).map g = mk (fun i => g (F i)) n
  | 0 => rfl
  | n + 1 => by rw [mk, List.map_append, mk_map F g n]; rfl
theorem mk_congr {α : Type} {F G : Nat → α} : ∀ {n : Nat}, (∀ i, i < n → F i = G i) → mk F n = mk G n
  | 0, _ => rfl
  | n + 1, h => by rw [mk, mk, mk_congr fun i hi => h i (by omega), h n (by omega)]
theorem mk_at {α : Type} {F : Nat → α} {n k : Nat} {d : α} (e : (mk F n)[k]? = some d) : k < n ∧ d = F k := by
  by_cases h : k < n
  · rw [mk_get h] at e; exact ⟨h, (Option.some.inj e).symm⟩
  · rw [mk_none h] at e; cases e
def rowS (n : Nat) (r : Nat → Option Int) : List SD := mk (fun j => encO (r j)) n
def tabS (n : Nat) (t : T) : SD := .lst (mk (fun i => .lst (rowS n (t i))) n)
def shpS (n : Nat) : Option T → SD
  | none => .non
  | some t => tabS n t
theorem rowS_len (n : Nat) (r : Nat → Option Int) : (rowS n r).length = n := mk_len _ _
theorem atI_mk {α : Type} {n i : Nat} (F : Nat → α) (h : i < n) : atI (mk F n) (i : Int) = some (F i) := atI_nat (mk_get h)
theorem atI_row {n i : Nat} (r : Nat → Option Int) (h : i < n) : atI (rowS n r) (i : Int) = some (encO (r i)) := atI_mk _ h
theorem atI_tab {n i : Nat} (t : T) (h : i < n) : atI (mk (fun i => SD.lst (rowS n (t i))) n) (i : Int) = some (.lst (rowS n (t i))) := atI_mk _ h
/-- a loop by what holds at each turn -/
theorem loop_from {g : WG} {body : WS} {q : QE} (I : Nat → Env → Prop) : ∀ (items : List SD) (i : Nat) (env : Env),
    (∀ env, I (i + items.length) env → q.nx env) →
    (∀ (k : Nat) (d : SD) (env : Env), items[k]? = some d → I (i + k) env → ∀ nxt : Env → Prop, (∀ e, I (i + k + 1) e → nxt e) → g d env fun env' => body { nx := nxt, rt := q.rt, bk := q.nx, ct := nxt } env') →
    I i env → wLoop g body items q env
  | [], i, env, hd, _, h => hd env h
  | d :: ds, i, env, hd, hs, h => by
    have ih : ∀ e, I (i + 1) e → wLoop g body ds q e := fun e he => loop_from I ds (i + 1) e
      (fun env z => hd env (by rw [List.length_cons, show i + (ds.length + 1) = i + 1 + ds.length by omega]; exact z))
      (fun k d env e2 e3 => by
        have := hs (k + 1) d env (by simpa using e2) (by rw [show i + (k + 1) = i + 1 + k by omega]; exact e3)
        rw [show i + (k + 1) = i + 1 + k by omega] at this
        exact this) he
    exact hs 0 d env rfl h _ ih
theorem loop_ind {g : WG} {body : WS} {q : QE} {items : List SD} {env : Env} (I : Nat → Env → Prop) (h0 : I 0 env)
    (hs : ∀ (k : Nat) (d : SD) (env : Env), items[k]? = some d → I k env → ∀ nxt : Env → Prop, (∀ e, I (k + 1) e → nxt e) → g d env fun env' => body { nx := nxt, rt := q.rt, bk := q.nx, ct := nxt } env')
    (hd : ∀ env, I items.length env → q.nx env) : wLoop g body items q env :=
  loop_from I items 0 env (by simpa using hd) (by simpa using hs) h0
theorem rng_at {z : Int} {n k : Nat} {d : SD} (e : z = (n : Int)) (h : (rng 0 z)[k]? = some d) : k < n ∧ d = .int (k : Int) := by
  obtain ⟨h1, h2⟩ := rng_get h
  exact ⟨by omega, by rw [h2, Int.zero_add]⟩
theorem loop_rng {i : Nat} {body : WS} {q : QE} {z : Int} {env : Env} (n : Nat) (ez : z = (n : Int)) (I : Nat → Env → Prop) (h0 : I 0 env)
    (hs : ∀ (k : Nat) (env : Env), k < n → I k env → ∀ nxt : Env → Prop, (∀ e, I (k + 1) e → nxt e) → body { nx := nxt, rt := q.rt, bk := q.nx, ct := nxt } (env.set i (some (on k))))
    (hd : ∀ env, I n env → q.nx env) : wLoop (wgName i) body (rng 0 z) q env :=
  loop_ind I h0 (fun k d env e hI nxt hn => by
    obtain ⟨h1, rfl⟩ := rng_at ez e
    exact hs k env h1 hI nxt hn) (by rw [rng_len, ez]; simpa using hd)
/-- a comprehension by what holds at each turn -/
theorem lc_from {g : WG} {wt : WT} {we : WE} {vs : List Nat} {κ : List OD → Env → Prop} (I : Nat → List OD → Env → Prop) : ∀ (items : List SD) (i : Nat) (acc : List OD) (env : Env),
    (∀ ys env, I (i + items.length) ys env → κ ys env) →
    (∀ (k : Nat) (d : SD) (acc : List OD) (env : Env), items[k]? = some d → I (i + k) acc env → ∀ nxt : List OD → Env → Prop, (∀ ys e, I (i + k + 1) ys e → nxt ys e) →
      g d env fun env2 => wt env2 fun b env3 => if b = true then we env3 fun y env4 => nxt (acc ++ [y]) (wipeE env4 vs) else nxt acc (wipeE env3 vs)) →
    I i acc env → wLcL g wt we vs items acc env κ
  | [], i, acc, env, hd, _, h => hd acc env h
  | d :: ds, i, acc, env, hd, hs, h => by
    have ih : ∀ ys e, I (i + 1) ys e → wLcL g wt we vs ds ys e κ := fun ys e he => lc_from I ds (i + 1) ys e
      (fun ys env z => hd ys env (by rw [List.length_cons, show i + (ds.length + 1) = i + 1 + ds.length by omega]; exact z))
      (fun k d acc env e2 e3 => by
        have := hs (k + 1) d acc env (by simpa using e2) (by rw [show i + (k + 1) = i + 1 + k by omega]; exact e3)
        rw [show i + (k + 1) = i + 1 + k by omega] at this
        exact this) he
    exact hs 0 d acc env rfl h _ ih
theorem lc_ind {g : WG} {wt : WT} {we : WE} {vs : List Nat} {κ : List OD → Env → Prop} {items : List SD} {env : Env} (I : Nat → List OD → Env → Prop) (h0 : I 0 [] env)
    (hs : ∀ (k : Nat) (d : SD) (acc : List OD) (env : Env), items[k]? = some d → I k acc env → ∀ nxt : List OD → Env → Prop, (∀ ys e, I (k + 1) ys e → nxt ys e) →
      g d env fun env2 => wt env2 fun b env3 => if b = true then we env3 fun y env4 => nxt (acc ++ [y]) (wipeE env4 vs) else nxt acc (wipeE env3 vs))
    (hd : ∀ ys env, I items.length ys env → κ ys env) : wLcL g wt we vs items [] env κ :=
  lc_from I items 0 [] env (by simpa using hd) (by simpa using hs) h0
/-! ### copied, wide -/
/-- an owned row; owned rows, their addresses in bs from the last one on -/
def rowO (n : Nat) (r : Nat → Option Int) : List OD := mk (fun j => oO (r j)) n
def rows (F : Nat → List OD) : List Addr → List OD
  | [] => []
  | b :: bs => rows F bs ++ [.lst b (F bs.length)]
def tabO (n : Nat) (a : Addr) (bs : List Addr) (t : T) : OD := .lst a (rows (fun i => rowO n (t i)) bs)
theorem rows_len (F : Nat → List OD) : ∀ bs, (rows F bs).length = bs.length
  | [] => rfl
  | b :: bs => by rw [rows, List.length_append, rows_len F bs]; rfl
theorem rows_get {F : Nat → List OD} : ∀ {bs : List Addr} {i : Nat}, i < bs.length → ∃ b, (rows F bs)[i]? = some (.lst b (F i)) ∧ b ∈ bs
  | b :: bs, i, h => by
    rw [rows]
    by_cases e : i < bs.length
    · obtain ⟨c, h1, h2⟩ := rows_get (F := F) e
      exact ⟨c, by rw [List.getElem?_append_left (by rw [rows_len]; exact e), h1], List.mem_cons_of_mem _ h2⟩
    · have e' : i = bs.length := by rw [List.length_cons] at h; omega
      subst e'
      exact ⟨b, by rw [List.getElem?_append_right (by rw [rows_len]; omega), rows_len, Nat.sub_self]; rfl, List.mem_cons_self⟩
theorem frz_row (n : Nat) (r : Nat → Option Int) : frzs (rowO n r) = rowS n r := by
  rw [frzs_map]
  exact mk_map _ _ _
theorem frz_rows {F : Nat → List OD} : ∀ bs : List Addr, frzs (rows F bs) = mk (fun i => .lst (frzs (F i))) bs.length
  | [] => rfl
  | b :: bs => by
    rw [rows, frzs_map, List.map_append, ← frzs_map, frz_rows bs]
    rfl
theorem frz_tab {n : Nat} {a : Addr} {bs : List Addr} {t : T} (h : bs.length = n) : frz (tabO n a bs t) = tabS n t := by
  unfold tabO tabS
  simp only [frz]
  rw [frz_rows, h]
  congr 1
  exact mk_congr fun i _ => by rw [frz_row]
theorem row_sh (n : Nat) (r : Nat → Option Int) : (rowS n r).map OD.sh = rowO n r := mk_map _ _ _
theorem size_ok {n : Nat} (h : n ≤ 100000) : n ≤ sizeLine := Nat.le_trans h (by decide)
theorem size_lt {n : Nat} (h : n ≤ 100000) : n < sizeLine := Nat.lt_of_le_of_lt h (by decide)
theorem mul2 {j : Int} : MulOk 2 j := .inl (.inl ⟨by decide, by decide⟩)
theorem div2 {i : Int} : CDivW i 2 := ⟨by decide, by decide⟩
theorem ixN_nat {n j : Nat} (h : j < n) : ixN n (j : Int) = some j := by
  unfold ixN
  rw [if_pos (by omega), if_pos (by omega), Int.toNat_natCast]
def φ_copied : Spec := fun ds k => ∃ n t, n ≤ 100000 ∧ ds = [.sh (tabS n t)] ∧ ∀ a bs, bs.length = n → k (tabO n a bs t) ds
/-- copied -/
def w_copied : WS := (wRet (wLc (wiL (wFrz 0)) (wgName 1) wYes (wCB wList (wCons (wFrz 1) wNil)) [1]))
abbrev ms_copied : List Bool := [false]
abbrev n_copied : Nat := 2
theorem h_copied : ∀ ds κ, φ_copied ds κ → lentOk ms_copied ds ∧ w_copied (endsOf ms_copied ds κ) (startE n_copied ds) := by
  rintro ds κ ⟨n, t, hn, rfl, hk⟩
  refine ⟨⟨rfl, rfl⟩, ?_⟩
  refine ⟨by rw [mk_len]; exact size_ok hn, lc_ind (fun k acc env => ∃ bs : List Addr, bs.length = k ∧ acc = rows (fun i => (rowS n (t i)).map OD.sh) bs ∧ env = [some (.sh (tabS n t)), none]) ⟨[], rfl, rfl, rfl⟩ (fun k d acc env e hI nxt hn => ?_) (fun ys env hI p => ?_)⟩
  · obtain ⟨bs, rfl, rfl, rfl⟩ := hI
    obtain ⟨hk', rfl⟩ := mk_at e
    exact fun p => hn _ _ ⟨p :: bs, rfl, rfl, rfl⟩
  · obtain ⟨bs, hb, rfl, rfl⟩ := hI
    rw [mk_len] at hb
    simp only [row_sh]
    exact hk p bs hb
def φ_wide : Spec := fun ds k => ∃ c : Nat, c ≤ 1000 ∧ ds = [on c] ∧ ∀ a bs, bs.length = 2 * c → k (tabO (2 * c) a bs wideM) ds
/-- wide -/
def w_wide : WS := (wSeq (wSet 1 (wLst wNil))
  (wSeq (wFor (wiR1 (wCons (wOp (wII fMul) (wC (.int 2)) (wFrz 0)) wNil)) (wgName 2)
  (wSeq (wSet 3 (wLc (wiR1 (wCons (wOp (wII fMul) (wC (.int 2)) (wFrz 0)) wNil)) (wgName 4) wYes (wC .non) [4]))
  (wSeq (wSetI (wbV 3) (wCall φ_flipped [false] [] [none] (wCons (wFrz 2) wNil)) (wC (.int 0)))
  (wDrop (wApp (wbV 1) (wMove 3))))))
  (wRet (wMove 1))))
abbrev ms_wide : List Bool := [false]
abbrev n_wide : Nat := 5
theorem wide_row {c k : Nat} (hk : k < 2 * c) : (mk (fun _ => oO none) (2 * c)).set (fl k) (oi 0) = rowO (2 * c) (wideM k) := by
  have hf : fl k < 2 * c := fl_lt hk
  apply List.ext_getElem?
  intro j
  unfold rowO
  rw [List.getElem?_set]
  by_cases q : fl k = j
  · subst q
    rw [if_pos rfl, if_pos (by rw [mk_len]; exact hf), mk_get hf]
    simp [wideM, encO]
  · rw [if_neg q]
    by_cases hj : j < 2 * c
    · rw [mk_get hj, mk_get hj]
      simp [wideM, Ne.symm q, encO]
    · rw [mk_none hj, mk_none hj]
theorem h_wide : ∀ ds κ, φ_wide ds κ → lentOk ms_wide ds ∧ w_wide (endsOf ms_wide ds κ) (startE n_wide ds) := by
  rintro ds κ ⟨c, hc, rfl, hk⟩
  refine ⟨⟨rfl, rfl⟩, ?_⟩
  have e2 : (2 : Int) * (c : Int) = ((2 * c : Nat) : Int) := by omega
  refine ⟨Nat.zero_le _, fun p => ?_⟩
  refine ⟨mul2, ⟨by omega, by omega⟩, ?_⟩
  refine loop_rng (2 * c) e2 (fun k env => ∃ bs x2 x3 x4, bs.length = k ∧ env = [some (on c), some (.lst p (rows (fun i => (mk (fun _ => oO none) (2 * c)).set (fl i) (oi 0)) bs)), x2, x3, x4]) ⟨[], none, none, none, rfl, rfl⟩ (fun k env hk' hI nxt hn => ?_) (fun env hI => ?_)
  · obtain ⟨bs, x2, x3, x4, rfl, rfl⟩ := hI
    refine ⟨mul2, ⟨by omega, by omega⟩, ?_⟩
    refine ⟨by rw [rng_len, e2]; exact size_ok (by omega), ?_⟩
    refine lc_ind (fun j acc env => acc = mk (fun _ => oO none) j ∧ env = [some (on c), some (.lst p (rows (fun i => (mk (fun _ => oO none) (2 * c)).set (fl i) (oi 0)) bs)), some (on bs.length), x3, none]) ⟨rfl, rfl⟩ (fun j d acc env e hI nxt2 hn2 => ?_) (fun ys env hI a => ?_)
    · obtain ⟨rfl, rfl⟩ := hI
      exact hn2 _ _ ⟨rfl, rfl⟩
    · obtain ⟨rfl, rfl⟩ := hI
      rw [rng_len, e2, show (((2 * c : Nat) : Int) - 0).toNat = 2 * c by omega]
      have hf : fl bs.length < 2 * c := fl_lt hk'
      refine ⟨_, rfl, rfl, _, rfl, bs.length, rfl, _, rfl, rfl, _, ixN_nat (by rw [mk_len]; exact hf), ?_⟩
      refine ⟨_, rfl, rfl, _, rfl, _, rfl, rfl, by rw [rows_len]; exact size_lt (by omega), ?_⟩
      exact hn _ ⟨a :: bs, _, _, _, rfl, rfl⟩
  · obtain ⟨bs, x2, x3, x4, hb, rfl⟩ := hI
    have := hk p bs hb
    have er : ∀ bs : List Addr, bs.length ≤ 2 * c → rows (fun i => rowO (2 * c) (wideM i)) bs = rows (fun i => (mk (fun _ => oO none) (2 * c)).set (fl i) (oi 0)) bs := by
      intro bs
      induction bs with
      | nil => intro _; rfl
      | cons b bs ih =>
        intro h
        rw [List.length_cons] at h
        rw [rows, rows, ih (by omega), wide_row (by omega)]
    unfold tabO at this
    rw [er bs (by omega)] at this
    exact this
end E8
namespace E8
open PySem PySem.Spec PyProof.Rows L2 E8M
/-! ### led, relinked -/
def φ_led : Spec := fun ds k => ∃ n t f g c, n ≤ 1000 ∧ fl f < n ∧ fl g < n ∧ ds = [.sh (tabS n t), on f, on g, oi c] ∧ ∀ a, k (.lst a (rowO n (ledM t f g c))) ds
/-- led -/
def w_led : WS := (wSeq (wSet 4 (wCall φ_flipped [false] [] [none] (wCons (wFrz 1) wNil)))
  (wSeq (wSet 5 (wLst wNil))
  (wSeq (wFor (wiL (wFrz 0)) (wgName 6)
  (wSeq (wSet 7 (wCall φ_added [false, false] [] [none, none] (wCons (wIxV 6 (wFrz 4)) (wCons (wFrz 3) wNil))))
  (wSeq (wSet 8 (wCall φ_added [false, false] [] [none, none] (wCons (wCall φ_added [false, false] [] [none, none] (wCons (wIxV 6 (wCall φ_flipped [false] [] [none] (wCons (wFrz 2) wNil))) (wCons (wOp (wII fMul) (wC (.int 2)) (wFrz 3)) wNil))) (wCons (wOp wIx (wIxV 0 (wFrz 4)) (wFrz 4)) wNil))))
  (wDrop (wApp (wbV 5) (wCall φ_lesser [false, false] [] [none, none] (wCons (wFrz 7) (wCons (wFrz 8) wNil))))))))
  (wRet (wMove 5)))))
abbrev ms_led : List Bool := [false, false, false, false]
abbrev n_led : Nat := 9
theorem h_led : ∀ ds κ, φ_led ds κ → lentOk ms_led ds ∧ w_led (endsOf ms_led ds κ) (startE n_led ds) := by
  rintro ds κ ⟨n, t, f, g, c, hn, hf, hg, rfl, hk⟩
  refine ⟨⟨rfl, rfl, rfl, rfl, rfl⟩, ?_⟩
  show w_led _ [some (.sh (tabS n t)), some (on f), some (on g), some (oi c), none, none, none, none, none]
  refine ⟨f, rfl, ?_⟩
  refine ⟨Nat.zero_le _, fun p => ?_⟩
  simp only [List.set_cons_zero, List.set_cons_succ]
  refine loop_ind (fun k env => ∃ x6 x7 x8, env = [some (.sh (tabS n t)), some (on f), some (on g), some (oi c), some (on (fl f)), some (.lst p (rowO k (ledM t f g c))), x6, x7, x8]) ⟨none, none, none, rfl⟩ (fun k d env e hI nxt hn' => ?_) (fun env hI => ?_)
  · obtain ⟨x6, x7, x8, rfl⟩ := hI
    obtain ⟨hk', rfl⟩ := mk_at e
    refine ⟨_, atI_row _ hf, t k (fl f), some c, rfl, ?_⟩
    simp only [List.set_cons_zero, List.set_cons_succ]
    refine ⟨g, rfl, _, atI_row _ hg, mul2, t k (fl g), some (2 * c), rfl, ?_⟩
    refine ⟨_, atI_tab _ hf, _, atI_row _ hf, added (t k (fl g)) (some (2 * c)), t (fl f) (fl f), rfl, ?_⟩
    simp only [List.set_cons_zero, List.set_cons_succ]
    refine ⟨_, rfl, rfl, _, rfl, added (t k (fl f)) (some c), added (added (t k (fl g)) (some (2 * c))) (t (fl f) (fl f)), rfl, ?_⟩
    refine ⟨_, rfl, rfl, by rw [rowO, mk_len]; exact size_lt (by omega), ?_⟩
    exact hn' _ ⟨_, _, _, rfl⟩
  · obtain ⟨x6, x7, x8, rfl⟩ := hI
    rw [mk_len]
    exact hk p
def φ_relinked : Spec := fun ds k => ∃ n t f g c, n ≤ 1000 ∧ fl f < n ∧ fl g < n ∧ ds = [.sh (tabS n t), .sh (.tup [.int (f : Nat), .int (g : Nat), .int c])] ∧ ∀ a bs, bs.length = n → k (tabO n a bs (relM t f g c)) ds
/-- relinked -/
def w_relinked : WS := (wSeq (wSet 2 (wIxV 1 (wC (.int 0))))
  (wSeq (wSet 3 (wIxV 1 (wC (.int 1))))
  (wSeq (wSet 4 (wCall φ_led [false, false, false, false] [] [none, none, none, none] (wCons (wFrz 0) (wCons (wFrz 2) (wCons (wFrz 3) (wCons (wIxV 1 (wC (.int 2))) wNil))))))
  (wSeq (wSet 5 (wCall φ_led [false, false, false, false] [] [none, none, none, none] (wCons (wFrz 0) (wCons (wFrz 3) (wCons (wFrz 2) (wCons (wIxV 1 (wC (.int 2))) wNil))))))
  (wSeq (wSet 6 (wIxV 0 (wCall φ_flipped [false] [] [none] (wCons (wFrz 3) wNil))))
  (wSeq (wSet 7 (wIxV 0 (wCall φ_flipped [false] [] [none] (wCons (wFrz 2) wNil))))
  (wSeq (wSet 8 (wLst wNil))
  (wSeq (wFor (wiR1 (wCons (wLenV 0) wNil)) (wgName 9)
  (wSeq (wSet 10 (wLst wNil))
  (wSeq (wFor (wiR1 (wCons (wLenV 0) wNil)) (wgName 11)
  (wSeq (wSet 12 (wCall φ_lesser [false, false] [] [none, none] (wCons (wCall φ_added [false, false] [] [none, none] (wCons (wIxV 4 (wFrz 9)) (wCons (wIxV 6 (wFrz 11)) wNil))) (wCons (wCall φ_added [false, false] [] [none, none] (wCons (wIxV 5 (wFrz 9)) (wCons (wIxV 7 (wFrz 11)) wNil))) wNil))))
  (wDrop (wApp (wbV 10) (wCall φ_lesser [false, false] [] [none, none] (wCons (wOp wIx (wIxV 0 (wFrz 9)) (wFrz 11)) (wCons (wFrz 12) wNil)))))))
  (wDrop (wApp (wbV 8) (wMove 10))))))
  (wRet (wMove 8))))))))))
abbrev ms_relinked : List Bool := [false, false]
abbrev n_relinked : Nat := 13
theorem h_relinked : ∀ ds κ, φ_relinked ds κ → lentOk ms_relinked ds ∧ w_relinked (endsOf ms_relinked ds κ) (startE n_relinked ds) := by
  rintro ds κ ⟨n, t, f, g, c, hn, hf, hg, rfl, hk⟩
  refine ⟨⟨rfl, rfl, rfl⟩, ?_⟩
  show w_relinked _ [some (.sh (tabS n t)), some (.sh (.tup [.int (f : Nat), .int (g : Nat), .int c])), none, none, none, none, none, none, none, none, none, none, none]
  refine ⟨_, rfl, _, rfl, _, rfl, n, t, f, g, c, hn, hf, hg, rfl, fun q1 => ?_⟩
  simp only [List.set_cons_zero, List.set_cons_succ]
  refine ⟨_, rfl, n, t, g, f, c, hn, hg, hf, rfl, fun q2 => ?_⟩
  simp only [List.set_cons_zero, List.set_cons_succ]
  refine ⟨g, rfl, _, atI_tab _ hg, f, rfl, _, atI_tab _ hf, ?_⟩
  refine ⟨Nat.zero_le _, fun p => ?_⟩
  simp only [List.set_cons_zero, List.set_cons_succ]
  have en : ((mk (fun i => SD.lst (rowS n (t i))) n).length : Int) = ((n : Nat) : Int) := by rw [mk_len]
  refine ⟨by rw [en]; constructor <;> omega, ?_⟩
  refine loop_rng n en (fun k env => ∃ bs x9 x10 x11 x12, bs.length = k ∧ env = [some (.sh (tabS n t)), some (.sh (.tup [.int (f : Nat), .int (g : Nat), .int c])), some (on f), some (on g), some (.lst q1 (rowO n (ledM t f g c))), some (.lst q2 (rowO n (ledM t g f c))), some (.sh (.lst (rowS n (t (fl g))))), some (.sh (.lst (rowS n (t (fl f))))), some (.lst p (rows (fun i => rowO n (relM t f g c i)) bs)), x9, x10, x11, x12]) ⟨[], none, none, none, none, rfl, rfl⟩ (fun k env hk' hI nxt hn' => ?_) (fun env hI => ?_)
  · obtain ⟨bs, x9, x10, x11, x12, rfl, rfl⟩ := hI
    simp only [List.set_cons_zero, List.set_cons_succ]
    refine ⟨Nat.zero_le _, fun r => ?_⟩
    simp only [List.set_cons_zero, List.set_cons_succ]
    refine ⟨by rw [en]; constructor <;> omega, ?_⟩
    refine loop_rng n en (fun j env => ∃ x11 x12, env = [some (.sh (tabS n t)), some (.sh (.tup [.int (f : Nat), .int (g : Nat), .int c])), some (on f), some (on g), some (.lst q1 (rowO n (ledM t f g c))), some (.lst q2 (rowO n (ledM t g f c))), some (.sh (.lst (rowS n (t (fl g))))), some (.sh (.lst (rowS n (t (fl f))))), some (.lst p (rows (fun i => rowO n (relM t f g c i)) bs)), some (on bs.length), some (.lst r (rowO j (relM t f g c bs.length))), x11, x12]) ⟨_, _, rfl⟩ (fun j env hj hI nxt2 hn2 => ?_) (fun env hI => ?_)
    · obtain ⟨x11, x12, rfl⟩ := hI
      simp only [List.set_cons_zero, List.set_cons_succ]
      refine ⟨_, atI_mk _ hk', _, atI_row _ hj, ledM t f g c bs.length, t (fl g) j, rfl, ?_⟩
      refine ⟨_, atI_mk _ hk', _, atI_row _ hj, ledM t g f c bs.length, t (fl f) j, rfl, ?_⟩
      refine ⟨added (ledM t f g c bs.length) (t (fl g) j), added (ledM t g f c bs.length) (t (fl f) j), rfl, ?_⟩
      refine ⟨_, rfl, rfl, _, rfl, _, atI_tab _ hk', _, atI_row _ hj, t bs.length j, lesser (added (ledM t f g c bs.length) (t (fl g) j)) (added (ledM t g f c bs.length) (t (fl f) j)), rfl, ?_⟩
      refine ⟨_, rfl, rfl, by rw [rowO, mk_len]; exact size_lt (by omega), ?_⟩
      exact hn2 _ ⟨_, _, rfl⟩
    · obtain ⟨x11, x12, rfl⟩ := hI
      refine ⟨_, rfl, rfl, _, rfl, _, rfl, rfl, by rw [rows_len]; exact size_lt (by omega), ?_⟩
      exact hn' _ ⟨r :: bs, _, _, _, _, rfl, rfl⟩
  · obtain ⟨bs, x9, x10, x11, x12, hb, rfl⟩ := hI
    exact hk p bs hb
end E8
namespace E8
open PySem PySem.Spec PyProof.Rows L2 E8M
/-- a test that gives b -/
theorem if_t {wt : WT} {s t : WS} {q : QE} {env env' : Env} (h : ∀ Q : Bool → Env → Prop, Q true env' → wt env Q) (k : s q env') : wIf wt s t q env := h _ k
theorem if_f {wt : WT} {s t : WS} {q : QE} {env env' : Env} (h : ∀ Q : Bool → Env → Prop, Q false env' → wt env Q) (k : t q env') : wIf wt s t q env := h _ k
theorem if_eq {wt : WT} {s t : WS} {q : QE} {env : Env} (b : Bool) (env' : Env) (h : ∀ Q : Bool → Env → Prop, Q b env' → wt env Q) (k1 : b = true → s q env') (k2 : b = false → t q env') : wIf wt s t q env := h _ (by
  cases b with
  | true => exact k1 rfl
  | false => exact k2 rfl)
/-! ### places in an owned table -/
def setT (t : T) (i j : Nat) (v : Option Int) : T := fun x y => if x = i ∧ y = j then v else t x y
theorem mk_set {α : Type} {F G : Nat → α} {n j : Nat} (h : ∀ i, i < n → i ≠ j → G i = F i) : (mk F n).set j (G j) = mk G n := by
  apply List.ext_getElem?
  intro i
  rw [List.getElem?_set]
  by_cases q : j = i
  · subst q
    rw [if_pos rfl]
    by_cases hj : j < n
    · rw [if_pos (by rw [mk_len]; exact hj), mk_get hj]
    · rw [if_neg (by rw [mk_len]; exact hj), mk_none hj]
  · rw [if_neg q]
    by_cases hi : i < n
    · rw [mk_get hi, mk_get hi, h i hi (Ne.symm q)]
    · rw [mk_none hi, mk_none hi]
theorem rows_at {F : Nat → List OD} : ∀ (bs : List Addr) {i : Nat} {b : Addr}, (rows F bs)[i]? = some (.lst b (F i)) → ∀ G : Nat → List OD, (rows G bs)[i]? = some (.lst b (G i))
  | [], i, b, h, G => by simp [rows] at h
  | c :: bs, i, b, h, G => by
    rw [rows] at h ⊢
    by_cases e : i < bs.length
    · rw [List.getElem?_append_left (by rw [rows_len]; exact e)] at h ⊢
      exact rows_at bs h G
    · rw [List.getElem?_append_right (by rw [rows_len]; omega), rows_len] at h ⊢
      cases q : i - bs.length with
      | zero =>
        have : i = bs.length := by omega
        subst this
        rw [q] at h
        simp only [List.getElem?_cons_zero] at h
        cases h
        rfl
      | succ m => rw [q] at h; simp at h
theorem rows_set {F G : Nat → List OD} {bs : List Addr} {k : Nat} {b : Addr} (hk : k < bs.length) (hb : (rows F bs)[k]? = some (.lst b (F k))) (h : ∀ i, i < bs.length → i ≠ k → G i = F i) : (rows F bs).set k (.lst b (G k)) = rows G bs := by
  apply List.ext_getElem?
  intro i
  rw [List.getElem?_set]
  by_cases q : k = i
  · subst q
    rw [if_pos rfl, if_pos (by rw [rows_len]; exact hk), rows_at bs hb G]
  · rw [if_neg q]
    by_cases hi : i < bs.length
    · obtain ⟨c, h1, _⟩ := rows_get (F := F) hi
      rw [h1, rows_at bs h1 G, h i hi (Ne.symm q)]
    · rw [List.getElem?_eq_none (by rw [rows_len]; omega), List.getElem?_eq_none (by rw [rows_len]; omega)]
theorem tab_congr {n : Nat} {a : Addr} {bs : List Addr} {t s : T} (hb : bs.length = n) (h : ∀ i j, i < n → j < n → t i j = s i j) : tabO n a bs t = tabO n a bs s := by
  unfold tabO
  congr 1
  have : ∀ cs : List Addr, cs.length ≤ n → rows (fun i => rowO n (t i)) cs = rows (fun i => rowO n (s i)) cs := by
    intro cs
    induction cs with
    | nil => intro _; rfl
    | cons c cs ih =>
      intro hl
      rw [List.length_cons] at hl
      rw [rows, rows, ih (by omega)]
      congr 3
      exact mk_congr fun j hj => by rw [h _ _ (by omega) hj]
  exact this bs (by omega)
theorem look_row {env : Env} {s n i : Nat} {a b : Addr} {bs : List Addr} {t : T} (e : env[s]? = some (some (tabO n a bs t))) (h : (rows (fun i => rowO n (t i)) bs)[i]? = some (.lst b (rowO n (t i)))) : look env ⟨s, [] ++ [i]⟩ = some (.lst b (rowO n (t i))) := by
  unfold look
  simp only [e]
  show lookO (tabO n a bs t) [i] = _
  simp only [lookO, tabO, kids, h]
theorem look_tab {env : Env} {s n : Nat} {a : Addr} {bs : List Addr} {t : T} (e : env[s]? = some (some (tabO n a bs t))) : look env ⟨s, []⟩ = some (tabO n a bs t) := by
  unfold look
  simp only [e]
  rfl
/-- the place of row i -/
theorem bix_tab {env : Env} {s n i : Nat} {a : Addr} {bs : List Addr} {t : T} {wi : WE} {Q : Loc → Env → Prop} (e : env[s]? = some (some (tabO n a bs t))) (hb : bs.length = n) (hi : i < n) (h1 : ∀ R, R (on i) env → wi env R)
    (h : ∀ b, (rows (fun i => rowO n (t i)) bs)[i]? = some (.lst b (rowO n (t i))) → Q ⟨s, [] ++ [i]⟩ env) : wbIx (wbV s) wi env Q := by
  obtain ⟨b, g1, _⟩ := rows_get (F := fun i => rowO n (t i)) (bs := bs) (i := i) (by omega)
  refine ⟨_, look_tab e, rfl, _, look_tab e, h1 _ ⟨_, look_tab e, rfl, _, ixN_nat (by rw [rows_len]; omega), _, look_row e g1, rfl, h b g1⟩⟩
theorem rd_tab {env : Env} {s n i j : Nat} {a : Addr} {bs : List Addr} {t : T} {wi wj : WE} {Q : OD → Env → Prop} (e : env[s]? = some (some (tabO n a bs t))) (hb : bs.length = n) (hi : i < n) (hj : j < n) (h1 : ∀ R, R (on i) env → wi env R) (h2 : ∀ R, R (on j) env → wj env R)
    (h : Q (oO (t i j)) env) : wRd (wbIx (wbV s) wi) wj env Q := by
  refine bix_tab e hb hi h1 fun b g => ?_
  refine ⟨_, look_row e g, h2 _ ⟨_, look_row e g, rfl, _, atI_mk _ hj, h⟩⟩
theorem st_tab {env : Env} {s n i j : Nat} {a : Addr} {bs : List Addr} {t : T} {v : Option Int} {wi wj wa : WE} {q : QE} (e : env[s]? = some (some (tabO n a bs t))) (hb : bs.length = n) (hi : i < n) (hj : j < n) (h0 : ∀ R, R (oO v) env → wa env R) (h1 : ∀ R, R (on i) env → wi env R) (h2 : ∀ R, R (on j) env → wj env R)
    (h : q.nx (env.set s (some (tabO n a bs (setT t i j v))))) : wSetI (wbIx (wbV s) wi) wj wa q env := by
  refine h0 _ (bix_tab e hb hi h1 fun b g => ?_)
  refine ⟨_, look_row e g, h2 _ ⟨_, look_row e g, rfl, _, ixN_nat (by rw [rowO, mk_len]; exact hj), ?_⟩⟩
  have eu : upL env ⟨s, [] ++ [i]⟩ (.lst b ((rowO n (t i)).set j (oO v))) = env.set s (some (tabO n a bs (setT t i j v))) := by
    unfold upL
    simp only [e]
    congr 2
    show upO (tabO n a bs t) [i] _ = _
    simp only [upO, tabO, kids, g]
    show OD.lst a ((rows (fun i => rowO n (t i)) bs).set i (.lst b ((rowO n (t i)).set j (oO v)))) = _
    have er : (rowO n (t i)).set j (oO v) = rowO n (setT t i j v i) := by
      unfold rowO
      have := mk_set (F := fun j => oO (t i j)) (G := fun x => oO (setT t i j v i x)) (n := n) (j := j) (fun x _ hx => by unfold setT; rw [if_neg fun q => hx q.2])
      rw [← this]
      unfold setT
      rw [if_pos ⟨rfl, rfl⟩]
    rw [er]
    congr 1
    exact rows_set (G := fun x => rowO n (setT t i j v x)) (by omega) g fun x _ hx => by
      unfold rowO
      exact mk_congr fun y _ => by unfold setT; rw [if_neg fun q => hx q.1]
  show q.nx (upL env ⟨s, [] ++ [i]⟩ (.lst b ((rowO n (t i)).set j (oO v))))
  rw [eu]
  exact h
/-! ### halve -/
def φ_halve : Spec := fun ds k => ∃ n a bs t, n ≤ 1000 ∧ bs.length = n ∧ ds = [tabO n a bs t] ∧ k (.sh .non) [tabO n a bs (halfM t)]
/-- halve -/
def w_halve : WS := (wFor (wiR1 (wCons (wLenV 0) wNil)) (wgName 1)
  (wIf (wB (wOp wNotN (wRd (wbIx (wbV 0) (wFrz 1)) (wFrz 1)) (wC .non))) (wSetI (wbIx (wbV 0) (wFrz 1)) (wFrz 1) (wOp (wII fMul) (wOp (wII fDiv) (wRd (wbIx (wbV 0) (wFrz 1)) (wFrz 1)) (wC (.int 2))) (wC (.int 2)))) wNext))
abbrev ms_halve : List Bool := [true]
abbrev n_halve : Nat := 2
def halfT (t : T) (k : Nat) : T := fun i j => if i < k then halfM t i j else t i j
theorem h_halve : ∀ ds κ, φ_halve ds κ → lentOk ms_halve ds ∧ w_halve (endsOf ms_halve ds κ) (startE n_halve ds) := by
  rintro ds κ ⟨n, a, bs, t, hn, hb, rfl, hk⟩
  refine ⟨rfl, ?_⟩
  show w_halve _ [some (tabO n a bs t), none]
  have en : ((rows (fun i => rowO n (t i)) bs).length : Int) = ((n : Nat) : Int) := by rw [rows_len, hb]
  refine ⟨by rw [en]; constructor <;> omega, ?_⟩
  refine loop_rng n en (fun k env => ∃ x1, env = [some (tabO n a bs (halfT t k)), x1]) ⟨none, by
    rw [tab_congr (t := t) (s := halfT t 0) hb fun i j _ _ => by unfold halfT; rw [if_neg (by omega)]]⟩ (fun k env hk' hI nxt hn' => ?_) (fun env hI => ?_)
  · obtain ⟨x1, rfl⟩ := hI
    simp only [List.set_cons_zero, List.set_cons_succ]
    have ek : halfT t k k k = t k k := by unfold halfT; rw [if_neg (by omega)]
    have ne : ∀ i j, i < n → j < n → (if i = k ∧ j = k then (t k k).map (fun a => a / 2 * 2) else halfT t k i j) = halfT t (k + 1) i j := fun i j hi hj => by
      unfold halfT halfM
      by_cases c : i = k
      · subst c
        by_cases cj : j = i
        · subst cj
          simp
        · simp [cj, Ne.symm cj]
      · by_cases c2 : i < k
        · simp [c, c2, show i < k + 1 by omega]
        · simp [c, c2, show ¬ i < k + 1 by omega]
    cases e : t k k with
    | none =>
      refine if_f (env' := [some (tabO n a bs (halfT t k)), some (on k)]) (fun Q h => ?_) ?_
      · unfold wB wOp
        refine rd_tab (a := a) (t := halfT t k) ?_ hb hk' hk' ?_ ?_ ?_
        · rfl
        · exact fun R h => h
        · exact fun R h => h
        rw [ek, e]
        exact h
      refine hn' _ ⟨some (on k), ?_⟩
      rw [tab_congr hb fun i j hi hj => (ne i j hi hj).symm]
      rw [tab_congr (t := halfT t k) hb fun i j hi hj => ?_]
      by_cases c : i = k ∧ j = k
      · rw [if_pos c, c.1, c.2, ek, e]; rfl
      · rw [if_neg c]
    | some z =>
      refine if_t (env' := [some (tabO n a bs (halfT t k)), some (on k)]) (fun Q h => ?_) ?_
      · unfold wB wOp
        refine rd_tab (a := a) (t := halfT t k) ?_ hb hk' hk' ?_ ?_ ?_
        · rfl
        · exact fun R h => h
        · exact fun R h => h
        rw [ek, e]
        exact h
      refine st_tab (a := a) (t := halfT t k) (v := some (z / 2 * 2)) ?_ hb hk' hk' ?_ ?_ ?_ ?_
      · rfl
      · intro R h
        unfold wOp
        refine rd_tab (a := a) (t := halfT t k) ?_ hb hk' hk' ?_ ?_ ?_
        · rfl
        · exact fun R h => h
        · exact fun R h => h
        rw [ek, e]
        refine ⟨div2, ?_⟩
        exact ⟨.inl (.inr ⟨by decide, by decide⟩), h⟩
      · exact fun R h => h
      · exact fun R h => h
      · refine hn' _ ⟨some (on k), ?_⟩
        rw [tab_congr hb fun i j hi hj => (ne i j hi hj).symm, e]
        rfl
  · obtain ⟨x1, rfl⟩ := hI
    have := tab_congr (a := a) (t := halfT t n) (s := halfM t) hb fun i j hi _ => by unfold halfT; rw [if_pos hi]
    rw [this]
    exact ⟨⟨rfl, rfl⟩, hk⟩
/-! ### has_none -/
def φ_has_none : Spec := fun ds k => ∃ n a bs t, n ≤ 1000 ∧ (∀ i, i < n → fl i < n) ∧ bs.length = n ∧ ds = [tabO n a bs t] ∧ k (.sh (.bl (noneB n t))) ds
/-- has_none -/
def w_has_none : WS := (wSeq (wFor (wiR1 (wCons (wLenV 0) wNil)) (wgName 1)
  (wSeq (wSet 2 (wRd (wbIx (wbV 0) (wFrz 1)) (wFrz 1)))
  (wSeq (wSet 3 (wRd (wbIx (wbV 0) (wCall φ_flipped [false] [] [none] (wCons (wFrz 1) wNil))) (wCall φ_flipped [false] [] [none] (wCons (wFrz 1) wNil))))
  (wIf (wAndT (wB (wOp wNotN (wFrz 2) (wC .non))) (wAndT (wB (wOp wNotN (wFrz 3) (wC .non))) (wB (wOp (wII fLt) (wOp wAdd (wFrz 2) (wFrz 3)) (wC (.int 0)))))) (wRet (wC (.bl true))) wNext))))
  (wRet (wC (.bl false))))
abbrev ms_has_none : List Bool := [true]
abbrev n_has_none : Nat := 4
def nb1 (t : T) (f : Nat) : Bool := match t f f, t (fl f) (fl f) with
  | some a, some b => decide (a + b < 0)
  | _, _ => false
theorem noneB_eq (n : Nat) (t : T) : noneB n t = (List.range n).any (nb1 t) := rfl
theorem noneB_hit {n f : Nat} {t : T} (h : f < n) (e : nb1 t f = true) : noneB n t = true := by
  rw [noneB_eq, List.any_eq_true]; exact ⟨f, List.mem_range.mpr h, e⟩
theorem noneB_miss {n : Nat} {t : T} (h : ∀ f, f < n → nb1 t f = false) : noneB n t = false := by
  rw [noneB_eq, List.any_eq_false]
  intro f hf
  rw [h f (List.mem_range.mp hf)]
  decide
theorem h_has_none : ∀ ds κ, φ_has_none ds κ → lentOk ms_has_none ds ∧ w_has_none (endsOf ms_has_none ds κ) (startE n_has_none ds) := by
  rintro ds κ ⟨n, a, bs, t, hn, hfl, hb, rfl, hk⟩
  refine ⟨rfl, ?_⟩
  show w_has_none _ [some (tabO n a bs t), none, none, none]
  have en : ((rows (fun i => rowO n (t i)) bs).length : Int) = ((n : Nat) : Int) := by rw [rows_len, hb]
  refine ⟨by rw [en]; constructor <;> omega, ?_⟩
  refine loop_rng n en (fun k env => (∀ f, f < k → nb1 t f = false) ∧ ∃ x1 x2 x3, env = [some (tabO n a bs t), x1, x2, x3]) ⟨fun f h => by omega, none, none, none, rfl⟩ (fun k env hk' hI nxt hn' => ?_) (fun env hI => ?_)
  · obtain ⟨hno, x1, x2, x3, rfl⟩ := hI
    simp only [List.set_cons_zero, List.set_cons_succ]
    unfold wSeq wSet
    refine rd_tab (a := a) (t := t) ?_ hb hk' hk' ?_ ?_ ?_
    · rfl
    · exact fun R h => h
    · exact fun R h => h
    simp only [List.set_cons_zero, List.set_cons_succ]
    refine rd_tab (a := a) (t := t) (i := fl k) (j := fl k) ?_ hb (hfl k hk') (hfl k hk') ?_ ?_ ?_
    · rfl
    · exact fun R h => ⟨k, rfl, h⟩
    · exact fun R h => ⟨k, rfl, h⟩
    simp only [List.set_cons_zero, List.set_cons_succ]
    have go : nb1 t k = true → κ (.sh (.bl true)) [tabO n a bs t] := fun e => by
      rw [noneB_hit hk' e] at hk
      exact hk
    have no : nb1 t k = false → nxt [some (tabO n a bs t), some (on k), some (oO (t k k)), some (oO (t (fl k) (fl k)))] := fun e => hn' _ ⟨fun f hf => by
      by_cases c : f = k
      · rw [c]; exact e
      · exact hno f (by omega), _, _, _, rfl⟩
    have en : nb1 t k = (match t k k, t (fl k) (fl k) with
      | some a, some b => decide (a + b < 0)
      | _, _ => false) := rfl
    generalize t k k = x at *
    generalize t (fl k) (fl k) = y at *
    cases x with
    | none => exact no (by rw [en])
    | some x => cases y with
      | none => exact no (by rw [en])
      | some y =>
        by_cases c : x + y < 0
        · refine if_t (env' := [some (tabO n a bs t), some (on k), some (oO (some x)), some (oO (some y))]) (fun Q h => ?_) ?_
          · show Q (decide (x + y < 0)) _
            rw [decide_eq_true c]
            exact h
          · exact ⟨⟨rfl, rfl⟩, go (by rw [en]; exact decide_eq_true c)⟩
        · refine if_f (env' := [some (tabO n a bs t), some (on k), some (oO (some x)), some (oO (some y))]) (fun Q h => ?_) ?_
          · show Q (decide (x + y < 0)) _
            rw [decide_eq_false c]
            exact h
          · exact no (by rw [en]; exact decide_eq_false c)
  · obtain ⟨hno, x1, x2, x3, rfl⟩ := hI
    rw [noneB_miss hno] at hk
    exact ⟨⟨rfl, rfl⟩, hk⟩
/-! ### strengthen -/
def φ_strengthen : Spec := fun ds k => ∃ n a bs t, n ≤ 1000 ∧ bs.length = n ∧ ds = [tabO n a bs t] ∧ k (.sh .non) [tabO n a bs (strM t)]
/-- strengthen -/
def w_strengthen : WS := (wFor (wiR1 (wCons (wLenV 0) wNil)) (wgName 1)
  (wFor (wiR1 (wCons (wLenV 0) wNil)) (wgName 2)
  (wSeq (wSet 3 (wCall φ_added [false, false] [] [none, none] (wCons (wRd (wbIx (wbV 0) (wFrz 1)) (wFrz 1)) (wCons (wRd (wbIx (wbV 0) (wFrz 2)) (wFrz 2)) wNil))))
  (wIf (wB (wOp wNotN (wFrz 3) (wC .non))) (wSetI (wbIx (wbV 0) (wFrz 1)) (wFrz 2) (wCall φ_lesser [false, false] [] [none, none] (wCons (wRd (wbIx (wbV 0) (wFrz 1)) (wFrz 2)) (wCons (wOp (wII fDiv) (wFrz 3) (wC (.int 2))) wNil)))) wNext))))
abbrev ms_strengthen : List Bool := [true]
abbrev n_strengthen : Nat := 4
theorem strM_diag (t : T) (i : Nat) : strM t i i = t i i := by
  unfold strM
  cases e : t i i with
  | none => rfl
  | some a =>
    show (if a ≤ (a + a) / 2 then some a else some ((a + a) / 2)) = some a
    rw [if_pos (by omega)]
/-- the rows ahead of k, and of row k the entries ahead of l, are done -/
def strT (t : T) (k l : Nat) : T := fun i j => if i < k ∨ (i = k ∧ j < l) then strM t i j else t i j
theorem strT_diag (t : T) (k l i : Nat) : strT t k l i i = t i i := by
  unfold strT
  split
  · exact strM_diag t i
  · rfl
theorem strT_step (t : T) (k l : Nat) : setT (strT t k l) k l (strM t k l) = strT t k (l + 1) := by
  funext i j
  unfold setT strT
  by_cases c : i = k ∧ j = l
  · rw [if_pos c, if_pos (by omega), c.1, c.2]
  · rw [if_neg c]
    by_cases d : i < k ∨ (i = k ∧ j < l)
    · rw [if_pos d, if_pos (by omega)]
    · rw [if_neg d, if_neg (by omega)]
theorem strT_row {n : Nat} {a : Addr} {bs : List Addr} (hb : bs.length = n) (t : T) (k : Nat) : tabO n a bs (strT t k n) = tabO n a bs (strT t (k + 1) 0) := tab_congr hb fun i j hi hj => by
  unfold strT
  by_cases d : i < k ∨ (i = k ∧ j < n)
  · rw [if_pos d, if_pos (by omega)]
  · rw [if_neg d, if_neg (by omega)]
theorem h_strengthen : ∀ ds κ, φ_strengthen ds κ → lentOk ms_strengthen ds ∧ w_strengthen (endsOf ms_strengthen ds κ) (startE n_strengthen ds) := by
  rintro ds κ ⟨n, a, bs, t, hn, hb, rfl, hk⟩
  refine ⟨rfl, ?_⟩
  show w_strengthen _ [some (tabO n a bs t), none, none, none]
  have en : ((rows (fun i => rowO n (t i)) bs).length : Int) = ((n : Nat) : Int) := by rw [rows_len, hb]
  refine ⟨by rw [en]; constructor <;> omega, ?_⟩
  refine loop_rng n en (fun k env => ∃ x1 x2 x3, env = [some (tabO n a bs (strT t k 0)), x1, x2, x3]) ⟨none, none, none, by
    rw [tab_congr (t := t) (s := strT t 0 0) hb fun i j _ _ => by unfold strT; rw [if_neg (by omega)]]⟩ (fun k env hk' hI nxt hn' => ?_) (fun env hI => ?_)
  · obtain ⟨x1, x2, x3, rfl⟩ := hI
    simp only [List.set_cons_zero, List.set_cons_succ]
    have en : ((rows (fun i => rowO n (strT t k 0 i)) bs).length : Int) = ((n : Nat) : Int) := by rw [rows_len, hb]
    refine ⟨by rw [en]; constructor <;> omega, ?_⟩
    refine loop_rng n en (fun l env => ∃ x2 x3, env = [some (tabO n a bs (strT t k l)), some (on k), x2, x3]) ⟨_, _, rfl⟩ (fun l env hl hI nxt2 hn2 => ?_) (fun env hI => ?_)
    · obtain ⟨x2, x3, rfl⟩ := hI
      simp only [List.set_cons_zero, List.set_cons_succ]
      unfold wSeq wSet wCall wCons
      refine rd_tab (a := a) (t := strT t k l) ?_ hb hk' hk' ?_ ?_ ?_
      · rfl
      · exact fun R h => h
      · exact fun R h => h
      refine rd_tab (a := a) (t := strT t k l) ?_ hb hl hl ?_ ?_ ?_
      · rfl
      · exact fun R h => h
      · exact fun R h => h
      refine ⟨strT t k l k k, strT t k l l l, rfl, ?_⟩
      simp only [List.set_cons_zero, List.set_cons_succ]
      rw [strT_diag, strT_diag]
      have es : strM t k l = (match added (t k k) (t l l) with
        | some s => lesser (t k l) (some (s / 2))
        | none => t k l) := rfl
      have e0 : strT t k l k l = t k l := by unfold strT; rw [if_neg (by omega)]
      cases e : added (t k k) (t l l) with
      | none =>
        have e1 : tabO n a bs (strT t k l) = tabO n a bs (strT t k (l + 1)) := by
          rw [← strT_step, es, e]
          refine tab_congr hb fun i j _ _ => ?_
          unfold setT
          by_cases c : i = k ∧ j = l
          · rw [if_pos c, c.1, c.2, e0]
          · rw [if_neg c]
        refine hn2 _ ⟨some (on l), some (oO none), ?_⟩
        rw [← e1]
        rfl
      | some z =>
        refine if_t (env' := [some (tabO n a bs (strT t k l)), some (on k), some (on l), some (oO (some z))]) (fun Q h => h) ?_
        refine st_tab (a := a) (t := strT t k l) (v := strM t k l) ?_ hb hk' hl ?_ ?_ ?_ ?_
        · rfl
        · intro R h
          refine rd_tab (a := a) (t := strT t k l) ?_ hb hk' hl ?_ ?_ ?_
          · rfl
          · exact fun R h => h
          · exact fun R h => h
          refine ⟨div2, t k l, some (z / 2), by rw [e0]; rfl, ?_⟩
          rw [es, e] at h
          exact h
        · exact fun R h => h
        · exact fun R h => h
        · refine hn2 _ ⟨some (on l), some (oO (some z)), ?_⟩
          rw [← strT_step]
          rfl
    · obtain ⟨x2, x3, rfl⟩ := hI
      rw [strT_row hb]
      exact hn' _ ⟨_, _, _, rfl⟩
  · obtain ⟨x1, x2, x3, rfl⟩ := hI
    have := tab_congr (a := a) (t := strT t n 0) (s := strM t) hb fun i j hi _ => by unfold strT; rw [if_pos (.inl hi)]
    rw [this]
    exact ⟨⟨rfl, rfl⟩, hk⟩
end E8
namespace E8
open PySem PySem.Spec PyProof.Rows L2 E8M
/-! ### held, closed -/
/-- an answer that shows the shape -/
def ShpO (n : Nat) (o : Option T) (d : OD) : Prop := match o with
  | none => d = .sh .non
  | some t => ∃ a bs, bs.length = n ∧ d = tabO n a bs t
theorem shp_frz {n : Nat} {o : Option T} {d : OD} (h : ShpO n o d) : frz d = shpS n o := by
  cases o with
  | none => rw [show d = .sh .non from h]; rfl
  | some t =>
    obtain ⟨a, bs, hb, rfl⟩ := h
    exact frz_tab hb
def sideS (s : Side) : SD := .tup [.int (s.f : Nat), .int (s.g : Nat), .int s.c]
def heldO (n : Nat) (s : Side) (o : Option T) : Option T := o.bind fun t => heldM n t s.f s.g s.c
def φ_held : Spec := fun ds k => ∃ n s o, n ≤ 1000 ∧ (∀ i, i < n → fl i < n) ∧ s.ok n ∧ ds = [.sh (shpS n o), .sh (sideS s)] ∧ ∀ d, ShpO n (heldO n s o) d → k d ds
/-- held -/
def w_held : WS := (wSeq (wIf (wB (wOp wIsN (wFrz 0) (wC .non))) (wRet (wC .non)) wNext)
  (wSeq (wSet 2 (wOp wIx (wIxV 0 (wIxV 1 (wC (.int 0)))) (wIxV 1 (wC (.int 1)))))
  (wSeq (wIf (wAndT (wB (wOp wNotN (wFrz 2) (wC .non))) (wB (wOp (wII fLe) (wFrz 2) (wIxV 1 (wC (.int 2)))))) (wRet (wCall φ_copied [false] [] [none] (wCons (wFrz 0) wNil))) wNext)
  (wSeq (wSet 3 (wOp wIx (wIxV 0 (wCall φ_flipped [false] [] [none] (wCons (wIxV 1 (wC (.int 0))) wNil))) (wCall φ_flipped [false] [] [none] (wCons (wIxV 1 (wC (.int 1))) wNil))))
  (wSeq (wIf (wAndT (wB (wOp wNotN (wFrz 3) (wC .non))) (wB (wOp (wII fLt) (wOp wAdd (wFrz 3) (wIxV 1 (wC (.int 2)))) (wC (.int 0))))) (wRet (wC .non)) wNext)
  (wSeq (wSet 4 (wCall φ_relinked [false, false] [] [none, none] (wCons (wFrz 0) (wCons (wFrz 1) wNil))))
  (wSeq (wDrop (wCall φ_halve [true] [] [some 4] (wConsM 4 wNil)))
  (wSeq (wIf (wB (wCall φ_has_none [true] [] [some 4] (wConsM 4 wNil))) (wRet (wC .non)) wNext)
  (wSeq (wDrop (wCall φ_strengthen [true] [] [some 4] (wConsM 4 wNil)))
  (wRet (wMove 4)))))))))))
abbrev ms_held : List Bool := [false, false]
abbrev n_held : Nat := 5
theorem h_held : ∀ ds κ, φ_held ds κ → lentOk ms_held ds ∧ w_held (endsOf ms_held ds κ) (startE n_held ds) := by
  rintro ds κ ⟨n, ⟨f, g, c⟩, o, hn, hfl, ⟨hf, hg⟩, rfl, hk⟩
  refine ⟨⟨rfl, rfl, rfl⟩, ?_⟩
  show w_held _ [some (.sh (shpS n o)), some (.sh (.tup [.int (f : Nat), .int (g : Nat), .int c])), none, none, none]
  have hf : f < n := hf
  have hg : g < n := hg
  have hf' := hfl f hf
  have hg' := hfl g hg
  cases o with
  | none => exact hk (.sh .non) rfl
  | some t =>
    refine if_f (env' := [some (.sh (tabS n t)), some (.sh (.tup [.int (f : Nat), .int (g : Nat), .int c])), none, none, none]) (fun Q h => h) ?_
    refine ⟨_, rfl, _, atI_tab _ hf, _, rfl, _, atI_row _ hg, ?_⟩
    simp only [List.set_cons_zero, List.set_cons_succ]
    have hk : ∀ d, ShpO n (heldM n t f g c) d → κ d [.sh (tabS n t), .sh (.tup [.int (f : Nat), .int (g : Nat), .int c])] := hk
    by_cases h1 : leB (t f g) c = true
    · refine if_t (env' := [some (.sh (tabS n t)), some (.sh (.tup [.int (f : Nat), .int (g : Nat), .int c])), some (oO (t f g)), none, none]) (fun Q h => ?_) ?_
      · cases e : t f g with
        | none => rw [e] at h1; cases h1
        | some a =>
          rw [e] at h1 h
          refine ⟨_, rfl, ?_⟩
          have h1 : decide (a ≤ c) = true := h1
          show Q (decide (a ≤ c)) _
          rw [h1]
          exact h
      · refine ⟨n, t, Nat.le_trans hn (by decide), rfl, fun a bs hb => hk _ ?_⟩
        rw [show heldM n t f g c = some t by unfold heldM; rw [if_pos h1]]
        exact ⟨a, bs, hb, rfl⟩
    refine if_f (env' := [some (.sh (tabS n t)), some (.sh (.tup [.int (f : Nat), .int (g : Nat), .int c])), some (oO (t f g)), none, none]) (fun Q h => ?_) ?_
    · cases e : t f g with
      | none => rw [e] at h; exact h
      | some a =>
        rw [e] at h1 h
        refine ⟨_, rfl, ?_⟩
        have h1 : decide (a ≤ c) = false := by simpa [leB] using h1
        show Q (decide (a ≤ c)) _
        rw [h1]
        exact h
    refine ⟨_, rfl, f, rfl, _, atI_tab _ hf', _, rfl, g, rfl, _, atI_row _ hg', ?_⟩
    simp only [List.set_cons_zero, List.set_cons_succ]
    by_cases h2 : ltB (t (fl f) (fl g)) c = true
    · refine if_t (env' := [some (.sh (tabS n t)), some (.sh (.tup [.int (f : Nat), .int (g : Nat), .int c])), some (oO (t f g)), some (oO (t (fl f) (fl g))), none]) (fun Q h => ?_) ?_
      · cases e : t (fl f) (fl g) with
        | none => rw [e] at h2; cases h2
        | some a =>
          rw [e] at h2 h
          refine ⟨_, rfl, ?_⟩
          have h2 : decide (a + c < 0) = true := h2
          show Q (decide (a + c < 0)) _
          rw [h2]
          exact h
      · refine hk (.sh .non) ?_
        rw [show heldM n t f g c = none by unfold heldM; rw [if_neg h1, if_pos h2]]
        rfl
    refine if_f (env' := [some (.sh (tabS n t)), some (.sh (.tup [.int (f : Nat), .int (g : Nat), .int c])), some (oO (t f g)), some (oO (t (fl f) (fl g))), none]) (fun Q h => ?_) ?_
    · cases e : t (fl f) (fl g) with
      | none => rw [e] at h; exact h
      | some a =>
        rw [e] at h2 h
        refine ⟨_, rfl, ?_⟩
        have h2 : decide (a + c < 0) = false := by simpa [ltB] using h2
        show Q (decide (a + c < 0)) _
        rw [h2]
        exact h
    refine ⟨n, t, f, g, c, hn, hf', hg', rfl, fun a bs hb => ?_⟩
    simp only [List.set_cons_zero, List.set_cons_succ]
    refine ⟨n, a, bs, _, hn, hb, rfl, ?_⟩
    simp only [List.set_cons_zero, List.set_cons_succ]
    unfold wSeq
    refine if_eq (noneB n (halfM (relM t f g c))) [some (.sh (tabS n t)), some (.sh (.tup [.int (f : Nat), .int (g : Nat), .int c])), some (oO (t f g)), some (oO (t (fl f) (fl g))), some (tabO n a bs (halfM (relM t f g c)))] (fun Q h => ?_) (fun h3 => ?_) (fun h3 => ?_)
    · exact ⟨n, a, bs, _, hn, hfl, hb, rfl, h⟩
    · refine hk (.sh .non) ?_
      rw [show heldM n t f g c = none by unfold heldM; rw [if_neg h1, if_neg h2, if_pos h3]]
      rfl
    · refine ⟨n, a, bs, _, hn, hb, rfl, ?_⟩
      refine hk (tabO n a bs _) ?_
      rw [show heldM n t f g c = some (strM (halfM (relM t f g c))) by unfold heldM; rw [if_neg h1, if_neg h2, if_neg (by rw [h3]; decide)]]
      exact ⟨a, bs, hb, rfl⟩
def closedO (n : Nat) (ss : List Side) : Option T := ss.foldl (fun o s => heldO n s o) (some wideM)
def φ_closed : Spec := fun ds k => ∃ (c : Nat) (ss : List Side), c ≤ 500 ∧ (∀ s ∈ ss, s.ok (2 * c)) ∧ ds = [on c, .sh (.lst (ss.map sideS))] ∧ ∀ d, ShpO (2 * c) (closedO (2 * c) ss) d → k d ds
/-- closed -/
def w_closed : WS := (wSeq (wSet 2 (wCall φ_wide [false] [] [none] (wCons (wFrz 0) wNil)))
  (wSeq (wFor (wiL (wFrz 1)) (wgName 3)
  (wSet 2 (wCall φ_held [false, false] [] [none, none] (wCons (wFrz 2) (wCons (wFrz 3) wNil)))))
  (wRet (wMove 2))))
abbrev ms_closed : List Bool := [false, false]
abbrev n_closed : Nat := 4
theorem map_at {α β : Type} {f : α → β} {l : List α} {k : Nat} {d : β} (e : (l.map f)[k]? = some d) : ∃ x, l[k]? = some x ∧ d = f x := by
  rw [List.getElem?_map] at e
  cases h : l[k]? with
  | none => rw [h] at e; cases e
  | some x => rw [h] at e; exact ⟨x, rfl, (Option.some.inj e).symm⟩
theorem take_more {α : Type} {l : List α} {k : Nat} {x : α} (e : l[k]? = some x) : l.take (k + 1) = l.take k ++ [x] := by
  rw [List.take_add_one, e]; rfl
theorem h_closed : ∀ ds κ, φ_closed ds κ → lentOk ms_closed ds ∧ w_closed (endsOf ms_closed ds κ) (startE n_closed ds) := by
  rintro ds κ ⟨c, ss, hc, hs, rfl, hk⟩
  refine ⟨⟨rfl, rfl, rfl⟩, ?_⟩
  show w_closed _ [some (on c), some (.sh (.lst (ss.map sideS))), none, none]
  refine ⟨c, by omega, rfl, fun a bs hb => ?_⟩
  simp only [List.set_cons_zero, List.set_cons_succ]
  refine loop_ind (fun k env => ∃ d x3, ShpO (2 * c) (closedO (2 * c) (ss.take k)) d ∧ env = [some (on c), some (.sh (.lst (ss.map sideS))), some d, x3]) ⟨tabO (2 * c) a bs wideM, none, ⟨a, bs, hb, rfl⟩, rfl⟩ (fun k d env e hI nxt hn' => ?_) (fun env hI => ?_)
  · obtain ⟨d0, x3, h0, rfl⟩ := hI
    obtain ⟨s, hs1, rfl⟩ := map_at e
    simp only [List.set_cons_zero, List.set_cons_succ]
    refine ⟨2 * c, s, closedO (2 * c) (ss.take k), by omega, fun i hi => fl_lt hi, hs s (List.mem_of_getElem? hs1), by rw [← shp_frz h0]; rfl, fun d1 h1 => ?_⟩
    simp only [List.set_cons_zero, List.set_cons_succ]
    refine hn' _ ⟨d1, _, ?_, rfl⟩
    rw [take_more hs1]
    unfold closedO at *
    rw [List.foldl_append]
    exact h1
  · obtain ⟨d0, x3, h0, rfl⟩ := hI
    rw [List.length_map, List.take_length] at h0
    exact hk d0 h0
theorem closed_from {c : Nat} : ∀ (ss : List Side) {o : Option T} {A : (Nat → Int) → Prop}, (match o with
    | none => ∀ p, ¬ A p
    | some t => Cl (2 * c) t ∧ ∀ p, Sat (2 * c) p t ↔ A p) → (∀ s ∈ ss, s.ok (2 * c)) →
    match ss.foldl (fun o s => heldO (2 * c) s o) o with
    | none => ∀ p, ¬ (A p ∧ ∀ s ∈ ss, worth p s.f + worth p s.g ≤ s.c)
    | some t => Cl (2 * c) t ∧ ∀ p, Sat (2 * c) p t ↔ (A p ∧ ∀ s ∈ ss, worth p s.f + worth p s.g ≤ s.c)
  | [], o, A, h, _ => by
    cases o with
    | none => exact fun p q => h p q.1
    | some t => exact ⟨h.1, fun p => ⟨fun q => ⟨(h.2 p).mp q, by simp⟩, fun q => (h.2 p).mpr q.1⟩⟩
  | s :: ss, o, A, h, hs => by
    have ih := closed_from (c := c) ss (o := heldO (2 * c) s o) (A := fun p => A p ∧ worth p s.f + worth p s.g ≤ s.c) (by
      cases o with
      | none => exact fun p q => h p q.1
      | some t =>
        have hh := held_spec h.1 (fun k hk => fl_lt hk) (hs s List.mem_cons_self).1 (hs s List.mem_cons_self).2 (c := s.c)
        show match heldM (2 * c) t s.f s.g s.c with
          | none => _
          | some t => _
        cases e : heldM (2 * c) t s.f s.g s.c with
        | none => rw [e] at hh; exact fun p q => hh p ((h.2 p).mpr q.1) q.2
        | some u => rw [e] at hh; exact ⟨hh.1, fun p => by rw [hh.2 p, h.2 p]⟩) (fun x m => hs x (List.mem_cons_of_mem _ m))
    rw [List.foldl_cons]
    cases e : ss.foldl (fun o s => heldO (2 * c) s o) (heldO (2 * c) s o) with
    | none =>
      rw [e] at ih
      exact fun p q => ih p ⟨⟨q.1, q.2 s List.mem_cons_self⟩, fun x m => q.2 x (List.mem_cons_of_mem _ m)⟩
    | some t =>
      rw [e] at ih
      refine ⟨ih.1, fun p => ?_⟩
      rw [ih.2 p]
      constructor
      · rintro ⟨⟨q1, q2⟩, q3⟩
        exact ⟨q1, fun x m => by
          rcases List.mem_cons.mp m with rfl | m
          · exact q2
          · exact q3 x m⟩
      · rintro ⟨q1, q2⟩
        exact ⟨⟨q1, q2 s List.mem_cons_self⟩, fun x m => q2 x (List.mem_cons_of_mem _ m)⟩
/-- what closed tells -/
theorem closed_spec {c : Nat} {ss : List Side} (hs : ∀ s ∈ ss, s.ok (2 * c)) : match closedO (2 * c) ss with
    | none => ∀ p, ¬ ∀ s ∈ ss, worth p s.f + worth p s.g ≤ s.c
    | some t => Cl (2 * c) t ∧ ∀ p, Sat (2 * c) p t ↔ ∀ s ∈ ss, worth p s.f + worth p s.g ≤ s.c := by
  have := closed_from (c := c) ss (o := some wideM) (A := fun _ => True) ⟨wide_cl _, fun p => ⟨fun _ => trivial, fun _ => wide_sat _ p⟩⟩ hs
  unfold closedO
  cases e : ss.foldl (fun o s => heldO (2 * c) s o) (some wideM) with
  | none => rw [e] at this; exact fun p q => this p ⟨trivial, q⟩
  | some t => rw [e] at this; exact ⟨this.1, fun p => by rw [this.2 p]; exact ⟨fun q => q.2, fun q => ⟨trivial, q⟩⟩⟩
end E8
namespace E8
open PySem PySem.Spec PyProof.Rows L2 E8M
/-! ### dicts of chains -/
def wayS (w : Way) : SD := .tup [.int (w.n : Nat), .int (w.f : Nat), .int (w.g : Nat), .int w.c]
def legS (w : Way) : SD := .tup [.int (w.n : Nat), .int (w.f : Nat), .int (w.g : Nat)]
def entS (x : Ent) : SD := .tup [.int x.1, .lst (x.2.map legS)]
abbrev nk (e : Nat) : Key := .inl (e : Int)
theorem nk_inj {a b : Nat} : nk a = nk b ↔ a = b := by
  constructor
  · intro h
    have := Sum.inl.inj h
    omega
  · intro h; rw [h]
def keysD (D : Fnd) : List Key := D.map fun x => nk x.1
def valsD {α : Type} (h : SD → α) (D : Fnd) : List α := D.map fun x => h (entS x.2)
def dicS (D : Fnd) : SD := .dic (keysD D) (valsD id D)
def dicO (a : Addr) (D : Fnd) : OD := .dic a (keysD D) (valsD OD.sh D)
theorem kix_cons {x k : Key} {ks : List Key} : kix (x :: ks) k = if x = k then some 0 else (kix ks k).map (· + 1) := by
  unfold kix
  rw [List.findIdx?_cons]
  by_cases h : x = k
  · simp [h]
  · simp [h]
theorem dlook_fnd {α : Type} {h : SD → α} : ∀ (D : Fnd) (e : Nat), dlook (keysD D) (valsD h D) (nk e) = (dlk D e).map fun x => h (entS x)
  | [], e => rfl
  | x :: D, e => by
    have ih := dlook_fnd (h := h) D e
    unfold dlook at ih ⊢
    show (kix (nk x.1 :: keysD D) (nk e)).bind (fun j => (h (entS x.2) :: valsD h D)[j]?) = _
    rw [kix_cons]
    by_cases c : x.1 = e
    · simp [dlk, c]
    · rw [if_neg (fun q => c (nk_inj.mp q))]
      simp only [dlk, if_neg c]
      rw [← ih]
      cases kix (keysD D) (nk e) <;> simp
theorem dputK_fnd : ∀ (D : Fnd) (e : Nat) (v : Ent), dputK (keysD D) (nk e) = keysD (dput D e v)
  | [], e, v => rfl
  | x :: D, e, v => by
    have ih := dputK_fnd D e v
    unfold dputK at ih ⊢
    show (match kix (nk x.1 :: keysD D) (nk e) with
      | some _ => nk x.1 :: keysD D
      | none => (nk x.1 :: keysD D) ++ [nk e]) = _
    rw [kix_cons]
    by_cases c : x.1 = e
    · rw [if_pos (by rw [c])]
      simp [dput, c, keysD]
    · rw [if_neg (fun q => c (nk_inj.mp q))]
      have e2 : keysD (dput (x :: D) e v) = nk x.1 :: keysD (dput D e v) := by simp [dput, c, keysD]
      rw [e2, ← ih]
      cases kix (keysD D) (nk e) <;> rfl
theorem dputX_fnd {α : Type} {h : SD → α} : ∀ (D : Fnd) (e : Nat) (v : Ent), dputX (keysD D) (valsD h D) (nk e) (h (entS v)) = valsD h (dput D e v)
  | [], e, v => rfl
  | x :: D, e, v => by
    have ih := dputX_fnd (h := h) D e v
    unfold dputX at ih ⊢
    show (match kix (nk x.1 :: keysD D) (nk e) with
      | some j => (h (entS x.2) :: valsD h D).set j (h (entS v))
      | none => (h (entS x.2) :: valsD h D) ++ [h (entS v)]) = _
    rw [kix_cons]
    by_cases c : x.1 = e
    · rw [if_pos (by rw [c])]
      simp [dput, c, valsD]
    · rw [if_neg (fun q => c (nk_inj.mp q))]
      have e2 : valsD h (dput (x :: D) e v) = h (entS x.2) :: valsD h (dput D e v) := by simp [dput, c, valsD]
      rw [e2, ← ih]
      cases kix (keysD D) (nk e) <;> rfl
def DicO (D : Fnd) (d : OD) : Prop := d = .sh (dicS D) ∨ ∃ a, d = dicO a D
theorem frz_vals (D : Fnd) : frzs (valsD OD.sh D) = valsD id D := by
  rw [frzs_map]
  unfold valsD
  rw [List.map_map]
  rfl
theorem DicO.frz {D : Fnd} {d : OD} (h : DicO D d) : frz d = dicS D := by
  rcases h with rfl | ⟨a, rfl⟩
  · rfl
  · unfold dicO dicS
    simp only [E8.frz]
    rw [frz_vals]
theorem dHas_of {D : Fnd} {d : OD} (h : DicO D d) {e : Nat} {k : Bool → Prop} (q : k (dlk D e).isSome) : dHas d (on e) k := by
  rcases h with rfl | ⟨a, rfl⟩
  · show k (dlook (keysD D) (valsD id D) (nk e)).isSome
    rw [dlook_fnd, Option.isSome_map]
    exact q
  · show k (dlook (keysD D) (valsD OD.sh D) (nk e)).isSome
    rw [dlook_fnd, Option.isSome_map]
    exact q
theorem dGet_of {D : Fnd} {d : OD} (h : DicO D d) {e : Nat} {x : Ent} (ex : dlk D e = some x) {k : SD → Prop} (q : k (entS x)) : dGet d (on e) fun o => onSm o k := by
  rcases h with rfl | ⟨a, rfl⟩
  · show onSm (dlook (keysD D) (valsD id D) (nk e)) k
    rw [dlook_fnd, ex]
    exact ⟨_, rfl, q⟩
  · show ∃ o : Option SD, dlook (keysD D) (valsD OD.sh D) (nk e) = o.map .sh ∧ onSm o k
    rw [dlook_fnd, ex]
    exact ⟨some (entS x), rfl, _, rfl, q⟩
theorem din_v {i : Nat} {env : Env} {D : Fnd} {d : OD} {e : Nat} {wb : WE} {neg : Bool} {Q : OD → Env → Prop} (he : env[i]? = some (some d)) (h : DicO D d) (hb : ∀ R, R (on e) env → wb env R) (q : Q (.sh (.bl (if neg = true then !(dlk D e).isSome else (dlk D e).isSome))) env) : wDInV neg i wb env Q := by
  refine hb _ ?_
  show onV env i fun x => dHas x (on e) fun b => Q (.sh (.bl (if neg then !b else b))) env
  unfold onV
  simp only [he]
  exact dHas_of h q
theorem dget_v {i : Nat} {env : Env} {D : Fnd} {d : OD} {e : Nat} {x : Ent} {wb : WE} {Q : OD → Env → Prop} (he : env[i]? = some (some d)) (h : DicO D d) (hb : ∀ R, R (on e) env → wb env R) (ex : dlk D e = some x) (q : Q (.sh (entS x)) env) : wDGetV i wb env Q := by
  unfold wDGetV
  unfold onV
  simp only [he]
  refine hb _ ?_
  simp only [he]
  exact dGet_of h ex q
theorem frz_v {i : Nat} {env : Env} {d : OD} {Q : OD → Env → Prop} (h : env[i]? = some (some d)) (q : Q (.sh (frz d)) (env.set i (some (.sh (frz d))))) : wFrz i env Q := by
  unfold wFrz
  rw [h]
  exact q
/-! ### better -/
def φ_better : Spec := fun ds k => ∃ a D e s, ds = [dicO a D, on e, oi s] ∧ k (.sh (.bl (betterM D e s))) ds
/-- better -/
def w_better : WS := (wRet (wOrV (wDInV true 0 (wFrz 1)) (wOp (wII fLt) (wFrz 2) (wOp wIx (wDGetV 0 (wFrz 1)) (wC (.int 0))))))
abbrev ms_better : List Bool := [true, false, false]
abbrev n_better : Nat := 3
theorem orv_eq {wa wb : WE} {env : Env} {Q : OD → Env → Prop} (b : Bool) (env' : Env) (h : ∀ R : Bool → Env → Prop, R b env' → wB wa env R) (k1 : b = true → Q (.sh (.bl true)) env') (k2 : b = false → wb env' Q) : wOrV wa wb env Q := h _ (by
  cases b with
  | true => exact k1 rfl
  | false => exact k2 rfl)
theorem h_better : ∀ ds κ, φ_better ds κ → lentOk ms_better ds ∧ w_better (endsOf ms_better ds κ) (startE n_better ds) := by
  rintro ds κ ⟨a, D, e, s, rfl, hk⟩
  refine ⟨⟨rfl, rfl, rfl⟩, ?_⟩
  show w_better _ [some (dicO a D), some (on e), some (oi s)]
  have hD : DicO D (dicO a D) := .inr ⟨a, rfl⟩
  unfold w_better wRet
  refine orv_eq (!(dlk D e).isSome) [some (dicO a D), some (on e), some (oi s)] (fun R h => ?_) (fun h => ?_) (fun h => ?_)
  · unfold wB
    refine din_v (e := e) (d := dicO a D) ?_ hD ?_ ?_
    · rfl
    · exact fun R h => h
    · exact h
  · have : dlk D e = none := by
      cases q : dlk D e with
      | none => rfl
      | some x => rw [q] at h; cases h
    have eb : betterM D e s = true := by unfold betterM; rw [this]
    rw [eb] at hk
    exact ⟨⟨rfl, rfl⟩, hk⟩
  · cases q : dlk D e with
    | none => rw [q] at h; cases h
    | some x =>
      have eb : betterM D e s = decide (s < x.1) := by unfold betterM; rw [q]
      rw [eb] at hk
      unfold wOp
      refine frz_v rfl ?_
      simp only [List.set_cons_zero, List.set_cons_succ]
      refine dget_v (e := e) (d := dicO a D) ?_ hD ?_ q ?_
      · rfl
      · exact fun R h => h
      · exact ⟨_, rfl, ⟨rfl, rfl⟩, hk⟩
/-! ### ways_round -/
def waysAt (n : Nat) (s : Side) : List Way := if s.f = s.g then [⟨n, s.f, s.g, s.c⟩] else [⟨n, s.f, s.g, s.c⟩, ⟨n, s.g, s.f, s.c⟩]
def waysFrom : Nat → List Side → List Way
  | _, [] => []
  | n, s :: ss => waysAt n s ++ waysFrom (n + 1) ss
abbrev ways (ss : List Side) : List Way := waysFrom 0 ss
theorem waysFrom_snoc : ∀ (ss : List Side) (n : Nat) (s : Side), waysFrom n (ss ++ [s]) = waysFrom n ss ++ waysAt (n + ss.length) s
  | [], n, s => by simp [waysFrom]
  | x :: ss, n, s => by
    simp only [List.cons_append, waysFrom, waysFrom_snoc ss (n + 1) s, List.append_assoc, List.length_cons]
    rw [show n + 1 + ss.length = n + (ss.length + 1) by omega]
theorem mem_ways : ∀ {ss : List Side} {n : Nat} {w : Way}, w ∈ waysFrom n ss → ∃ i s, ss[i]? = some s ∧ w.n = n + i ∧ w.c = s.c ∧ ((w.f = s.f ∧ w.g = s.g) ∨ (w.f = s.g ∧ w.g = s.f))
  | x :: ss, n, w, h => by
    rcases List.mem_append.mp h with h | h
    · refine ⟨0, x, rfl, ?_⟩
      unfold waysAt at h
      split at h
      · have := List.mem_singleton.mp h
        subst this
        exact ⟨rfl, rfl, .inl ⟨rfl, rfl⟩⟩
      · rcases List.mem_cons.mp h with rfl | h
        · exact ⟨rfl, rfl, .inl ⟨rfl, rfl⟩⟩
        · have := List.mem_singleton.mp h
          subst this
          exact ⟨rfl, rfl, .inr ⟨rfl, rfl⟩⟩
    · obtain ⟨i, s, h1, h2, h3⟩ := mem_ways h
      exact ⟨i + 1, s, by simpa using h1, by omega, h3⟩
theorem ways_of {ss : List Side} {w : Way} (h : w ∈ ways ss) : WayOf ss w := by
  obtain ⟨i, s, h1, h2, h3, h4⟩ := mem_ways h
  have : w.n = i := by omega
  subst this
  exact ⟨s, h1, h3, h4⟩
theorem ways_has : ∀ {ss : List Side} {n : Nat} {s : Side}, s ∈ ss → ∃ w ∈ waysFrom n ss, w.f = s.f ∧ w.g = s.g ∧ w.c = s.c
  | x :: ss, n, s, h => by
    rcases List.mem_cons.mp h with rfl | h
    · refine ⟨⟨n, s.f, s.g, s.c⟩, List.mem_append_left _ ?_, rfl, rfl, rfl⟩
      unfold waysAt
      split <;> exact List.mem_cons_self
    · obtain ⟨w, m, q⟩ := ways_has (n := n + 1) h
      exact ⟨w, List.mem_append_right _ m, q⟩
theorem ways_rev : ∀ {ss : List Side} {n : Nat} {w : Way}, w ∈ waysFrom n ss → ∃ v ∈ waysFrom n ss, v.f = w.g ∧ v.g = w.f ∧ v.c = w.c
  | x :: ss, n, w, h => by
    rcases List.mem_append.mp h with h | h
    · unfold waysAt at h
      split at h
      · rename_i e
        have := List.mem_singleton.mp h
        subst this
        exact ⟨_, List.mem_append_left _ (by unfold waysAt; rw [if_pos e]; exact List.mem_cons_self), e, e.symm, rfl⟩
      · rename_i e
        rcases List.mem_cons.mp h with rfl | h
        · exact ⟨⟨n, x.g, x.f, x.c⟩, List.mem_append_left _ (by unfold waysAt; rw [if_neg e]; exact List.mem_cons_of_mem _ (List.mem_singleton.mpr rfl)), rfl, rfl, rfl⟩
        · have := List.mem_singleton.mp h
          subst this
          exact ⟨⟨n, x.f, x.g, x.c⟩, List.mem_append_left _ (by unfold waysAt; rw [if_neg e]; exact List.mem_cons_self), rfl, rfl, rfl⟩
    · obtain ⟨v, m, q⟩ := ways_rev h
      exact ⟨v, List.mem_append_right _ m, q⟩
theorem ways_len : ∀ (ss : List Side) (n : Nat), (waysFrom n ss).length ≤ 2 * ss.length
  | [], _ => Nat.le_refl _
  | s :: ss, n => by
    have := ways_len ss (n + 1)
    have h : (waysAt n s).length ≤ 2 := by unfold waysAt; split <;> simp
    simp only [waysFrom, List.length_append, List.length_cons]
    omega
def φ_ways_round : Spec := fun ds k => ∃ ss : List Side, ss.length ≤ 1000 ∧ ds = [.sh (.lst (ss.map sideS))] ∧ ∀ a, k (.lst a ((ways ss).map fun w => .sh (wayS w))) ds
/-- ways_round -/
def w_ways_round : WS := (wSeq (wSet 1 (wLst wNil))
  (wSeq (wFor (wiEnum (wCons (wFrz 0) wNil)) (wgTup [2, 3])
  (wSeq (wDrop (wApp (wbV 1) (wTup (wCons (wFrz 2) (wCons (wIxV 3 (wC (.int 0))) (wCons (wIxV 3 (wC (.int 1))) (wCons (wIxV 3 (wC (.int 2))) wNil)))))))
  (wIf (wB (wOp wNe (wIxV 3 (wC (.int 0))) (wIxV 3 (wC (.int 1))))) (wDrop (wApp (wbV 1) (wTup (wCons (wFrz 2) (wCons (wIxV 3 (wC (.int 1))) (wCons (wIxV 3 (wC (.int 0))) (wCons (wIxV 3 (wC (.int 2))) wNil))))))) wNext)))
  (wRet (wMove 1))))
abbrev ms_ways_round : List Bool := [false]
abbrev n_ways_round : Nat := 4
theorem h_ways_round : ∀ ds κ, φ_ways_round ds κ → lentOk ms_ways_round ds ∧ w_ways_round (endsOf ms_ways_round ds κ) (startE n_ways_round ds) := by
  rintro ds κ ⟨ss, hl, rfl, hk⟩
  refine ⟨⟨rfl, rfl⟩, ?_⟩
  show w_ways_round _ [some (.sh (.lst (ss.map sideS))), none, none, none]
  refine ⟨Nat.zero_le _, fun p => ?_⟩
  simp only [List.set_cons_zero, List.set_cons_succ]
  refine loop_ind (fun k env => ∃ x2 x3, env = [some (.sh (.lst (ss.map sideS))), some (.lst p ((ways (ss.take k)).map fun w => .sh (wayS w))), x2, x3]) ⟨none, none, rfl⟩ (fun k d env e hI nxt hn => ?_) (fun env hI => ?_)
  · obtain ⟨x2, x3, rfl⟩ := hI
    rw [enumS_get, List.getElem?_map] at e
    cases es : ss[k]? with
    | none => rw [es] at e; cases e
    | some s =>
      rw [es] at e
      have ed : d = .tup [.int ((0 + k : Nat) : Int), sideS s] := (Option.some.inj e).symm
      subst ed
      rw [show 0 + k = k by omega]
      have hk' : k < ss.length := (List.getElem?_eq_some_iff.mp es).1
      have hz : ∀ w, ((ways (ss.take k)).map fun w => OD.sh (wayS w)).length + w < sizeLine ∨ 2 < w := fun w => by
        by_cases c : 2 < w
        · exact .inr c
        · have : (ways (ss.take k)).length ≤ _ := ways_len (ss.take k) 0
          rw [List.length_take] at this
          exact .inl (by rw [List.length_map]; exact Nat.lt_of_le_of_lt (m := 2002) (by omega) (by decide))
      refine ⟨rfl, ?_⟩
      show wSeq _ _ _ [some (.sh (.lst (ss.map sideS))), some (.lst p ((ways (ss.take k)).map fun w => .sh (wayS w))), some (on k), some (.sh (sideS s))]
      refine ⟨_, rfl, rfl, _, rfl, _, rfl, _, rfl, _, rfl, (by decide : 4 ≤ sizeLine), _, rfl, rfl, by rcases hz 0 with h | h <;> omega, ?_⟩
      simp only [List.set_cons_zero, List.set_cons_succ]
      have ew : ways (ss.take (k + 1)) = ways (ss.take k) ++ waysAt k s := by
        show waysFrom 0 _ = _
        rw [take_more es, waysFrom_snoc, List.length_take, show 0 + min k ss.length = k by omega]
      by_cases c : s.f = s.g
      · refine if_f (env' := [some (.sh (.lst (ss.map sideS))), some (.lst p (((ways (ss.take k)).map fun w => .sh (wayS w)) ++ [.sh (wayS ⟨k, s.f, s.g, s.c⟩)])), some (on k), some (.sh (sideS s))]) (fun Q h => ?_) ?_
        · refine ⟨_, rfl, _, rfl, ?_⟩
          show Q (!decide ((s.f : Int) = (s.g : Int))) _
          rw [decide_eq_true (by omega)]
          exact h
        · refine hn _ ⟨some (on k), some (.sh (sideS s)), ?_⟩
          rw [ew]
          unfold waysAt
          rw [if_pos c, List.map_append]
          rfl
      · refine if_t (env' := [some (.sh (.lst (ss.map sideS))), some (.lst p (((ways (ss.take k)).map fun w => .sh (wayS w)) ++ [.sh (wayS ⟨k, s.f, s.g, s.c⟩)])), some (on k), some (.sh (sideS s))]) (fun Q h => ?_) ?_
        · refine ⟨_, rfl, _, rfl, ?_⟩
          show Q (!decide ((s.f : Int) = (s.g : Int))) _
          rw [decide_eq_false (by omega)]
          exact h
        · refine ⟨_, rfl, rfl, _, rfl, _, rfl, _, rfl, _, rfl, (by decide : 4 ≤ sizeLine), _, rfl, rfl, by rw [List.length_append]; rcases hz 1 with h | h; exact h; omega, ?_⟩
          refine hn _ ⟨some (on k), some (.sh (sideS s)), ?_⟩
          rw [ew]
          unfold waysAt
          rw [if_neg c, List.map_append]
          rw [show List.map (fun w => OD.sh (wayS w)) [⟨k, s.f, s.g, s.c⟩, ⟨k, s.g, s.f, s.c⟩] = [OD.sh (wayS ⟨k, s.f, s.g, s.c⟩)] ++ [OD.sh (wayS ⟨k, s.g, s.f, s.c⟩)] from rfl, ← List.append_assoc]
          rfl
  · obtain ⟨x2, x3, rfl⟩ := hI
    rw [enumS_len, List.length_map, List.take_length]
    exact hk p
/-! ### chains_from -/
def legP (w : Way) : PyData := .tuple [.int (w.n : Nat), .int (w.f : Nat), .int (w.g : Nat)]
def entP (x : Ent) : PyData := .tuple [.int x.1, .list (x.2.map legP)]
theorem pd_legs : ∀ l : List Way, pds (l.map legS) = some (l.map legP)
  | [] => rfl
  | w :: l => by
    rw [List.map_cons, pds, pd_legs l]
    rfl
theorem pd_ent (x : Ent) : pd (entS x) = some (entP x) := by
  unfold entS entP
  simp only [pd, pds, pd_legs, Option.map_some]
theorem pds_vals : ∀ D : Fnd, pds (valsD id D) = some (D.map fun x => entP x.2)
  | [] => rfl
  | x :: D => by
    have ih := pds_vals D
    show pds (entS x.2 :: valsD id D) = _
    rw [pds, pd_ent, ih]
    rfl
theorem legs_lay : ∀ l : List Way, PyData.canLayAll0 (l.map legP) = true ∧ PyData.depthAll (l.map legP) ≤ 5
  | [] => by simp [PyData.canLayAll0, PyData.depthAll]
  | w :: l => by
    have ih := legs_lay l
    simp only [List.map_cons, PyData.canLayAll0, PyData.depthAll, legP, PyData.canLay0, PyData.depth, Bool.and_eq_true, ih.1]
    simp only [Nat.max_le]
    refine ⟨by simp, ?_, ih.2⟩
    simp
theorem ok_ent (x : Ent) : okP (entP x) = true := by
  have h := legs_lay x.2
  unfold okP entP
  simp only [PyData.canLay0, PyData.canLayAll0, PyData.depth, PyData.depthAll, h.1, Bool.and_true, Bool.true_and, decide_eq_true_eq]
  have : max (0 : Nat) (max (PyData.depthAll (x.2.map legP) + 1) 0) + 1 ≤ 60 := by omega
  simpa using this
theorem eqv_ent {x y : Ent} (h : PyData.eqv (entP x) (entP y) = true) : x.1 = y.1 := by
  unfold entP at h
  simp only [PyData.eqv, PyData.eqvAll, Bool.and_eq_true] at h
  simpa using h.1
theorem hits_fnd {D : Fnd} : ∀ {D' : Fnd}, dHits ((keysD D).zip (D.map fun x => entP x.2)) ((keysD D').zip (D'.map fun x => entP x.2)) = true → ∀ e y, dlk D' e = some y → ∃ x, dlk D e = some x ∧ x.1 = y.1
  | [], _, e, y, q => by cases q
  | z :: D', h, e, y, q => by
    have h : (match kfind ((keysD D).zip (D.map fun x => entP x.2)) (nk z.1) with
      | none => false
      | some q => PyData.eqv (entP z.2) q && dHits ((keysD D).zip (D.map fun x => entP x.2)) ((keysD D').zip (D'.map fun x => entP x.2))) = true := h
    have fk : ∀ (D : Fnd) (e : Nat), kfind ((keysD D).zip (D.map fun x => entP x.2)) (nk e) = (dlk D e).map entP := by
      intro D e
      induction D with
      | nil => rfl
      | cons x D ih =>
        unfold kfind at ih ⊢
        show (List.find? (fun kv => decide (kv.1 = nk e)) ((nk x.1, entP x.2) :: (keysD D).zip (D.map fun x => entP x.2))).map (·.2) = _
        rw [List.find?_cons]
        by_cases c : x.1 = e
        · rw [decide_eq_true (by show nk x.1 = nk e; rw [c])]
          simp [dlk, c]
        · rw [decide_eq_false (fun q => c (nk_inj.mp q))]
          simp only [dlk, if_neg c]
          exact ih
    rw [fk] at h
    cases dz : dlk D z.1 with
    | none => rw [dz] at h; cases h
    | some x =>
      rw [dz] at h
      have h : (PyData.eqv (entP z.2) (entP x) && dHits ((keysD D).zip (D.map fun x => entP x.2)) ((keysD D').zip (D'.map fun x => entP x.2))) = true := h
      rw [Bool.and_eq_true] at h
      simp only [dlk] at q
      by_cases c : z.1 = e
      · rw [if_pos c] at q
        have : z.2 = y := Option.some.inj q
        exact ⟨x, by rw [← c]; exact dz, by rw [← this]; exact (eqv_ent h.1).symm⟩
      · rw [if_neg c] at q
        exact hits_fnd h.2 e y q
theorem dEqv_fnd {D D' : Fnd} (h : dEqv ((keysD D').zip (D'.map fun x => entP x.2)) ((keysD D).zip (D.map fun x => entP x.2)) = true) : ∀ e y, dlk D' e = some y → ∃ x, dlk D e = some x ∧ x.1 = y.1 := by
  unfold dEqv at h
  rw [Bool.and_eq_true] at h
  exact hits_fnd h.2
theorem eqK_of {D D' : Fnd} {k : OD → Prop} (h : k (.sh (.bl (dEqv ((keysD D').zip (D'.map fun x => entP x.2)) ((keysD D).zip (D.map fun x => entP x.2)))))) : wEqK (.sh (dicS D')) (.sh (dicS D)) k := by
  unfold wEqK dicS
  simp only [pds_vals]
  refine ⟨fun p m => ?_, fun p m => ?_, h⟩
  · obtain ⟨x, _, rfl⟩ := List.mem_map.mp m; exact ok_ent _
  · obtain ⟨x, _, rfl⟩ := List.mem_map.mp m; exact ok_ent _
/-- the keys of a dict are forms, each once -/
def KeysOk (n : Nat) (D : Fnd) : Prop := (D.map (·.1)).Nodup ∧ ∀ x ∈ D.map (·.1), x < n
theorem KeysOk.len {n : Nat} {D : Fnd} (h : KeysOk n D) : D.length ≤ n := by
  have := nodup_len n _ h.1 h.2
  simpa using this
theorem put_keys : ∀ (D : Fnd) (e : Nat) (v : Ent), ∀ x, x ∈ (dput D e v).map (·.1) → x = e ∨ x ∈ D.map (·.1)
  | [], e, v, x, m => .inl (by simpa [dput] using m)
  | y :: D, e, v, x, m => by
    simp only [dput] at m
    split at m
    · rename_i c
      rcases List.mem_cons.mp m with h | h
      · exact .inl h
      · exact .inr (List.mem_cons_of_mem _ h)
    · rcases List.mem_cons.mp m with h | h
      · exact .inr (by rw [h]; exact List.mem_cons_self)
      · rcases put_keys D e v x h with h | h
        · exact .inl h
        · exact .inr (List.mem_cons_of_mem _ h)
theorem put_nd : ∀ (D : Fnd) (e : Nat) (v : Ent), (D.map (·.1)).Nodup → ((dput D e v).map (·.1)).Nodup
  | [], e, v, _ => by simp [dput]
  | y :: D, e, v, h => by
    have h' := List.nodup_cons.mp h
    simp only [dput]
    split
    · rename_i c
      exact List.nodup_cons.mpr ⟨by rw [← c]; exact h'.1, h'.2⟩
    · rename_i c
      refine List.nodup_cons.mpr ⟨fun m => ?_, put_nd D e v h'.2⟩
      rcases put_keys D e v _ m with q | q
      · exact c q
      · exact h'.1 q
theorem KeysOk.put {n : Nat} {D : Fnd} (h : KeysOk n D) {e : Nat} (he : e < n) (v : Ent) : KeysOk n (dput D e v) := ⟨put_nd D e v h.1, fun x m => by
  rcases put_keys D e v x m with q | q
  · rw [q]; exact he
  · exact h.2 x q⟩
theorem KeysOk.putB {n : Nat} {D : Fnd} (h : KeysOk n D) {e : Nat} (he : e < n) (v : Ent) : KeysOk n (putB D e v) := by
  unfold E8M.putB
  split
  · exact h.put he v
  · exact h
theorem keys_first {n b : Nat} : ∀ (l : List Way) (D : Fnd), (∀ w ∈ l, w.g < n) → KeysOk n D → KeysOk n (l.foldl (first1 b) D)
  | [], D, _, h => h
  | w :: l, D, hl, h => keys_first l _ (fun v m => hl v (List.mem_cons_of_mem _ m)) (by
    unfold first1
    split
    · exact h.putB (hl w List.mem_cons_self) _
    · exact h)
theorem keys_more {n : Nat} {D0 : Fnd} : ∀ (l : List Way) (D : Fnd), (∀ w ∈ l, w.g < n) → KeysOk n D → KeysOk n (l.foldl (more1 D0) D)
  | [], D, _, h => h
  | w :: l, D, hl, h => keys_more l _ (fun v m => hl v (List.mem_cons_of_mem _ m)) (by
    unfold more1
    split
    · exact h
    · exact h.putB (hl w List.mem_cons_self) _)
theorem fps_vals (D : Fnd) : fps (valsD OD.sh D) = [] := by
  have : valsD OD.sh D = (valsD id D).map .sh := by unfold valsD; rw [List.map_map]; rfl
  rw [this, fps_sh]
theorem upL0 {env : Env} {i : Nat} {d y : OD} (he : env[i]? = some (some d)) : upL env ⟨i, []⟩ y = env.set i (some y) := by
  unfold upL
  simp only [he]
  rfl
theorem look0 {env : Env} {i : Nat} {d : OD} (he : env[i]? = some (some d)) : look env ⟨i, []⟩ = some d := by
  unfold look
  simp only [he]
  rfl
theorem dset_v {i : Nat} {env : Env} {D : Fnd} {a : Addr} {e : Nat} {v : Ent} {wi wa : WE} {q : QE} (he : env[i]? = some (some (dicO a D))) (hl : D.length < sizeLine) (ha : ∀ R : OD → Env → Prop, R (.sh (entS v)) env → wa env R) (hi : ∀ R, R (on e) env → wi env R)
    (h : q.nx (env.set i (some (dicO a (dput D e v))))) : wDSet (wbV i) wi wa q env := by
  unfold wDSet wSh
  refine ha _ ?_
  refine ⟨_, look0 he, rfl, _, look0 he, hi _ ⟨_, look0 he, rfl, ?_⟩⟩
  show (keysD D).length < sizeLine ∧ fps (valsD OD.sh D) = [] ∧ q.nx (upL env ⟨i, []⟩ (.dic a (dputK (keysD D) (nk e)) (dputX (keysD D) (valsD OD.sh D) (nk e) (.sh (entS v)))))
  rw [dputK_fnd, dputX_fnd, upL0 he]
  exact ⟨by unfold keysD; rw [List.length_map]; exact hl, fps_vals D, h⟩
end E8
namespace E8
open PySem PySem.Spec PyProof.Rows L2 E8M
theorem add_ii {i j : Int} {k : OD → Prop} (h : k (oi (i + j))) : wAdd (oi i) (oi j) k := h
def φ_chains_from : Spec := fun ds k => ∃ (b n : Nat) (ws : List Way), 1 ≤ n ∧ n ≤ 1000 ∧ ws.length ≤ 10000 ∧ (∀ w ∈ ws, w.g < n) ∧ ds = [on b, .sh (.lst (ws.map wayS)), on n] ∧ ∀ d D, DicO D d → Found ws n b D → k d ds
/-- chains_from -/
def w_chains_from : WS := (wSeq (wSet 3 wDNew)
  (wSeq (wFor (wiL (wFrz 1)) (wgName 4)
  (wIf (wAndT (wB (wOp wEq (wIxV 4 (wC (.int 1))) (wFrz 0))) (wB (wCall φ_better [true, false, false] [] [some 3, none, none] (wConsM 3 (wCons (wIxV 4 (wC (.int 2))) (wCons (wIxV 4 (wC (.int 3))) wNil)))))) (wDSet (wbV 3) (wIxV 4 (wC (.int 2))) (wTup (wCons (wIxV 4 (wC (.int 3))) (wCons (wLst (wCons (wSl (wFrz 4) woNone (woSome (wC (.int 3)))) wNil)) wNil)))) wNext))
  (wSeq (wFor (wiR1 (wCons (wOp (wII fSub) (wFrz 2) (wC (.int 1))) wNil)) (wgName 5)
  (wSeq (wSet 6 (wCB wDict (wCons (wFrz 3) wNil)))
  (wSeq (wFor (wiL (wFrz 1)) (wgName 4)
  (wSeq (wSet 7 (wCall φ_flipped [false] [] [none] (wCons (wIxV 4 (wC (.int 1))) wNil)))
  (wIf (wB (wDInV false 3 (wFrz 7))) (wSeq (wSet 8 (wOp wAdd (wOp wIx (wDGetV 3 (wFrz 7)) (wC (.int 0))) (wIxV 4 (wC (.int 3)))))
  (wIf (wB (wCall φ_better [true, false, false] [] [some 6, none, none] (wConsM 6 (wCons (wIxV 4 (wC (.int 2))) (wCons (wFrz 8) wNil))))) (wDSet (wbV 6) (wIxV 4 (wC (.int 2))) (wTup (wCons (wFrz 8) (wCons (wOp wAdd (wOp wIx (wDGetV 3 (wFrz 7)) (wC (.int 1))) (wLst (wCons (wSl (wFrz 4) woNone (woSome (wC (.int 3)))) wNil))) wNil)))) wNext)) wNext)))
  (wSeq (wIf (wB (wOp wEqK (wFrz 6) (wFrz 3))) (wRet (wMove 3)) wNext)
  (wSet 3 (wFrz 6))))))
  (wRet (wMove 3)))))
abbrev ms_chains_from : List Bool := [false, false, false]
abbrev n_chains_from : Nat := 9
theorem h_chains_from : ∀ ds κ, φ_chains_from ds κ → lentOk ms_chains_from ds ∧ w_chains_from (endsOf ms_chains_from ds κ) (startE n_chains_from ds) := by
  rintro ds κ ⟨b, n, ws, hn1, hn, hl, hg, rfl, hk⟩
  refine ⟨⟨rfl, rfl, rfl, rfl⟩, ?_⟩
  show w_chains_from _ [some (on b), some (.sh (.lst (ws.map wayS))), some (on n), none, none, none, none, none, none]
  refine fun p => ?_
  simp only [List.set_cons_zero, List.set_cons_succ]
  have tg : ∀ (k : Nat) (w : Way), w ∈ ws.take k → w.g < n := fun k w m => hg w (List.mem_of_mem_take m)
  refine loop_ind (fun k env => ∃ x4, env = [some (on b), some (.sh (.lst (ws.map wayS))), some (on n), some (dicO p ((ws.take k).foldl (first1 b) [])), x4, none, none, none, none]) ⟨none, rfl⟩ (fun k d env e hI nxt hn' => ?_) (fun env hI => ?_)
  · obtain ⟨x4, rfl⟩ := hI
    obtain ⟨w, hw, rfl⟩ := map_at e
    simp only [List.set_cons_zero, List.set_cons_succ]
    have hK : KeysOk n ((ws.take k).foldl (first1 b) []) := keys_first _ _ (tg k) ⟨by simp, by simp⟩
    have st : (ws.take (k + 1)).foldl (first1 b) [] = first1 b ((ws.take k).foldl (first1 b) []) w := by
      rw [take_more hw, List.foldl_append]; rfl
    rw [st] at hn'
    generalize (ws.take k).foldl (first1 b) [] = D at *
    by_cases c : w.f = b
    · by_cases c2 : betterM D w.g w.c = true
      · refine if_t (env' := [some (on b), some (.sh (.lst (ws.map wayS))), some (on n), some (dicO p D), some (.sh (wayS w)), none, none, none, none]) (fun Q h => ?_) ?_
        · refine ⟨_, rfl, ?_⟩
          show if decide ((w.f : Int) = (b : Int)) = true then _ else _
          rw [decide_eq_true (by omega), if_pos rfl]
          refine ⟨_, rfl, _, rfl, p, D, w.g, w.c, rfl, ?_⟩
          rw [c2]
          exact h
        · refine dset_v (e := w.g) (v := (w.c, [w])) (D := D) (a := p) ?_ (Nat.lt_of_le_of_lt hK.len (size_lt (by omega))) ?_ ?_ ?_
          · rfl
          · intro R h
            refine ⟨_, rfl, (by decide : 1 ≤ sizeLine), fun p2 => ⟨(by decide : 2 ≤ sizeLine), ?_⟩⟩
            exact h
          · exact fun R h => ⟨_, rfl, h⟩
          · refine hn' _ ⟨some (.sh (wayS w)), ?_⟩
            have ef : first1 b D w = dput D w.g (w.c, [w]) := by unfold first1 putB; rw [if_pos c, if_pos c2]
            rw [ef]
            rfl
      · refine if_f (env' := [some (on b), some (.sh (.lst (ws.map wayS))), some (on n), some (dicO p D), some (.sh (wayS w)), none, none, none, none]) (fun Q h => ?_) ?_
        · refine ⟨_, rfl, ?_⟩
          show if decide ((w.f : Int) = (b : Int)) = true then _ else _
          rw [decide_eq_true (by omega), if_pos rfl]
          refine ⟨_, rfl, _, rfl, p, D, w.g, w.c, rfl, ?_⟩
          have c2 : betterM D w.g w.c = false := by simpa using c2
          rw [c2]
          exact h
        · refine hn' _ ⟨some (.sh (wayS w)), ?_⟩
          have ef : first1 b D w = D := by unfold first1 putB; rw [if_pos c, if_neg c2]
          rw [ef]
    · refine if_f (env' := [some (on b), some (.sh (.lst (ws.map wayS))), some (on n), some (dicO p D), some (.sh (wayS w)), none, none, none, none]) (fun Q h => ?_) ?_
      · refine ⟨_, rfl, ?_⟩
        show if decide ((w.f : Int) = (b : Int)) = true then _ else _
        rw [decide_eq_false (by omega), if_neg (by decide)]
        exact h
      · refine hn' _ ⟨some (.sh (wayS w)), ?_⟩
        have ef : first1 b D w = D := by unfold first1; rw [if_neg c]
        rw [ef]
  · obtain ⟨x4, rfl⟩ := hI
    rw [List.length_map, List.take_length]
    have hs1 : Snd ws b 1 (ws.foldl (first1 b) []) := first_snd ws [] (fun w m => m) (fun e x h => by cases h)
    have ho1 : Opt ws b 1 (ws.foldl (first1 b) []) := first_opt
    have hK1 : KeysOk n (ws.foldl (first1 b) []) := keys_first _ _ hg ⟨by simp, by simp⟩
    generalize ws.foldl (first1 b) [] = D1 at *
    have en : (n : Int) - 1 = ((n - 1 : Nat) : Int) := by omega
    refine ⟨⟨by omega, by omega⟩, ?_⟩
    simp only [List.set_cons_zero, List.set_cons_succ]
    refine loop_rng (n - 1) en (fun k env => ∃ d D x4 x5 x6 x7 x8, DicO D d ∧ Snd ws b (k + 1) D ∧ Opt ws b 1 D ∧ Opt ws b (k + 1) D ∧ KeysOk n D ∧ env = [some (on b), some (.sh (.lst (ws.map wayS))), some (on n), some d, x4, x5, x6, x7, x8]) ⟨_, D1, _, _, _, _, _, .inr ⟨p, rfl⟩, hs1, ho1, ho1, hK1, rfl⟩ (fun k env hk' hI nxt hn' => ?_) (fun env hI => ?_)
    · obtain ⟨d, D, x4, x5, x6, x7, x8, hd, hs, hoa, ho, hK, rfl⟩ := hI
      simp only [List.set_cons_zero, List.set_cons_succ]
      unfold wSeq wSet wCB wCons
      refine frz_v rfl ?_
      simp only [List.set_cons_zero, List.set_cons_succ]
      rw [hd.frz]
      refine fun q => ?_
      simp only [List.set_cons_zero, List.set_cons_succ]
      rw [show (valsD id D).map OD.sh = valsD OD.sh D by unfold valsD; rw [List.map_map]; rfl]
      have hD : DicO D (.sh (dicS D)) := .inl rfl
      refine loop_ind (fun j env => ∃ x4 x7 x8, env = [some (on b), some (.sh (.lst (ws.map wayS))), some (on n), some (.sh (dicS D)), x4, some (on k), some (dicO q ((ws.take j).foldl (more1 D) D)), x7, x8]) ⟨_, _, _, rfl⟩ (fun j d2 env e hI nxt2 hn2 => ?_) (fun env hI => ?_)
      · obtain ⟨x4, x7, x8, rfl⟩ := hI
        obtain ⟨w, hw, rfl⟩ := map_at e
        simp only [List.set_cons_zero, List.set_cons_succ]
        have hKj : KeysOk n ((ws.take j).foldl (more1 D) D) := keys_more _ _ (tg j) hK
        have st : (ws.take (j + 1)).foldl (more1 D) D = more1 D ((ws.take j).foldl (more1 D) D) w := by
          rw [take_more hw, List.foldl_append]; rfl
        rw [st] at hn2
        generalize (ws.take j).foldl (more1 D) D = L at *
        have hwm : w ∈ ws := List.mem_of_getElem? hw
        refine ⟨_, rfl, w.f, rfl, ?_⟩
        simp only [List.set_cons_zero, List.set_cons_succ]
        cases ed : dlk D (fl w.f) with
        | none =>
          refine if_f (env' := [some (on b), some (.sh (.lst (ws.map wayS))), some (on n), some (.sh (dicS D)), some (.sh (wayS w)), some (on k), some (dicO q L), some (on (fl w.f)), x8]) (fun Q h => ?_) ?_
          · unfold wB
            refine din_v (e := fl w.f) (d := .sh (dicS D)) ?_ hD ?_ ?_
            · rfl
            · exact fun R h => h
            · rw [ed]; exact h
          · refine hn2 _ ⟨some (.sh (wayS w)), some (on (fl w.f)), x8, ?_⟩
            have ef : more1 D L w = L := by unfold more1; rw [ed]
            rw [ef]
        | some x =>
          obtain ⟨_, _, _, hxl⟩ := hs _ _ ed
          refine if_t (env' := [some (on b), some (.sh (.lst (ws.map wayS))), some (on n), some (.sh (dicS D)), some (.sh (wayS w)), some (on k), some (dicO q L), some (on (fl w.f)), x8]) (fun Q h => ?_) ?_
          · unfold wB
            refine din_v (e := fl w.f) (d := .sh (dicS D)) ?_ hD ?_ ?_
            · rfl
            · exact fun R h => h
            · rw [ed]; exact h
          · simp only [wSeq, wSet, wDrop, wOp, wUn, wB, wCons, wTup, wCB, wRet, List.set_cons_zero, List.set_cons_succ]
            refine dget_v (e := fl w.f) (d := .sh (dicS D)) (x := x) ?_ hD ?_ ed ?_
            · rfl
            · exact fun R h => h
            refine ⟨_, rfl, _, rfl, add_ii ?_⟩
            simp only [List.set_cons_zero, List.set_cons_succ]
            have ef : more1 D L w = putB L w.g (x.1 + w.c, x.2 ++ [w]) := by unfold more1; rw [ed]
            by_cases c2 : betterM L w.g (x.1 + w.c) = true
            · refine if_t (env' := [some (on b), some (.sh (.lst (ws.map wayS))), some (on n), some (.sh (dicS D)), some (.sh (wayS w)), some (on k), some (dicO q L), some (on (fl w.f)), some (oi (x.1 + w.c))]) (fun Q h => ?_) ?_
              · refine ⟨_, rfl, q, L, w.g, x.1 + w.c, rfl, ?_⟩
                rw [c2]
                exact h
              · refine dset_v (e := w.g) (v := (x.1 + w.c, x.2 ++ [w])) (D := L) (a := q) ?_ (Nat.lt_of_le_of_lt hKj.len (size_lt (by omega))) ?_ ?_ ?_
                · rfl
                · intro R h
                  simp only [wSeq, wSet, wDrop, wOp, wUn, wB, wCons, wTup, wCB, wRet, List.set_cons_zero, List.set_cons_succ]
                  refine frz_v rfl ?_
                  simp only [List.set_cons_zero, List.set_cons_succ]
                  refine dget_v (e := fl w.f) (d := .sh (dicS D)) (x := x) ?_ hD ?_ ed ?_
                  · rfl
                  · exact fun R h => h
                  refine ⟨_, rfl, (by decide : 1 ≤ sizeLine), fun p2 => ⟨?_, fun p3 => ⟨(by decide : 2 ≤ sizeLine), ?_⟩⟩⟩
                  · simp only [List.length_map]
                    exact Nat.le_trans (m := 1002) (by simp; omega) (by decide)
                  · have eq : SD.tup (frzs [oi (x.1 + w.c), .lst p3 (((x.2.map legS).map OD.sh) ++ [.sh (legS w)])]) = entS (x.1 + w.c, x.2 ++ [w]) := by
                      unfold entS
                      simp only [frzs, frz]
                      rw [show (x.2.map legS).map OD.sh ++ [.sh (legS w)] = ((x.2 ++ [w]).map legS).map OD.sh by simp, frzs_sh]
                    show R (.sh (SD.tup (frzs [oi (x.1 + w.c), .lst p3 (((x.2.map legS).map OD.sh) ++ [.sh (legS w)])]))) _
                    rw [eq]
                    exact h
                · exact fun R h => ⟨_, rfl, h⟩
                · refine hn2 _ ⟨some (.sh (wayS w)), some (on (fl w.f)), some (oi (x.1 + w.c)), ?_⟩
                  have ef2 : putB L w.g (x.1 + w.c, x.2 ++ [w]) = dput L w.g (x.1 + w.c, x.2 ++ [w]) := by unfold putB; rw [if_pos c2]
                  rw [ef, ef2]
                  rfl
            · refine if_f (env' := [some (on b), some (.sh (.lst (ws.map wayS))), some (on n), some (.sh (dicS D)), some (.sh (wayS w)), some (on k), some (dicO q L), some (on (fl w.f)), some (oi (x.1 + w.c))]) (fun Q h => ?_) ?_
              · refine ⟨_, rfl, q, L, w.g, x.1 + w.c, rfl, ?_⟩
                have c2 : betterM L w.g (x.1 + w.c) = false := by simpa using c2
                rw [c2]
                exact h
              · refine hn2 _ ⟨some (.sh (wayS w)), some (on (fl w.f)), some (oi (x.1 + w.c)), ?_⟩
                have ef2 : putB L w.g (x.1 + w.c, x.2 ++ [w]) = L := by unfold putB; rw [if_neg c2]
                rw [ef, ef2]
      · obtain ⟨x4, x7, x8, rfl⟩ := hI
        rw [List.length_map, List.take_length]
        have hs2 : Snd ws b (k + 1 + 1) (ws.foldl (more1 D) D) := more_snd hs ws D (fun w m => m) (hs.more (by omega))
        have ho2 : Opt ws b (k + 1 + 1) (ws.foldl (more1 D) D) := more_opt (by omega) ho
        have hK2 : KeysOk n (ws.foldl (more1 D) D) := keys_more _ _ hg hK
        have hst : (∀ e y, dlk (ws.foldl (more1 D) D) e = some y → ∃ x, dlk D e = some x ∧ x.1 = y.1) → Found ws n b D := fun h => ⟨hs.more (by omega), still_opt hoa h n⟩
        generalize ws.foldl (more1 D) D = L at *
        have hL : DicO L (dicO q L) := .inr ⟨q, rfl⟩
        simp only [List.set_cons_zero, List.set_cons_succ]
        refine if_eq (dEqv ((keysD L).zip (L.map fun x => entP x.2)) ((keysD D).zip (D.map fun x => entP x.2))) [some (on b), some (.sh (.lst (ws.map wayS))), some (on n), some (.sh (dicS D)), x4, some (on k), some (.sh (dicS L)), x7, x8] (fun Q h => ?_) (fun h => ?_) (fun h => ?_)
        · simp only [wSeq, wSet, wDrop, wOp, wUn, wB, wCons, wTup, wCB, wRet, List.set_cons_zero, List.set_cons_succ]
          refine frz_v rfl ?_
          simp only [List.set_cons_zero, List.set_cons_succ]
          rw [hL.frz]
          refine frz_v rfl ?_
          simp only [List.set_cons_zero, List.set_cons_succ]
          exact eqK_of h
        · exact hk _ D hD (hst (dEqv_fnd h))
        · refine hn' _ ⟨_, L, _, _, _, _, _, .inl rfl, hs2, fun e p hp h1 h2 => ho2 e p hp h1 (by omega), ho2, hK2, rfl⟩
    · obtain ⟨d, D, x4, x5, x6, x7, x8, hd, hs, hoa, ho, hK, rfl⟩ := hI
      rw [show n - 1 + 1 = n by omega] at hs ho
      exact hk d D hd ⟨hs, ho⟩
end E8
namespace E8
open PySem PySem.Spec PyProof.Rows L2 E8M
/-! ### ring -/
theorem and_t {wt wu : WT} {env env' : Env} {Q : Bool → Env → Prop} (h1 : ∀ R : Bool → Env → Prop, R true env' → wt env R) (h2 : wu env' Q) : wAndT wt wu env Q := h1 _ h2
theorem and_f {wt wu : WT} {env env' : Env} {Q : Bool → Env → Prop} (h1 : ∀ R : Bool → Env → Prop, R false env' → wt env R) (h2 : Q false env') : wAndT wt wu env Q := h1 _ h2
def legsO (p : List Way) : List OD := (p.map legS).map OD.sh
def RingRes (c : Nat) (ss : List Side) (d : OD) : Prop := (d = .sh .non ∧ ∃ p, Meets ss p) ∨ ∃ a b p1 p2, IsRing (ways ss) (2 * c) p1 p2 ∧ d = .tup [.lst a (legsO p1), .lst b (legsO p2)]
def φ_ring : Spec := fun ds k => ∃ (c : Nat) (ss : List Side), 1 ≤ c ∧ c ≤ 500 ∧ ss.length ≤ 1000 ∧ (∀ s ∈ ss, s.ok (2 * c)) ∧ ds = [on c, .sh (.lst (ss.map sideS))] ∧ ∀ d, RingRes c ss d → k d ds
/-- ring -/
def w_ring : WS := (wSeq (wSet 2 (wCall φ_ways_round [false] [] [none] (wCons (wFrz 1) wNil)))
  (wSeq (wSet 3 (wLst wNil))
  (wSeq (wFor (wiR1 (wCons (wOp (wII fMul) (wC (.int 2)) (wFrz 0)) wNil)) (wgName 4)
  (wSeq (wSet 5 (wCall φ_chains_from [false, false, false] [] [none, none, none] (wCons (wFrz 4) (wCons (wFrz 2) (wCons (wOp (wII fMul) (wC (.int 2)) (wFrz 0)) wNil)))))
  (wSeq (wIf (wAndT (wB (wDInV false 5 (wCall φ_flipped [false] [] [none] (wCons (wFrz 4) wNil)))) (wB (wOp (wII fLt) (wOp wIx (wDGetV 5 (wCall φ_flipped [false] [] [none] (wCons (wFrz 4) wNil))) (wC (.int 0))) (wC (.int 0))))) (wRet (wTupO (wCons (wCB wList (wCons (wOp wIx (wDGetV 5 (wCall φ_flipped [false] [] [none] (wCons (wFrz 4) wNil))) (wC (.int 1))) wNil)) (wCons (wLst wNil) wNil)))) wNext)
  (wDrop (wApp (wbV 3) (wFrz 5))))))
  (wSeq (wFor (wiR1 (wCons (wOp (wII fMul) (wC (.int 2)) (wFrz 0)) wNil)) (wgName 4)
  (wSeq (wSet 6 (wCall φ_flipped [false] [] [none] (wCons (wFrz 4) wNil)))
  (wIf (wAndT (wB (wDIn false (wFrz 4) (wIxV 3 (wFrz 4)))) (wB (wDIn false (wFrz 6) (wIxV 3 (wFrz 6))))) (wIf (wB (wOp (wII fLt) (wOp wAdd (wOp (wII fDiv) (wOp wIx (wDGet (wIxV 3 (wFrz 4)) (wFrz 4)) (wC (.int 0))) (wC (.int 2))) (wOp (wII fDiv) (wOp wIx (wDGet (wIxV 3 (wFrz 6)) (wFrz 6)) (wC (.int 0))) (wC (.int 2)))) (wC (.int 0)))) (wRet (wTupO (wCons (wCB wList (wCons (wOp wIx (wDGet (wIxV 3 (wFrz 4)) (wFrz 4)) (wC (.int 1))) wNil)) (wCons (wCB wList (wCons (wOp wIx (wDGet (wIxV 3 (wFrz 6)) (wFrz 6)) (wC (.int 1))) wNil)) wNil)))) wNext) wNext)))
  (wRet (wC .non))))))
abbrev ms_ring : List Bool := [false, false]
abbrev n_ring : Nat := 7
theorem din_f {D : Fnd} {d : OD} {e : Nat} {wb wa : WE} {env env1 env2 : Env} {neg : Bool} {Q : OD → Env → Prop} (hb : ∀ R, R (on e) env1 → wb env R) (ha : ∀ R, R d env2 → wa env1 R) (h : frz d = dicS D) (q : Q (.sh (.bl (if neg = true then !(dlk D e).isSome else (dlk D e).isSome))) env2) : wDIn neg wb wa env Q := by
  refine hb _ (ha _ ?_)
  show dHas (.sh (frz d)) (on e) _
  rw [h]
  exact dHas_of (.inl rfl) q
theorem dget_f {D : Fnd} {d : OD} {e : Nat} {x : Ent} {wb wa : WE} {env env1 env2 : Env} {Q : OD → Env → Prop} (ha : ∀ R, R d env1 → wa env R) (hb : ∀ R, R (on e) env2 → wb env1 R) (h : frz d = dicS D) (ex : dlk D e = some x) (q : Q (.sh (entS x)) env2) : wDGet wa wb env Q := by
  unfold wDGet wSh
  refine ha _ (hb _ ?_)
  rw [h]
  exact dGet_of (.inl rfl) ex q
theorem frz_ways {a : Addr} {l : List Way} : frz (.lst a (l.map fun w => .sh (wayS w))) = .lst (l.map wayS) := by
  simp only [frz]
  rw [show (l.map fun w => OD.sh (wayS w)) = (l.map wayS).map OD.sh by rw [List.map_map]; rfl, frzs_sh]
theorem mk_snoc_sh (F : Nat → SD) (n : Nat) : mk (fun f => OD.sh (F f)) n ++ [OD.sh (F n)] = mk (fun f => OD.sh (F f)) (n + 1) := rfl
theorem h_ring : ∀ ds κ, φ_ring ds κ → lentOk ms_ring ds ∧ w_ring (endsOf ms_ring ds κ) (startE n_ring ds) := by
  rintro ds κ ⟨c, ss, hc1, hc, hl, hs, rfl, hk⟩
  refine ⟨⟨rfl, rfl, rfl⟩, ?_⟩
  show w_ring _ [some (on c), some (.sh (.lst (ss.map sideS))), none, none, none, none, none]
  have hwl : (ways ss).length ≤ 10000 := Nat.le_trans (ways_len ss 0) (by omega)
  have hw : ∀ w ∈ ways ss, w.f < 2 * c ∧ w.g < 2 * c := fun w m => by
    obtain ⟨s, h1, _, h2⟩ := ways_of m
    obtain ⟨q1, q2⟩ := hs s (List.mem_of_getElem? h1)
    rcases h2 with ⟨a, b⟩ | ⟨a, b⟩
    · rw [a, b]; exact ⟨q1, q2⟩
    · rw [a, b]; exact ⟨q2, q1⟩
  have hr : ∀ w ∈ ways ss, ∃ v ∈ ways ss, v.f = w.g ∧ v.g = w.f ∧ v.c = w.c := fun w m => ways_rev m
  have hh : ∀ s ∈ ss, ∃ w ∈ ways ss, w.f = s.f ∧ w.g = s.g ∧ w.c = s.c := fun s m => ways_has m
  refine ⟨ss, hl, rfl, fun a => ?_⟩
  have hk : ∀ d, (d = .sh .non ∧ (∃ p : Nat → Int, ∀ s ∈ ss, worth p s.f + worth p s.g ≤ s.c)) ∨ (∃ a b p1 p2, IsRing (ways ss) (2 * c) p1 p2 ∧ d = .tup [.lst a (legsO p1), .lst b (legsO p2)]) → κ d [on c, .sh (.lst (ss.map sideS))] := hk
  generalize ways ss = ws at *
  simp only [List.set_cons_zero, List.set_cons_succ]
  refine ⟨Nat.zero_le _, fun p => ?_⟩
  simp only [List.set_cons_zero, List.set_cons_succ]
  have e2 : (2 : Int) * (c : Int) = ((2 * c : Nat) : Int) := by omega
  refine ⟨mul2, ⟨by omega, by omega⟩, ?_⟩
  refine loop_rng (2 * c) e2 (fun k env => ∃ Ds : Nat → Fnd, ∃ d2 x4 x5 x6, (∀ f, f < k → Found ws (2 * c) f (Ds f) ∧ ∀ x, dlk (Ds f) (fl f) = some x → 0 ≤ x.1) ∧ frz d2 = .lst (ws.map wayS) ∧ env = [some (on c), some (.sh (.lst (ss.map sideS))), some d2, some (.lst p (mk (fun f => .sh (dicS (Ds f))) k)), x4, x5, x6])
    ⟨fun _ => [], _, none, none, none, fun f h => absurd h (Nat.not_lt_zero f), frz_ways, rfl⟩ (fun k env hk' hI nxt hn' => ?_) (fun env hI => ?_)
  · obtain ⟨Ds, d2, x4, x5, x6, hF, h2, rfl⟩ := hI
    simp only [List.set_cons_zero, List.set_cons_succ]
    refine ⟨mul2, ?_⟩
    refine ⟨k, 2 * c, ws, by omega, by omega, hwl, fun w m => (hw w m).2, by rw [h2, e2]; rfl, fun d D hd hD => ?_⟩
    simp only [List.set_cons_zero, List.set_cons_succ]
    have ap : (∀ x, dlk D (fl k) = some x → 0 ≤ x.1) → nxt [some (on c), some (.sh (.lst (ss.map sideS))), some (.sh (frz d2)), some (.lst p (mk (fun f => .sh (dicS (Ds f))) k ++ [.sh (dicS D)])), some (on k), some (.sh (dicS D)), x6] := fun h0 => by
      refine hn' _ ⟨fun f => if f = k then D else Ds f, .sh (frz d2), some (on k), some (.sh (dicS D)), x6, fun f hf => ?_, h2, ?_⟩
      · by_cases c : f = k
        · subst c; simp only [if_true]; exact ⟨hD, h0⟩
        · simp only [if_neg c]; exact hF f (by omega)
      · have : mk (fun f => OD.sh (dicS (if f = k then D else Ds f))) (k + 1) = mk (fun f => .sh (dicS (Ds f))) k ++ [.sh (dicS D)] := by
          rw [mk, if_pos rfl, mk_congr (G := fun f => .sh (dicS (Ds f))) fun i hi => by rw [if_neg (by omega)]]
        rw [this]
    have nx : (∀ x, dlk D (fl k) = some x → 0 ≤ x.1) → wDrop (wApp (wbV 3) (wFrz 5)) { nx := nxt, rt := (endsOf ms_ring [on c, .sh (.lst (ss.map sideS))] κ).rt, bk := fun _ => True, ct := fun _ => True } [some (on c), some (.sh (.lst (ss.map sideS))), some (.sh (frz d2)), some (.lst p (mk (fun f => .sh (dicS (Ds f))) k)), some (on k), some d, x6] := fun h0 => by
      refine ⟨_, rfl, rfl, _, rfl, _, rfl, rfl, by rw [mk_len]; exact size_lt (by omega), ?_⟩
      rw [hd.frz]
      exact ap h0
    cases ed : dlk D (fl k) with
    | none =>
      refine if_f (env' := [some (on c), some (.sh (.lst (ss.map sideS))), some (.sh (frz d2)), some (.lst p (mk (fun f => .sh (dicS (Ds f))) k)), some (on k), some d, x6]) (fun Q h => ?_) ?_
      · refine and_f (env' := [some (on c), some (.sh (.lst (ss.map sideS))), some (.sh (frz d2)), some (.lst p (mk (fun f => .sh (dicS (Ds f))) k)), some (on k), some d, x6]) (fun R h => ?_) h
        unfold wB
        refine din_v (e := fl k) ?_ hd ?_ ?_
        · rfl
        · exact fun R h => ⟨k, rfl, h⟩
        · rw [ed]; exact h
      · exact nx (fun x e => by rw [ed] at e; cases e)
    | some x =>
      by_cases c0 : x.1 < 0
      · refine if_t (env' := [some (on c), some (.sh (.lst (ss.map sideS))), some (.sh (frz d2)), some (.lst p (mk (fun f => .sh (dicS (Ds f))) k)), some (on k), some d, x6]) (fun Q h => ?_) ?_
        · refine and_t (env' := [some (on c), some (.sh (.lst (ss.map sideS))), some (.sh (frz d2)), some (.lst p (mk (fun f => .sh (dicS (Ds f))) k)), some (on k), some d, x6]) (fun R h => ?_) ?_
          · unfold wB
            refine din_v (e := fl k) ?_ hd ?_ ?_
            · rfl
            · exact fun R h => ⟨k, rfl, h⟩
            · rw [ed]; exact h
          · simp only [wSeq, wSet, wDrop, wOp, wUn, wB, wCons, wTup, wCB, wRet, wTupO, List.set_cons_zero, List.set_cons_succ]
            refine dget_v (e := fl k) (x := x) ?_ hd ?_ ed ?_
            · rfl
            · exact fun R h => ⟨k, rfl, h⟩
            refine ⟨_, rfl, ?_⟩
            show Q (decide (x.1 < 0)) _
            rw [decide_eq_true c0]
            exact h
        · simp only [wSeq, wSet, wDrop, wOp, wUn, wB, wCons, wTup, wCB, wRet, wTupO, List.set_cons_zero, List.set_cons_succ]
          refine dget_v (e := fl k) (x := x) ?_ hd ?_ ed ?_
          · rfl
          · exact fun R h => ⟨k, rfl, h⟩
          refine ⟨_, rfl, fun a1 => ⟨Nat.zero_le _, fun a2 => ⟨(by decide : 2 ≤ sizeLine), ?_⟩⟩⟩
          obtain ⟨q1, q2, q3, q4⟩ := hD.1 _ _ ed
          rw [fl_fl] at q2
          exact hk _ (.inr ⟨a1, a2, x.2, [], ⟨q1, q4, k, hk', .inl ⟨rfl, q2, by omega⟩⟩, rfl⟩)
      · refine if_f (env' := [some (on c), some (.sh (.lst (ss.map sideS))), some (.sh (frz d2)), some (.lst p (mk (fun f => .sh (dicS (Ds f))) k)), some (on k), some d, x6]) (fun Q h => ?_) ?_
        · refine and_t (env' := [some (on c), some (.sh (.lst (ss.map sideS))), some (.sh (frz d2)), some (.lst p (mk (fun f => .sh (dicS (Ds f))) k)), some (on k), some d, x6]) (fun R h => ?_) ?_
          · unfold wB
            refine din_v (e := fl k) ?_ hd ?_ ?_
            · rfl
            · exact fun R h => ⟨k, rfl, h⟩
            · rw [ed]; exact h
          · simp only [wSeq, wSet, wDrop, wOp, wUn, wB, wCons, wTup, wCB, wRet, wTupO, List.set_cons_zero, List.set_cons_succ]
            refine dget_v (e := fl k) (x := x) ?_ hd ?_ ed ?_
            · rfl
            · exact fun R h => ⟨k, rfl, h⟩
            refine ⟨_, rfl, ?_⟩
            show Q (decide (x.1 < 0)) _
            rw [decide_eq_false c0]
            exact h
        · exact nx (fun y e => by rw [ed] at e; cases e; omega)
  · obtain ⟨Ds, d2, x4, x5, x6, hF, h2, rfl⟩ := hI
    refine ⟨mul2, ⟨by omega, by omega⟩, ?_⟩
    simp only [List.set_cons_zero, List.set_cons_succ]
    refine loop_rng (2 * c) e2 (fun k env => ∃ x4 x5 x6, (∀ f, f < k → ∀ x y, dlk (Ds f) f = some x → dlk (Ds (fl f)) (fl f) = some y → 0 ≤ x.1 / 2 + y.1 / 2) ∧ env = [some (on c), some (.sh (.lst (ss.map sideS))), some d2, some (.lst p (mk (fun f => .sh (dicS (Ds f))) (2 * c))), x4, x5, x6])
      ⟨_, _, _, fun f h => absurd h (Nat.not_lt_zero f), rfl⟩ (fun k env hk' hI nxt hn' => ?_) (fun env hI => ?_)
    · obtain ⟨x4, x5, x6, hP, rfl⟩ := hI
      have hf' := fl_lt hk'
      simp only [List.set_cons_zero, List.set_cons_succ]
      refine ⟨k, rfl, ?_⟩
      simp only [List.set_cons_zero, List.set_cons_succ]
      have no : (∀ x y, dlk (Ds k) k = some x → dlk (Ds (fl k)) (fl k) = some y → 0 ≤ x.1 / 2 + y.1 / 2) → nxt [some (on c), some (.sh (.lst (ss.map sideS))), some d2, some (.lst p (mk (fun f => .sh (dicS (Ds f))) (2 * c))), some (on k), x5, some (on (fl k))] := fun h => hn' _ ⟨_, _, _, fun f hf => by
        by_cases c : f = k
        · subst c; exact h
        · exact hP f (by omega), rfl⟩
      cases e1 : dlk (Ds k) k with
      | none =>
        refine if_f (env' := [some (on c), some (.sh (.lst (ss.map sideS))), some d2, some (.lst p (mk (fun f => .sh (dicS (Ds f))) (2 * c))), some (on k), x5, some (on (fl k))]) (fun Q h => ?_) (no fun x y q => by rw [e1] at q; cases q)
        refine and_f (env' := [some (on c), some (.sh (.lst (ss.map sideS))), some d2, some (.lst p (mk (fun f => .sh (dicS (Ds f))) (2 * c))), some (on k), x5, some (on (fl k))]) (fun R h => ?_) h
        unfold wB
        refine din_f (e := k) (d := .sh (dicS (Ds k))) (D := Ds k) (env1 := [some (on c), some (.sh (.lst (ss.map sideS))), some d2, some (.lst p (mk (fun f => .sh (dicS (Ds f))) (2 * c))), some (on k), x5, some (on (fl k))]) (env2 := [some (on c), some (.sh (.lst (ss.map sideS))), some d2, some (.lst p (mk (fun f => .sh (dicS (Ds f))) (2 * c))), some (on k), x5, some (on (fl k))]) ?_ ?_ rfl ?_
        · exact fun R h => h
        · exact fun R h => ⟨_, atI_mk _ hk', h⟩
        · rw [e1]; exact h
      | some x =>
        cases e2 : dlk (Ds (fl k)) (fl k) with
        | none =>
          refine if_f (env' := [some (on c), some (.sh (.lst (ss.map sideS))), some d2, some (.lst p (mk (fun f => .sh (dicS (Ds f))) (2 * c))), some (on k), x5, some (on (fl k))]) (fun Q h => ?_) (no fun x y _ q => by rw [e2] at q; cases q)
          refine and_t (env' := [some (on c), some (.sh (.lst (ss.map sideS))), some d2, some (.lst p (mk (fun f => .sh (dicS (Ds f))) (2 * c))), some (on k), x5, some (on (fl k))]) (fun R h => ?_) ?_
          · unfold wB
            refine din_f (e := k) (d := .sh (dicS (Ds k))) (D := Ds k) (env1 := [some (on c), some (.sh (.lst (ss.map sideS))), some d2, some (.lst p (mk (fun f => .sh (dicS (Ds f))) (2 * c))), some (on k), x5, some (on (fl k))]) (env2 := [some (on c), some (.sh (.lst (ss.map sideS))), some d2, some (.lst p (mk (fun f => .sh (dicS (Ds f))) (2 * c))), some (on k), x5, some (on (fl k))]) ?_ ?_ rfl ?_
            · exact fun R h => h
            · exact fun R h => ⟨_, atI_mk _ hk', h⟩
            · rw [e1]; exact h
          · unfold wB
            refine din_f (e := fl k) (d := .sh (dicS (Ds (fl k)))) (D := Ds (fl k)) (env1 := [some (on c), some (.sh (.lst (ss.map sideS))), some d2, some (.lst p (mk (fun f => .sh (dicS (Ds f))) (2 * c))), some (on k), x5, some (on (fl k))]) (env2 := [some (on c), some (.sh (.lst (ss.map sideS))), some d2, some (.lst p (mk (fun f => .sh (dicS (Ds f))) (2 * c))), some (on k), x5, some (on (fl k))]) ?_ ?_ rfl ?_
            · exact fun R h => h
            · exact fun R h => ⟨_, atI_mk _ hf', h⟩
            · rw [e2]; exact h
        | some y =>
          refine if_t (env' := [some (on c), some (.sh (.lst (ss.map sideS))), some d2, some (.lst p (mk (fun f => .sh (dicS (Ds f))) (2 * c))), some (on k), x5, some (on (fl k))]) (fun Q h => ?_) ?_
          · refine and_t (env' := [some (on c), some (.sh (.lst (ss.map sideS))), some d2, some (.lst p (mk (fun f => .sh (dicS (Ds f))) (2 * c))), some (on k), x5, some (on (fl k))]) (fun R h => ?_) ?_
            · unfold wB
              refine din_f (e := k) (d := .sh (dicS (Ds k))) (D := Ds k) (env1 := [some (on c), some (.sh (.lst (ss.map sideS))), some d2, some (.lst p (mk (fun f => .sh (dicS (Ds f))) (2 * c))), some (on k), x5, some (on (fl k))]) (env2 := [some (on c), some (.sh (.lst (ss.map sideS))), some d2, some (.lst p (mk (fun f => .sh (dicS (Ds f))) (2 * c))), some (on k), x5, some (on (fl k))]) ?_ ?_ rfl ?_
              · exact fun R h => h
              · exact fun R h => ⟨_, atI_mk _ hk', h⟩
              · rw [e1]; exact h
            · unfold wB
              refine din_f (e := fl k) (d := .sh (dicS (Ds (fl k)))) (D := Ds (fl k)) (env1 := [some (on c), some (.sh (.lst (ss.map sideS))), some d2, some (.lst p (mk (fun f => .sh (dicS (Ds f))) (2 * c))), some (on k), x5, some (on (fl k))]) (env2 := [some (on c), some (.sh (.lst (ss.map sideS))), some d2, some (.lst p (mk (fun f => .sh (dicS (Ds f))) (2 * c))), some (on k), x5, some (on (fl k))]) ?_ ?_ rfl ?_
              · exact fun R h => h
              · exact fun R h => ⟨_, atI_mk _ hf', h⟩
              · rw [e2]; exact h
          refine if_eq (decide (x.1 / 2 + y.1 / 2 < 0)) [some (on c), some (.sh (.lst (ss.map sideS))), some d2, some (.lst p (mk (fun f => .sh (dicS (Ds f))) (2 * c))), some (on k), x5, some (on (fl k))] (fun Q h => ?_) (fun h => ?_) (fun h => ?_)
          · simp only [wSeq, wSet, wDrop, wOp, wUn, wB, wCons, wTup, wCB, wRet, wTupO, List.set_cons_zero, List.set_cons_succ]
            refine dget_f (e := k) (d := .sh (dicS (Ds k))) (D := Ds k) (env1 := [some (on c), some (.sh (.lst (ss.map sideS))), some d2, some (.lst p (mk (fun f => .sh (dicS (Ds f))) (2 * c))), some (on k), x5, some (on (fl k))]) (env2 := [some (on c), some (.sh (.lst (ss.map sideS))), some d2, some (.lst p (mk (fun f => .sh (dicS (Ds f))) (2 * c))), some (on k), x5, some (on (fl k))]) ?_ ?_ rfl e1 ?_
            · exact fun R h => ⟨_, atI_mk _ hk', h⟩
            · exact fun R h => h
            refine ⟨_, rfl, div2, ?_⟩
            refine dget_f (e := fl k) (d := .sh (dicS (Ds (fl k)))) (D := Ds (fl k)) (env1 := [some (on c), some (.sh (.lst (ss.map sideS))), some d2, some (.lst p (mk (fun f => .sh (dicS (Ds f))) (2 * c))), some (on k), x5, some (on (fl k))]) (env2 := [some (on c), some (.sh (.lst (ss.map sideS))), some d2, some (.lst p (mk (fun f => .sh (dicS (Ds f))) (2 * c))), some (on k), x5, some (on (fl k))]) ?_ ?_ rfl e2 ?_
            · exact fun R h => ⟨_, atI_mk _ hf', h⟩
            · exact fun R h => h
            exact ⟨_, rfl, div2, h⟩
          · simp only [wSeq, wSet, wDrop, wOp, wUn, wB, wCons, wTup, wCB, wRet, wTupO, List.set_cons_zero, List.set_cons_succ]
            refine dget_f (e := k) (d := .sh (dicS (Ds k))) (D := Ds k) (env1 := [some (on c), some (.sh (.lst (ss.map sideS))), some d2, some (.lst p (mk (fun f => .sh (dicS (Ds f))) (2 * c))), some (on k), x5, some (on (fl k))]) (env2 := [some (on c), some (.sh (.lst (ss.map sideS))), some d2, some (.lst p (mk (fun f => .sh (dicS (Ds f))) (2 * c))), some (on k), x5, some (on (fl k))]) ?_ ?_ rfl e1 ?_
            · exact fun R h => ⟨_, atI_mk _ hk', h⟩
            · exact fun R h => h
            refine ⟨_, rfl, fun a1 => ?_⟩
            refine dget_f (e := fl k) (d := .sh (dicS (Ds (fl k)))) (D := Ds (fl k)) (env1 := [some (on c), some (.sh (.lst (ss.map sideS))), some d2, some (.lst p (mk (fun f => .sh (dicS (Ds f))) (2 * c))), some (on k), x5, some (on (fl k))]) (env2 := [some (on c), some (.sh (.lst (ss.map sideS))), some d2, some (.lst p (mk (fun f => .sh (dicS (Ds f))) (2 * c))), some (on k), x5, some (on (fl k))]) ?_ ?_ rfl e2 ?_
            · exact fun R h => ⟨_, atI_mk _ hf', h⟩
            · exact fun R h => h
            refine ⟨_, rfl, fun a2 => ⟨(by decide : 2 ≤ sizeLine), ?_⟩⟩
            obtain ⟨q1, q2, q3, q4⟩ := (hF k hk').1.1 _ _ e1
            obtain ⟨r1, r2, r3, r4⟩ := (hF _ hf').1.1 _ _ e2
            rw [fl_fl] at r2
            have h := of_decide_eq_true h
            exact hk _ (.inr ⟨a1, a2, x.2, y.2, ⟨q1, q4, k, hk', .inr ⟨r1, r4, q2, r2, by rw [q3, r3]; exact h⟩⟩, rfl⟩)
          · have h := of_decide_eq_false h
            exact no fun x' y' q1 q2 => by
              rw [e1] at q1; rw [e2] at q2
              cases q1; cases q2
              omega
    · obtain ⟨x4, x5, x6, hP, rfl⟩ := hI
      obtain ⟨q, hq⟩ := no_ring_point (ws := ws) (c := c) (D := Ds) hw hr (fun f hf => (hF f hf).1) (fun f hf => (hF f hf).2) (fun f hf => hP f hf)
      refine hk _ (.inl ⟨rfl, q, fun s m => ?_⟩)
      obtain ⟨w, mw, w1, w2, w3⟩ := hh s m
      have := hq w mw
      rw [w1, w2, w3] at this
      exact this
end E8
namespace E8
open PySem PySem.Spec PyProof.Rows L2 E8M
/-! ### what the laws draw -/
theorem mulL {i j : Int} (h : -(2 ^ 60) < i ∧ i < 2 ^ 60) : MulOk i j := .inl (.inl ⟨by omega, by omega⟩)
theorem mulR {i j : Int} (h : -(2 ^ 60) < j ∧ j < 2 ^ 60) : MulOk i j := .inl (.inr ⟨by omega, by omega⟩)
theorem divS {i j : Int} (h : 0 < j) (h1 : j ≤ 8000) : CDivW i j := ⟨h, by
  have : j.natAbs.log2 ≤ j.natAbs := Nat.log2_le_self _
  omega⟩
theorem mod_nat {z m : Int} {n : Nat} (h : m = (n : Int)) (hn : 0 < n) : ∃ f : Nat, z % m = (f : Int) ∧ f < n := by
  subst h
  refine ⟨(z % (n : Int)).toNat, ?_, ?_⟩
  · have := Int.emod_nonneg z (show (n : Int) ≠ 0 by omega); omega
  · have := Int.emod_nonneg z (show (n : Int) ≠ 0 by omega)
    have := Int.emod_lt_of_pos z (show (0 : Int) < n by omega)
    omega
abbrev scrS (ns : List Int) : SD := .scr (ns.map .int)
def intsS (l : List Int) : List SD := l.map .int
def intsO (l : List Int) : List OD := l.map fun x => .sh (.int x)
theorem frz_ints (l : List Int) : frzs (intsO l) = intsS l := by
  unfold intsO intsS
  rw [show (l.map fun x => OD.sh (.int x)) = (l.map SD.int).map OD.sh by rw [List.map_map]; rfl, frzs_sh]
theorem atI_ints {l : List Int} {i : Nat} (h : i < l.length) : ∃ z, atI (l.map SD.int) (i : Int) = some (.int z) := ⟨l[i], atI_nat (by rw [List.getElem?_map, List.getElem?_eq_getElem h]; rfl)⟩
def φ_law_cell : Spec := fun ds k => ∃ (ns : List Int) (n : Nat), n ≤ 100000 ∧ ds = [.sh (scrS ns), on n] ∧ ∀ z, k (oi z) ds
/-- _law_cell -/
def w_law_cell : WS := (wSeq (wIf (wB (wOp (wII fLt) (wFrz 1) (wLenV 0))) (wRet (wIxV 0 (wFrz 1))) wNext)
  (wSeq (wSet 2 (wOp (wII fMul) (wFrz 1) (wC (.int 7919))))
  (wSeq (wIf (wB (wOp (wII fGt) (wLenV 0) (wC (.int 0)))) (wSet 2 (wOp wAdd (wFrz 2) (wOp (wII fMod) (wIxV 0 (wOp (wII fMod) (wFrz 1) (wLenV 0))) (wC (.int 65537))))) wNext)
  (wSeq (wSet 3 (wOp (wII fMod) (wOp (wII fMul) (wFrz 2) (wC (.int 48271))) (wC (.int 65537))))
  (wRet (wOp (wII fMod) (wOp (wII fDiv) (wOp (wII fMul) (wFrz 3) (wOp wAdd (wOp wAdd (wFrz 3) (wOp (wII fMul) (wC (.int 2)) (wFrz 1))) (wC (.int 1)))) (wC (.int 7))) (wC (.int 65521))))))))
abbrev ms_law_cell : List Bool := [false, false]
abbrev n_law_cell : Nat := 4
theorem h_law_cell : ∀ ds κ, φ_law_cell ds κ → lentOk ms_law_cell ds ∧ w_law_cell (endsOf ms_law_cell ds κ) (startE n_law_cell ds) := by
  rintro ds κ ⟨ns, n, hn, rfl, hk⟩
  refine ⟨⟨rfl, rfl, rfl⟩, ?_⟩
  show w_law_cell _ [some (.sh (scrS ns)), some (on n), none, none]
  have el : ((ns.map SD.int).length : Int) = (ns.length : Int) := by rw [List.length_map]
  have fin : ∀ s : Int, (wSeq (wSet 3 (wOp (wII fMod) (wOp (wII fMul) (wFrz 2) (wC (.int 48271))) (wC (.int 65537))))
  (wRet (wOp (wII fMod) (wOp (wII fDiv) (wOp (wII fMul) (wFrz 3) (wOp wAdd (wOp wAdd (wFrz 3) (wOp (wII fMul) (wC (.int 2)) (wFrz 1))) (wC (.int 1)))) (wC (.int 7))) (wC (.int 65521))))) (endsOf ms_law_cell [.sh (scrS ns), on n] κ) [some (.sh (scrS ns)), some (on n), some (oi s), none] := fun s => by
    refine ⟨mulR (by omega), by decide, ?_⟩
    refine ⟨mul2, mulL (by omega), divS (by decide) (by decide), by decide, ?_⟩
    exact hk _
  by_cases c : n < ns.length
  · refine if_t (env' := [some (.sh (scrS ns)), some (on n), none, none]) (fun Q h => ?_) ?_
    · show Q (decide ((n : Int) < ((ns.map SD.int).length : Int))) _
      rw [el, decide_eq_true (by omega)]
      exact h
    · obtain ⟨z, e⟩ := atI_ints c
      exact ⟨_, e, hk z⟩
  · refine if_f (env' := [some (.sh (scrS ns)), some (on n), none, none]) (fun Q h => ?_) ?_
    · show Q (decide ((n : Int) < ((ns.map SD.int).length : Int))) _
      rw [el, decide_eq_false (by omega)]
      exact h
    · refine ⟨mulR (by omega), ?_⟩
      simp only [List.set_cons_zero, List.set_cons_succ]
      unfold wSeq
      by_cases c0 : 0 < ns.length
      · refine if_t (env' := [some (.sh (scrS ns)), some (on n), some (oi (n * 7919)), none]) (fun Q h => ?_) ?_
        · show Q (decide ((0 : Int) < ((ns.map SD.int).length : Int))) _
          rw [el, decide_eq_true (by omega)]
          exact h
        · obtain ⟨z, e⟩ := atI_ints (l := ns) (Nat.mod_lt n c0)
          have em : (n : Int) % ((ns.map SD.int).length : Int) = ((n % ns.length : Nat) : Int) := by rw [el]; omega
          refine ⟨by show (0 : Int) < ((ns.map SD.int).length : Int); rw [el]; omega, .int z, by rw [em]; exact e, by decide, ?_⟩
          exact fin _
      · refine if_f (env' := [some (.sh (scrS ns)), some (on n), some (oi (n * 7919)), none]) (fun Q h => ?_) ?_
        · show Q (decide ((0 : Int) < ((ns.map SD.int).length : Int))) _
          rw [el, decide_eq_false (by omega)]
          exact h
        · exact fin _
abbrev Bnd (x : Int) : Prop := -(10 ^ 60) ≤ x ∧ x ≤ 10 ^ 60
def φ_law_big : Spec := fun ds k => ∃ z : Int, ds = [oi z] ∧ ∀ b, Bnd b → k (oi b) ds
/-- _law_big -/
def w_law_big : WS := (wSeq (wIf (wB (wOp wEq (wOp (wII fMod) (wFrz 0) (wC (.int 4))) (wC (.int 3)))) (wRet (wOp (wII fSub) (wOp (wII fMod) (wOp (wII fDiv) (wFrz 0) (wC (.int 4))) (wOp wAdd (wOp (wII fMul) (wC (.int 2)) (wOp (wII fPow) (wC (.int 10)) (wC (.int 60)))) (wC (.int 1)))) (wOp (wII fPow) (wC (.int 10)) (wC (.int 60))))) wNext)
  (wRet (wOp (wII fSub) (wOp (wII fMod) (wOp (wII fDiv) (wFrz 0) (wC (.int 4))) (wC (.int 21))) (wC (.int 10)))))
abbrev ms_law_big : List Bool := [false]
abbrev n_law_big : Nat := 1
theorem h_law_big : ∀ ds κ, φ_law_big ds κ → lentOk ms_law_big ds ∧ w_law_big (endsOf ms_law_big ds κ) (startE n_law_big ds) := by
  rintro ds κ ⟨z, rfl, hk⟩
  refine ⟨⟨rfl, rfl⟩, ?_⟩
  show w_law_big _ [some (oi z)]
  have ep : (10 : Int) ^ (60 : Int).toNat = 1000000000000000000000000000000000000000000000000000000000000 := by decide +kernel
  refine if_eq (decide (z % 4 = 3)) [some (oi z)] (fun Q h => ?_) (fun h => ?_) (fun h => ?_)
  · exact ⟨by decide, h⟩
  · refine ⟨divS (by decide) (by decide), ⟨by decide, by decide, by decide⟩, mul2, ?_⟩
    refine ⟨by rw [ep]; decide, ⟨by decide, by decide, by decide⟩, ?_⟩
    refine hk _ ?_
    rw [ep]
    constructor <;> omega
  · refine ⟨divS (by decide) (by decide), by decide, ?_⟩
    refine hk _ ?_
    constructor <;> omega
def ptOf (l : List Int) (i : Nat) : Int := l.getD i 0
def φ_law_point : Spec := fun ds k => ∃ (ns : List Int) (i n : Nat), i ≤ 1000 ∧ n ≤ 1000 ∧ ds = [.sh (scrS ns), on i, on n] ∧ ∀ l : List Int, l.length = n → (∀ x ∈ l, Bnd x) → k (.sh (.tup (intsS l))) ds
/-- _law_point -/
def w_law_point : WS := (wRet (wCB wTuple (wCons (wLc (wiR1 (wCons (wFrz 2) wNil)) (wgName 3) wYes (wCall φ_law_big [false] [] [none] (wCons (wCall φ_law_cell [false, false] [] [none, none] (wCons (wFrz 0) (wCons (wOp wAdd (wFrz 1) (wFrz 3)) wNil))) wNil)) [3]) wNil)))
abbrev ms_law_point : List Bool := [false, false, false]
abbrev n_law_point : Nat := 4
theorem h_law_point : ∀ ds κ, φ_law_point ds κ → lentOk ms_law_point ds ∧ w_law_point (endsOf ms_law_point ds κ) (startE n_law_point ds) := by
  rintro ds κ ⟨ns, i, n, hi, hn, rfl, hk⟩
  refine ⟨⟨rfl, rfl, rfl, rfl⟩, ?_⟩
  show w_law_point _ [some (.sh (scrS ns)), some (on i), some (on n), none]
  refine ⟨⟨by omega, by omega⟩, ?_⟩
  refine ⟨by rw [rng_len]; exact size_ok (by omega), ?_⟩
  refine lc_ind (fun k acc env => ∃ l : List Int, l.length = k ∧ (∀ x ∈ l, Bnd x) ∧ acc = intsO l ∧ env = [some (.sh (scrS ns)), some (on i), some (on n), none]) ⟨[], rfl, by simp, rfl, rfl⟩ (fun k d acc env e hI nxt hn' => ?_) (fun ys env hI p => ?_)
  · obtain ⟨l, hl, hb, rfl, rfl⟩ := hI
    obtain ⟨hk', rfl⟩ := rng_at rfl e
    refine ⟨ns, i + k, by omega, rfl, fun z => ?_⟩
    refine ⟨z, rfl, fun b hb' => ?_⟩
    refine hn' _ _ ⟨l ++ [b], by rw [List.length_append, hl]; rfl, fun x m => ?_, by unfold intsO; rw [List.map_append]; rfl, rfl⟩
    rcases List.mem_append.mp m with m | m
    · exact hb x m
    · rw [List.mem_singleton.mp m]; exact hb'
  · obtain ⟨l, hl, hb, rfl, rfl⟩ := hI
    show κ (.sh (.tup (frzs (intsO l)))) _
    rw [frz_ints]
    exact hk l (by rw [hl, rng_len]; omega) hb
def φ_law_worth : Spec := fun ds k => ∃ (l : List Int) (f : Nat), f < 2 * l.length ∧ ds = [.sh (.tup (intsS l)), on f] ∧ k (oi (worth (ptOf l) f)) ds
/-- _law_worth -/
def w_law_worth : WS := (wRet (wOp (wII fMul) (wIxV 0 (wOp (wII fDiv) (wFrz 1) (wC (.int 2)))) (wOp (wII fSub) (wC (.int 1)) (wOp (wII fMul) (wOp (wII fMod) (wFrz 1) (wC (.int 2))) (wC (.int 2))))))
abbrev ms_law_worth : List Bool := [false, false]
abbrev n_law_worth : Nat := 2
theorem h_law_worth : ∀ ds κ, φ_law_worth ds κ → lentOk ms_law_worth ds ∧ w_law_worth (endsOf ms_law_worth ds κ) (startE n_law_worth ds) := by
  rintro ds κ ⟨l, f, hf, rfl, hk⟩
  refine ⟨⟨rfl, rfl, rfl⟩, ?_⟩
  show w_law_worth _ [some (.sh (.tup (intsS l))), some (on f)]
  have e : atI (intsS l) ((f : Int) / 2) = some (.int (ptOf l (f / 2))) := by
    rw [show (f : Int) / 2 = ((f / 2 : Nat) : Int) by omega]
    refine atI_nat ?_
    unfold intsS ptOf
    rw [List.getElem?_map, List.getD_eq_getElem?_getD, List.getElem?_eq_getElem (by omega)]
    rfl
  refine ⟨div2, _, e, by decide, mulR (by decide), mulR (by omega), ?_⟩
  have ew : ptOf l (f / 2) * (1 - (f : Int) % 2 * 2) = worth (ptOf l) f := by
    unfold worth
    split
    · rw [show (1 : Int) - (f : Int) % 2 * 2 = -1 by omega]; omega
    · rw [show (1 : Int) - (f : Int) % 2 * 2 = 1 by omega]; omega
  rw [← ew] at hk
  exact hk
def φ_law_flip : Spec := fun ds k => ∃ f : Nat, ds = [on f] ∧ k (on (fl f)) ds
/-- _law_flip -/
def w_law_flip : WS := (wRet (wOp (wII fSub) (wOp wAdd (wFrz 0) (wC (.int 1))) (wOp (wII fMul) (wOp (wII fMod) (wFrz 0) (wC (.int 2))) (wC (.int 2)))))
abbrev ms_law_flip : List Bool := [false]
abbrev n_law_flip : Nat := 1
theorem h_law_flip : ∀ ds κ, φ_law_flip ds κ → lentOk ms_law_flip ds ∧ w_law_flip (endsOf ms_law_flip ds κ) (startE n_law_flip ds) := by
  rintro ds κ ⟨f, rfl, hk⟩
  refine ⟨⟨rfl, rfl⟩, ?_⟩
  refine ⟨by decide, mulR (by decide), ?_⟩
  have ef : (f : Int) + 1 - (f : Int) % 2 * 2 = ((fl f : Nat) : Int) := by unfold fl; split <;> omega
  show κ (oi ((f : Int) + 1 - (f : Int) % 2 * 2)) _
  rw [ef]
  exact hk
def φ_law_whole : Spec := fun ds k => ∃ z : Int, ds = [oi z] ∧ k (.sh (.bl true)) ds
/-- _law_whole -/
def w_law_whole : WS := (wRet (wAndV (wCB wIsi (wCons (wFrz 0) (wCons (wC (.ty "int")) wNil))) (wNotV (wCB wIsi (wCons (wFrz 0) (wCons (wC (.ty "bool")) wNil))))))
abbrev ms_law_whole : List Bool := [false]
abbrev n_law_whole : Nat := 1
theorem h_law_whole : ∀ ds κ, φ_law_whole ds κ → lentOk ms_law_whole ds ∧ w_law_whole (endsOf ms_law_whole ds κ) (startE n_law_whole ds) := by
  rintro ds κ ⟨z, rfl, hk⟩
  refine ⟨⟨rfl, rfl⟩, ?_⟩
  exact ⟨rfl, rfl, hk⟩
end E8
namespace E8
open PySem PySem.Spec PyProof.Rows L2 E8M
theorem frz_sh1 (d : SD) : frz (.sh d) = d := rfl
theorem cutL_map {α β : Type} (f : α → β) (xs : List α) (lo hi : Option Int) : cutL (xs.map f) lo hi = (cutL xs lo hi).map f := by
  unfold cutL
  rw [List.length_map, List.map_take, List.map_drop]
theorem cutL_len {α : Type} (xs : List α) (lo hi : Option Int) : (cutL xs lo hi).length ≤ xs.length := by
  unfold cutL
  rw [List.length_take, List.length_drop]
  omega
theorem cutL_mem {α : Type} {xs : List α} {lo hi : Option Int} {x : α} (h : x ∈ cutL xs lo hi) : x ∈ xs := List.mem_of_mem_drop (List.mem_of_mem_take h)
def φ_law_cells : Spec := fun ds k => ∃ (ns : List Int) (i n : Nat), ns.length ≤ 63 ∧ i ≤ 1000 ∧ ds = [.sh (scrS ns), on i, on n] ∧ ∀ a l, 4 ≤ l.length → l.length ≤ 63 → k (.lst a (intsO l)) ds
/-- _law_cells -/
def w_law_cells : WS := (wSeq (wSet 3 (wSl (wFrz 0) (woSome (wFrz 1)) (woSome (wOp wAdd (wFrz 1) (wFrz 2)))))
  (wSeq (wIf (wB (wOp (wII fLt) (wLenV 3) (wC (.int 4)))) (wSet 3 (wLc (wiR1 (wCons (wOp wAdd (wC (.int 4)) (wOp (wII fMod) (wCall φ_law_cell [false, false] [] [none, none] (wCons (wFrz 0) (wCons (wC (.int 1)) wNil))) (wC (.int 5)))) wNil)) (wgName 4) wYes (wCall φ_law_cell [false, false] [] [none, none] (wCons (wFrz 0) (wCons (wOp wAdd (wFrz 1) (wFrz 4)) wNil))) [4])) wNext)
  (wRet (wMove 3))))
abbrev ms_law_cells : List Bool := [false, false, false]
abbrev n_law_cells : Nat := 5
theorem intsO_map (l : List Int) : (l.map SD.int).map OD.sh = intsO l := by rw [List.map_map]; rfl
theorem h_law_cells : ∀ ds κ, φ_law_cells ds κ → lentOk ms_law_cells ds ∧ w_law_cells (endsOf ms_law_cells ds κ) (startE n_law_cells ds) := by
  rintro ds κ ⟨ns, i, n, hl, hi, rfl, hk⟩
  refine ⟨⟨rfl, rfl, rfl, rfl⟩, ?_⟩
  show w_law_cells _ [some (.sh (scrS ns)), some (on i), some (on n), none, none]
  refine fun p => ?_
  simp only [List.set_cons_zero, List.set_cons_succ]
  rw [cutL_map, intsO_map]
  have h63 := cutL_len ns (some (i : Int)) (some ((i : Int) + n))
  generalize cutL ns (some (i : Int)) (some ((i : Int) + n)) = l at *
  have el : ((intsO l).length : Int) = (l.length : Int) := by unfold intsO; rw [List.length_map]
  by_cases c : l.length < 4
  · refine if_t (env' := [some (.sh (scrS ns)), some (on i), some (on n), some (.lst p (intsO l)), none]) (fun Q h => ?_) ?_
    · show Q (decide (((intsO l).length : Int) < 4)) _
      rw [el, decide_eq_true (by omega)]
      exact h
    · refine ⟨ns, 1, by decide, rfl, fun z => ?_⟩
      have hz := Int.emod_nonneg z (show (5 : Int) ≠ 0 by decide)
      have hz2 := Int.emod_lt_of_pos z (show (0 : Int) < 5 by decide)
      refine ⟨by decide, ⟨by omega, by omega⟩, ?_⟩
      refine ⟨by rw [rng_len]; exact size_ok (by omega), ?_⟩
      have er : (rng 0 (4 + z % 5)).length = (4 + z % 5).toNat := by rw [rng_len]; omega
      refine lc_ind (fun k acc env => ∃ l2 : List Int, l2.length = k ∧ acc = intsO l2 ∧ env = [some (.sh (scrS ns)), some (on i), some (on n), some (.lst p (intsO l)), none]) ⟨[], rfl, rfl, rfl⟩ (fun k d acc env e hI nxt hn' => ?_) (fun ys env hI p2 => ?_)
      · obtain ⟨l2, h2, rfl, rfl⟩ := hI
        obtain ⟨hk', rfl⟩ := rng_at (n := (4 + z % 5).toNat) (by omega) e
        refine ⟨ns, i + k, by omega, rfl, fun z2 => ?_⟩
        exact hn' _ _ ⟨l2 ++ [z2], by rw [List.length_append, h2]; rfl, by unfold intsO; rw [List.map_append]; rfl, rfl⟩
      · obtain ⟨l2, h2, rfl, rfl⟩ := hI
        exact hk p2 l2 (by omega) (by omega)
  · refine if_f (env' := [some (.sh (scrS ns)), some (on i), some (on n), some (.lst p (intsO l)), none]) (fun Q h => ?_) ?_
    · show Q (decide (((intsO l).length : Int) < 4)) _
      rw [el, decide_eq_false (by omega)]
      exact h
    · exact hk p l (by omega) (by omega)
def sidesO (ss : List Side) : List OD := ss.map fun s => .sh (sideS s)
theorem frz_sides (ss : List Side) : frzs (sidesO ss) = ss.map sideS := by
  unfold sidesO
  rw [show (ss.map fun s => OD.sh (sideS s)) = (ss.map sideS).map OD.sh by rw [List.map_map]; rfl, frzs_sh]
theorem sidesO_len (ss : List Side) : (sidesO ss).length = ss.length := List.length_map _
theorem sidesO_snoc (ss : List Side) (s : Side) : sidesO ss ++ [.sh (sideS s)] = sidesO (ss ++ [s]) := by unfold sidesO; rw [List.map_append]; rfl
def φ_law_sides : Spec := fun ds k => ∃ (l pt : List Int) (c : Nat) (o : Int), l.length ≤ 1000 ∧ 1 ≤ c ∧ c ≤ 10 ∧ c ≤ pt.length ∧ o ≤ 0 ∧ ds = [.sh (.lst (intsS l)), on c, .sh (.tup (intsS pt)), oi o] ∧ ∀ a ss, ss.length = l.length → (∀ s ∈ ss, s.ok (2 * c) ∧ worth (ptOf pt) s.f + worth (ptOf pt) s.g + o ≤ s.c) → k (.lst a (sidesO ss)) ds
/-- _law_sides -/
def w_law_sides : WS := (wSeq (wSet 4 (wLst wNil))
  (wSeq (wFor (wiL (wFrz 0)) (wgName 5)
  (wSeq (wSet 6 (wOp (wII fMod) (wFrz 5) (wOp (wII fMul) (wC (.int 2)) (wFrz 1))))
  (wSeq (wSet 7 (wOp (wII fMod) (wOp (wII fDiv) (wFrz 5) (wOp (wII fMul) (wC (.int 2)) (wFrz 1))) (wOp (wII fMul) (wC (.int 2)) (wFrz 1))))
  (wSeq (wSet 8 (wOp (wII fDiv) (wFrz 5) (wOp (wII fMul) (wOp (wII fMul) (wC (.int 4)) (wFrz 1)) (wFrz 1))))
  (wSeq (wSet 9 (wOp wAdd (wOp (wII fMod) (wFrz 8) (wC (.int 4))) (wFrz 3)))
  (wSeq (wIf (wB (wOp wEq (wOp (wII fMod) (wOp (wII fDiv) (wFrz 8) (wC (.int 4))) (wC (.int 5))) (wC (.int 4)))) (wSet 9 (wOp (wII fMod) (wOp (wII fDiv) (wFrz 8) (wC (.int 20))) (wOp (wII fPow) (wC (.int 10)) (wC (.int 30))))) wNext)
  (wDrop (wApp (wbV 4) (wTup (wCons (wFrz 6) (wCons (wFrz 7) (wCons (wOp wAdd (wOp wAdd (wCall φ_law_worth [false, false] [] [none, none] (wCons (wFrz 2) (wCons (wFrz 6) wNil))) (wCall φ_law_worth [false, false] [] [none, none] (wCons (wFrz 2) (wCons (wFrz 7) wNil)))) (wFrz 9)) wNil))))))))))))
  (wRet (wMove 4))))
abbrev ms_law_sides : List Bool := [false, false, false, false]
abbrev n_law_sides : Nat := 10
theorem h_law_sides : ∀ ds κ, φ_law_sides ds κ → lentOk ms_law_sides ds ∧ w_law_sides (endsOf ms_law_sides ds κ) (startE n_law_sides ds) := by
  rintro ds κ ⟨l, pt, c, o, hl, hc1, hc, hp, ho, rfl, hk⟩
  refine ⟨⟨rfl, rfl, rfl, rfl, rfl⟩, ?_⟩
  show w_law_sides _ [some (.sh (.lst (intsS l))), some (on c), some (.sh (.tup (intsS pt))), some (oi o), none, none, none, none, none, none]
  refine ⟨Nat.zero_le _, fun a => ?_⟩
  simp only [List.set_cons_zero, List.set_cons_succ]
  have e2 : (2 : Int) * (c : Int) = ((2 * c : Nat) : Int) := by omega
  have hcc : (4 : Int) * (c : Int) * (c : Int) = ((4 * c * c : Nat) : Int) := by simp [Int.natCast_mul]
  have hcl : 4 * c * c ≤ 8000 := Nat.le_trans (Nat.mul_le_mul (Nat.mul_le_mul (Nat.le_refl 4) hc) hc) (by decide)
  have hc0 : 0 < 4 * c * c := Nat.mul_pos (by omega) (by omega)
  have ep : (10 : Int) ^ (30 : Int).toNat = 1000000000000000000000000000000 := by decide +kernel
  refine loop_ind (fun k env => ∃ ss x5 x6 x7 x8 x9, ss.length = k ∧ (∀ s ∈ ss, s.ok (2 * c) ∧ worth (ptOf pt) s.f + worth (ptOf pt) s.g + o ≤ s.c) ∧ env = [some (.sh (.lst (intsS l))), some (on c), some (.sh (.tup (intsS pt))), some (oi o), some (.lst a (sidesO ss)), x5, x6, x7, x8, x9]) ⟨[], none, none, none, none, none, rfl, by simp, rfl⟩ (fun k d env e hI nxt hn' => ?_) (fun env hI => ?_)
  · obtain ⟨ss, x5, x6, x7, x8, x9, hs, hg, rfl⟩ := hI
    obtain ⟨z, hz, rfl⟩ := map_at e
    have hk' : k < l.length := (List.getElem?_eq_some_iff.mp hz).1
    obtain ⟨f, ef, hf⟩ := mod_nat (z := z) e2 (by omega)
    obtain ⟨g, eg, hg'⟩ := mod_nat (z := z / (2 * (c : Int))) e2 (by omega)
    have st : ∀ w : Int, o ≤ w → wDrop (wApp (wbV 4) (wTup (wCons (wFrz 6) (wCons (wFrz 7) (wCons (wOp wAdd (wOp wAdd (wCall φ_law_worth [false, false] [] [none, none] (wCons (wFrz 2) (wCons (wFrz 6) wNil))) (wCall φ_law_worth [false, false] [] [none, none] (wCons (wFrz 2) (wCons (wFrz 7) wNil)))) (wFrz 9)) wNil)))))
        { nx := nxt, rt := (endsOf ms_law_sides [.sh (.lst (intsS l)), on c, .sh (.tup (intsS pt)), oi o] κ).rt, bk := fun _ => True, ct := fun _ => True }
        [some (.sh (.lst (intsS l))), some (on c), some (.sh (.tup (intsS pt))), some (oi o), some (.lst a (sidesO ss)), some (oi z), some (on f), some (on g), some (oi (z / (4 * (c : Int) * (c : Int)))), some (oi w)] := fun w hw => by
      refine ⟨_, rfl, rfl, _, rfl, pt, f, by omega, rfl, pt, g, by omega, rfl, (by decide : 3 ≤ sizeLine), _, rfl, rfl, by rw [sidesO_len]; exact size_lt (by omega), ?_⟩
      refine hn' _ ⟨ss ++ [⟨f, g, worth (ptOf pt) f + worth (ptOf pt) g + w⟩], _, _, _, _, _, by rw [List.length_append, hs]; rfl, fun s m => ?_, by rw [← sidesO_snoc]; rfl⟩
      rcases List.mem_append.mp m with m | m
      · exact hg s m
      · rw [List.mem_singleton.mp m]
        exact ⟨⟨hf, hg'⟩, by show worth (ptOf pt) f + worth (ptOf pt) g + o ≤ worth (ptOf pt) f + worth (ptOf pt) g + w; omega⟩
    (try simp only [List.set_cons_zero, List.set_cons_succ, frz_sh1])
    refine ⟨mul2, by omega, ?_⟩
    rw [ef]
    (try simp only [List.set_cons_zero, List.set_cons_succ, frz_sh1])
    refine ⟨mul2, divS (by omega) (by omega), mul2, by omega, ?_⟩
    rw [eg]
    (try simp only [List.set_cons_zero, List.set_cons_succ, frz_sh1])
    refine ⟨mulL (by decide), mulR (by omega), divS (by omega) (by omega), ?_⟩
    (try simp only [List.set_cons_zero, List.set_cons_succ, frz_sh1])
    refine ⟨by decide, ?_⟩
    refine frz_v rfl ?_
    (try simp only [List.set_cons_zero, List.set_cons_succ, frz_sh1])
    refine add_ii ?_
    (try simp only [List.set_cons_zero, List.set_cons_succ, frz_sh1])
    refine if_eq (decide (z / (4 * (c : Int) * (c : Int)) / 4 % 5 = 4)) [some (.sh (.lst (intsS l))), some (on c), some (.sh (.tup (intsS pt))), some (oi o), some (.lst a (sidesO ss)), some (oi z), some (on f), some (on g), some (oi (z / (4 * (c : Int) * (c : Int)))), some (oi (z / (4 * (c : Int) * (c : Int)) % 4 + o))] (fun Q h => ?_) (fun h => ?_) (fun h => ?_)
    · exact ⟨divS (by decide) (by decide), by decide, h⟩
    · refine ⟨divS (by decide) (by decide), ⟨by decide, by decide, by decide⟩, by rw [ep]; decide, ?_⟩
      rw [ep]
      exact st _ (by omega)
    · exact st _ (by omega)
  · obtain ⟨ss, x5, x6, x7, x8, x9, hs, hg, rfl⟩ := hI
    exact hk a ss (by rw [hs]; unfold intsS; rw [List.length_map]) hg
end E8
namespace E8
open PySem PySem.Spec PyProof.Rows L2 E8M
theorem cut_take {α : Type} (xs : List α) (k : Nat) : cutL xs none (some (k : Int)) = xs.take k := by
  unfold cutL
  rw [HT.sIx_none, HT.sIx_nat, List.drop_zero, Nat.sub_zero]
  rcases Nat.le_total k xs.length with h | h
  · rw [Nat.min_eq_left h]
  · rw [Nat.min_eq_right h, List.take_length, List.take_of_length_le h]
theorem cut_drop {α : Type} (xs : List α) (k : Nat) : cutL xs (some (k : Int)) none = xs.drop k := by
  unfold cutL
  rw [HT.sIx_none, HT.sIx_nat]
  rcases Nat.le_total k xs.length with h | h
  · rw [Nat.min_eq_left h, List.take_of_length_le (by rw [List.length_drop]; omega)]
  · rw [Nat.min_eq_right h, List.drop_length, List.drop_of_length_le h, List.take_nil]
theorem c_v {d : SD} {env : Env} {Q : OD → Env → Prop} (q : Q (.sh d) env) : wC d env Q := q
theorem for_L {wa : WE} {g : WG} {body : WS} {q : QE} {env env1 : Env} {xs : List SD} (h : ∀ R : OD → Env → Prop, (∀ d, frz d = .lst xs → R d env1) → wa env R) (k : wLoop g body xs q env1) : wFor (wiL wa) g body q env := h _ fun d e => by
  show match frz d with
    | .lst xs => wLoop g body xs q env1
    | .scr xs => wLoop g body xs q env1
    | _ => False
  rw [e]
  exact k
def φ_law_between : Spec := fun ds k => ∃ (l pt : List Int) (c : Nat), l.length ≤ 1000 ∧ 1 ≤ c ∧ c ≤ 10 ∧ c ≤ pt.length ∧ ds = [.sh (.lst (intsS l)), on c, .sh (.tup (intsS pt))] ∧ ∀ a ss, ss.length = l.length → (∀ s ∈ ss, s.ok (2 * c)) → k (.lst a (sidesO ss)) ds
/-- _law_between -/
def w_law_between : WS := (wSeq (wSet 3 (wLst wNil))
  (wSeq (wFor (wiL (wFrz 0)) (wgName 4)
  (wSeq (wSet 5 (wOp (wII fMod) (wFrz 4) (wOp (wII fMul) (wC (.int 2)) (wFrz 1))))
  (wSeq (wSet 6 (wOp (wII fMod) (wOp (wII fDiv) (wFrz 4) (wOp (wII fMul) (wC (.int 2)) (wFrz 1))) (wOp (wII fMul) (wC (.int 2)) (wFrz 1))))
  (wSeq (wIf (wB (wOp wEq (wOp (wII fDiv) (wFrz 5) (wC (.int 2))) (wOp (wII fDiv) (wFrz 6) (wC (.int 2))))) (wSet 6 (wOp (wII fMod) (wOp wAdd (wFrz 6) (wC (.int 2))) (wOp (wII fMul) (wC (.int 2)) (wFrz 1)))) wNext)
  (wDrop (wApp (wbV 3) (wTup (wCons (wFrz 5) (wCons (wFrz 6) (wCons (wOp (wII fDiv) (wOp wAdd (wCall φ_law_worth [false, false] [] [none, none] (wCons (wFrz 2) (wCons (wFrz 5) wNil))) (wCall φ_law_worth [false, false] [] [none, none] (wCons (wFrz 2) (wCons (wFrz 6) wNil)))) (wC (.int 2))) wNil))))))))))
  (wRet (wMove 3))))
abbrev ms_law_between : List Bool := [false, false, false]
abbrev n_law_between : Nat := 7
theorem h_law_between : ∀ ds κ, φ_law_between ds κ → lentOk ms_law_between ds ∧ w_law_between (endsOf ms_law_between ds κ) (startE n_law_between ds) := by
  rintro ds κ ⟨l, pt, c, hl, hc1, hc, hp, rfl, hk⟩
  refine ⟨⟨rfl, rfl, rfl, rfl⟩, ?_⟩
  show w_law_between _ [some (.sh (.lst (intsS l))), some (on c), some (.sh (.tup (intsS pt))), none, none, none, none]
  refine ⟨Nat.zero_le _, fun a => ?_⟩
  simp only [List.set_cons_zero, List.set_cons_succ]
  have e2 : (2 : Int) * (c : Int) = ((2 * c : Nat) : Int) := by omega
  refine loop_ind (fun k env => ∃ ss x5 x6 x7, ss.length = k ∧ (∀ s ∈ ss, s.ok (2 * c)) ∧ env = [some (.sh (.lst (intsS l))), some (on c), some (.sh (.tup (intsS pt))), some (.lst a (sidesO ss)), x5, x6, x7]) ⟨[], none, none, none, rfl, by simp, rfl⟩ (fun k d env e hI nxt hn' => ?_) (fun env hI => ?_)
  · obtain ⟨ss, x5, x6, x7, hs, hg, rfl⟩ := hI
    obtain ⟨z, hz, rfl⟩ := map_at e
    have hk' : k < l.length := (List.getElem?_eq_some_iff.mp hz).1
    obtain ⟨f, ef, hf⟩ := mod_nat (z := z) e2 (by omega)
    obtain ⟨g, eg, hg'⟩ := mod_nat (z := z / (2 * (c : Int))) e2 (by omega)
    have st : ∀ g : Nat, g < 2 * c → wDrop (wApp (wbV 3) (wTup (wCons (wFrz 5) (wCons (wFrz 6) (wCons (wOp (wII fDiv) (wOp wAdd (wCall φ_law_worth [false, false] [] [none, none] (wCons (wFrz 2) (wCons (wFrz 5) wNil))) (wCall φ_law_worth [false, false] [] [none, none] (wCons (wFrz 2) (wCons (wFrz 6) wNil)))) (wC (.int 2))) wNil)))))
        { nx := nxt, rt := (endsOf ms_law_between [.sh (.lst (intsS l)), on c, .sh (.tup (intsS pt))] κ).rt, bk := fun _ => True, ct := fun _ => True }
        [some (.sh (.lst (intsS l))), some (on c), some (.sh (.tup (intsS pt))), some (.lst a (sidesO ss)), some (oi z), some (on f), some (on g)] := fun g hg2 => by
      refine ⟨_, rfl, rfl, _, rfl, pt, f, by omega, rfl, pt, g, by omega, rfl, div2, (by decide : 3 ≤ sizeLine), _, rfl, rfl, by rw [sidesO_len]; exact size_lt (by omega), ?_⟩
      refine hn' _ ⟨ss ++ [⟨f, g, (worth (ptOf pt) f + worth (ptOf pt) g) / 2⟩], _, _, _, by rw [List.length_append, hs]; rfl, fun s m => ?_, by rw [← sidesO_snoc]; rfl⟩
      rcases List.mem_append.mp m with m | m
      · exact hg s m
      · rw [List.mem_singleton.mp m]
        exact ⟨hf, hg2⟩
    (try simp only [List.set_cons_zero, List.set_cons_succ, frz_sh1])
    refine ⟨mul2, by omega, ?_⟩
    rw [ef]
    (try simp only [List.set_cons_zero, List.set_cons_succ, frz_sh1])
    refine ⟨mul2, divS (by omega) (by omega), mul2, by omega, ?_⟩
    rw [eg]
    (try simp only [List.set_cons_zero, List.set_cons_succ, frz_sh1])
    unfold wSeq
    refine if_eq (decide ((f : Int) / 2 = (g : Int) / 2)) [some (.sh (.lst (intsS l))), some (on c), some (.sh (.tup (intsS pt))), some (.lst a (sidesO ss)), some (oi z), some (on f), some (on g)] (fun Q h => ?_) (fun h => ?_) (fun h => ?_)
    · exact ⟨div2, div2, h⟩
    · obtain ⟨g2, eg2, hg2⟩ := mod_nat (z := (g : Int) + 2) e2 (by omega)
      refine ⟨mul2, by omega, ?_⟩
      rw [eg2]
      exact st g2 hg2
    · exact st g hg'
  · obtain ⟨ss, x5, x6, x7, hs, hg, rfl⟩ := hI
    exact hk a ss (by rw [hs]; unfold intsS; rw [List.length_map]) hg
/-! ### a chain and its opposite -/
def φ_law_chain : Spec := fun ds k => ∃ (l pt : List Int) (c : Nat), 1 ≤ l.length ∧ l.length ≤ 500 ∧ 1 ≤ c ∧ c ≤ 10 ∧ c ≤ pt.length ∧ ds = [.sh (.lst (intsS l)), on c, .sh (.tup (intsS pt))] ∧ ∀ (a : Addr) (ss : List Side), ss.length ≤ 1 + l.length → (∀ s ∈ ss, s.ok (2 * c)) → (∀ q, ¬ E8M.Meets ss q) → k (.lst a (sidesO ss)) ds
/-- _law_chain -/
def w_law_chain : WS := (wSeq (wSet 3 (wLst wNil))
  (wSeq (wSet 4 (wOp (wII fMod) (wOp (wII fDiv) (wIxV 0 (wC (.int 0))) (wC (.int 7))) (wOp (wII fMul) (wC (.int 2)) (wFrz 1))))
  (wSeq (wSet 5 (wC (.int 0)))
  (wSeq (wFor (wiL (wSl (wFrz 0) woNone (woSome (wC (.int 6))))) (wgName 6)
  (wSeq (wSet 7 (wOp (wII fMod) (wFrz 6) (wOp (wII fMul) (wC (.int 2)) (wFrz 1))))
  (wSeq (wDrop (wApp (wbV 3) (wTup (wCons (wFrz 4) (wCons (wFrz 7) (wCons (wOp (wII fSub) (wOp wAdd (wOp wAdd (wCall φ_law_worth [false, false] [] [none, none] (wCons (wFrz 2) (wCons (wFrz 4) wNil))) (wCall φ_law_worth [false, false] [] [none, none] (wCons (wFrz 2) (wCons (wFrz 7) wNil)))) (wOp (wII fMod) (wOp (wII fDiv) (wFrz 6) (wC (.int 8))) (wC (.int 5)))) (wC (.int 2))) wNil))))))
  (wSeq (wSet 5 (wOp wAdd (wFrz 5) (wOp wIx (wIxV 3 (wOp (wII fSub) (wLenV 3) (wC (.int 1)))) (wC (.int 2)))))
  (wSet 4 (wCall φ_law_flip [false] [] [none] (wCons (wFrz 7) wNil)))))))
  (wSeq (wDrop (wApp (wbV 3) (wTup (wCons (wCall φ_law_flip [false] [] [none] (wCons (wOp wIx (wIxV 3 (wC (.int 0))) (wC (.int 0))) wNil)) (wCons (wFrz 4) (wCons (wOp (wII fSub) (wUn wNeg (wFrz 5)) (wC (.int 1))) wNil))))))
  (wRet (wMove 3)))))))
abbrev ms_law_chain : List Bool := [false, false, false]
abbrev n_law_chain : Nat := 8
theorem atI_last {ss : List Side} {s : Side} : atI (sidesO (ss ++ [s])) (((sidesO (ss ++ [s])).length : Int) - 1) = some (.sh (sideS s)) := by
  rw [sidesO_len, List.length_append, show (((ss.length + [s].length : Nat) : Int) - 1) = (ss.length : Int) by simp]
  refine atI_nat ?_
  rw [← sidesO_snoc, List.getElem?_append_right (by rw [sidesO_len]; omega), sidesO_len, Nat.sub_self]
  rfl
theorem h_law_chain : ∀ ds κ, φ_law_chain ds κ → lentOk ms_law_chain ds ∧ w_law_chain (endsOf ms_law_chain ds κ) (startE n_law_chain ds) := by
  rintro ds κ ⟨l, pt, c, hl, hl5, hc1, hc, hp, rfl, hk⟩
  refine ⟨⟨rfl, rfl, rfl, rfl⟩, ?_⟩
  show w_law_chain _ [some (.sh (.lst (intsS l))), some (on c), some (.sh (.tup (intsS pt))), none, none, none, none, none]
  have e2 : (2 : Int) * (c : Int) = ((2 * c : Nat) : Int) := by omega
  refine ⟨Nat.zero_le _, fun a => ?_⟩
  (try simp only [List.set_cons_zero, List.set_cons_succ, frz_sh1])
  obtain ⟨z0, e0⟩ := atI_ints (l := l) (i := 0) (by omega)
  obtain ⟨b0, eb, hb0⟩ := mod_nat (z := z0 / 7) e2 (by omega)
  refine ⟨_, e0, divS (by decide) (by decide), mul2, by omega, ?_⟩
  rw [eb]
  (try simp only [List.set_cons_zero, List.set_cons_succ, frz_sh1])
  have hl6 : (l.take 6).length ≤ l.length := by rw [List.length_take]; omega
  have hl0 : 1 ≤ (l.take 6).length := by rw [List.length_take]; omega
  unfold wSeq wSet
  refine c_v ?_
  (try simp only [List.set_cons_zero, List.set_cons_succ, frz_sh1])
  refine for_L (xs := intsS (l.take 6)) (env1 := [some (.sh (.lst (intsS l))), some (on c), some (.sh (.tup (intsS pt))), some (.lst a (sidesO [])), some (on b0), some (oi 0), none, none]) (fun R h => ?_) ?_
  · refine fun p => h _ ?_
    show SD.lst (frzs ((cutL (intsS l) none (some ((6 : Nat) : Int))).map OD.sh)) = _
    rw [cut_take, frzs_sh]
    unfold intsS
    rw [List.map_take]
  generalize l.take 6 = m at *
  refine loop_ind (fun k env => ∃ ss b num x6 x7, ss.length = k ∧ (∀ s ∈ ss, s.ok (2 * c)) ∧ b < 2 * c ∧ (∀ q, E8M.Meets ss q → worth q b0 - worth q b ≤ num) ∧ (∀ s, ss[0]? = some s → s.f = b0) ∧ (ss = [] → b = b0) ∧ env = [some (.sh (.lst (intsS l))), some (on c), some (.sh (.tup (intsS pt))), some (.lst a (sidesO ss)), some (on b), some (oi num), x6, x7])
    ⟨[], b0, 0, none, none, rfl, by simp, hb0, fun q _ => by omega, by simp, fun _ => rfl, rfl⟩ (fun k d env e hI nxt hn' => ?_) (fun env hI => ?_)
  · obtain ⟨ss, b, num, x6, x7, hs, hok, hb, hm, h0, h00, rfl⟩ := hI
    obtain ⟨z, hz, rfl⟩ := map_at e
    have hk' : k < m.length := (List.getElem?_eq_some_iff.mp hz).1
    obtain ⟨g, eg, hg⟩ := mod_nat (z := z) e2 (by omega)
    (try simp only [List.set_cons_zero, List.set_cons_succ, frz_sh1])
    refine ⟨mul2, by omega, ?_⟩
    rw [eg]
    (try simp only [List.set_cons_zero, List.set_cons_succ, frz_sh1])
    refine ⟨_, rfl, rfl, _, rfl, pt, b, by omega, rfl, pt, g, by omega, rfl, divS (by decide) (by decide), by decide, (by decide : 3 ≤ sizeLine), _, rfl, rfl, by rw [sidesO_len]; exact Nat.lt_of_le_of_lt (m := 1000) (by omega) (by decide), ?_⟩
    (try simp only [List.set_cons_zero, List.set_cons_succ, frz_sh1])
    generalize hw : worth (ptOf pt) b + worth (ptOf pt) g + z / 8 % 5 - 2 = num1
    have e3 : atI (sidesO ss ++ [.sh (sideS ⟨b, g, num1⟩)]) (((sidesO ss ++ [OD.sh (sideS ⟨b, g, num1⟩)]).length : Int) - 1) = some (.sh (sideS ⟨b, g, num1⟩)) := by
      rw [sidesO_snoc]; exact atI_last
    refine ⟨sideS ⟨b, g, num1⟩, ?_, _, rfl, add_ii ?_⟩
    · rw [← hw] at e3 ⊢; exact e3
    (try simp only [List.set_cons_zero, List.set_cons_succ, frz_sh1])
    refine ⟨g, rfl, ?_⟩
    refine hn' _ ⟨ss ++ [⟨b, g, num1⟩], fl g, num + num1, some (oi z), some (on g), by rw [List.length_append, hs]; rfl, fun s ms => ?_, fl_lt hg, fun q hq => ?_, fun s hs0 => ?_, fun h => by simp at h, ?_⟩
    · rcases List.mem_append.mp ms with ms | ms
      · exact hok s ms
      · rw [List.mem_singleton.mp ms]; exact ⟨hb, hg⟩
    · have q1 := hm q fun s ms => hq s (List.mem_append_left _ ms)
      have q2 := hq ⟨b, g, num1⟩ (List.mem_append_right _ List.mem_cons_self)
      rw [worth_fl]
      have q2 : worth q b + worth q g ≤ num1 := q2
      omega
    · cases ss with
      | nil => have : s = ⟨b, g, num1⟩ := by simpa using hs0.symm
               rw [this]; exact h00 rfl
      | cons x r => exact h0 s (by simpa using hs0)
    · rw [← sidesO_snoc, ← hw]; rfl
  · obtain ⟨ss, b, num, x6, x7, hs, hok, hb, hm, h0, h00, rfl⟩ := hI
    have hs : ss.length = m.length := by rw [hs]; unfold intsS; rw [List.length_map]
    cases ss with
    | nil => rw [List.length_nil] at hs; omega
    | cons s0 r =>
      have ef := h0 s0 rfl
      refine ⟨_, rfl, rfl, _, rfl, sideS s0, atI_nat (j := 0) rfl, _, rfl, s0.f, rfl, (by decide : 3 ≤ sizeLine), _, rfl, rfl, by rw [sidesO_len, hs]; exact size_lt (by omega), ?_⟩
      (try simp only [List.set_cons_zero, List.set_cons_succ, frz_sh1])
      have := hk a ((s0 :: r) ++ [⟨fl s0.f, b, -num - 1⟩]) (by rw [List.length_append, hs]; simp; omega) (fun s ms => ?_) (fun q hq => ?_)
      · rw [← sidesO_snoc] at this; exact this
      · rcases List.mem_append.mp ms with ms | ms
        · exact hok s ms
        · rw [List.mem_singleton.mp ms]; exact ⟨fl_lt (by rw [ef]; exact hb0), hb⟩
      · have q1 := hm q fun s ms => hq s (List.mem_append_left _ ms)
        have q2 : worth q (fl s0.f) + worth q b ≤ -num - 1 := hq ⟨fl s0.f, b, -num - 1⟩ (List.mem_append_right _ List.mem_cons_self)
        rw [worth_fl, ef] at q2
        omega
end E8
namespace E8
open PySem PySem.Spec PyProof.Rows L2 E8M
theorem seq_v {s t : WS} {q : QE} {env : Env} (h : s { q with nx := t q } env) : wSeq s t q env := h
theorem neg_i {i : Int} {k : OD → Prop} (h : k (oi (-i))) : wNeg (oi i) k := h
/-- both ways lead to where I holds -/
theorem if_to {wt : WT} {s t : WS} {q : QE} {env : Env} (b : Bool) (env' : Env) (I : Env → Prop) (h : ∀ Q : Bool → Env → Prop, Q b env' → wt env Q) (k1 : b = true → ∀ nx : Env → Prop, (∀ e, I e → nx e) → s { q with nx := nx } env') (k2 : b = false → ∀ nx : Env → Prop, (∀ e, I e → nx e) → t { q with nx := nx } env') (k : ∀ e, I e → q.nx e) : wIf wt s t q env := h _ (by
  cases b with
  | true => exact k1 rfl q.nx k
  | false => exact k2 rfl q.nx k)
/-! ### bells -/
def φ_law_bells : Spec := fun ds k => ∃ (ns l : List Int), 1 ≤ l.length ∧ ds = [.sh (scrS ns), .sh (.lst (intsS l))] ∧ ∀ (a : Addr) (ss : List Side), ss.length = 5 → (∀ s ∈ ss, s.ok 8) → (∀ q, ¬ E8M.Meets ss q) → k (.lst a (sidesO ss)) ds
/-- _law_bells -/
def w_law_bells : WS := (wSeq (wSet 2 (wLst wNil))
  (wSeq (wSet 3 (wLst wNil))
  (wSeq (wFor (wiR1 (wCons (wC (.int 4)) wNil)) (wgName 4)
  (wSeq (wSet 5 (wCall φ_law_cell [false, false] [] [none, none] (wCons (wFrz 0) (wCons (wOp wAdd (wC (.int 30)) (wFrz 4)) wNil))))
  (wSeq (wDrop (wApp (wbV 2) (wOp wAdd (wOp (wII fMul) (wOp (wII fMod) (wOp wAdd (wOp (wII fMod) (wCall φ_law_cell [false, false] [] [none, none] (wCons (wFrz 0) (wCons (wC (.int 5)) wNil))) (wC (.int 4))) (wFrz 4)) (wC (.int 4))) (wC (.int 2))) (wOp (wII fMod) (wFrz 5) (wC (.int 2))))))
  (wDrop (wApp (wbV 3) (wCall φ_law_big [false] [] [none] (wCons (wOp (wII fDiv) (wFrz 5) (wC (.int 2))) wNil)))))))
  (wSeq (wSet 6 (wIxV 2 (wC (.int 0))))
  (wSeq (wSet 7 (wIxV 2 (wC (.int 2))))
  (wSeq (wSet 8 (wUn wNeg (wOp wAdd (wOp wAdd (wOp wAdd (wIxV 3 (wC (.int 0))) (wIxV 3 (wC (.int 1)))) (wOp (wII fMul) (wC (.int 2)) (wIxV 3 (wC (.int 2))))) (wIxV 3 (wC (.int 3))))))
  (wSeq (wIf (wB (wOp wEq (wOp (wII fMod) (wOp wAdd (wIxV 3 (wC (.int 0))) (wIxV 3 (wC (.int 1)))) (wC (.int 2))) (wC (.int 0)))) (wSet 8 (wOp (wII fSub) (wFrz 8) (wC (.int 1)))) wNext)
  (wSeq (wSet 9 (wLst (wCons (wTup (wCons (wFrz 6) (wCons (wIxV 2 (wC (.int 1))) (wCons (wIxV 3 (wC (.int 0))) wNil)))) (wCons (wTup (wCons (wFrz 6) (wCons (wCall φ_law_flip [false] [] [none] (wCons (wIxV 2 (wC (.int 1))) wNil)) (wCons (wIxV 3 (wC (.int 1))) wNil)))) (wCons (wTup (wCons (wCall φ_law_flip [false] [] [none] (wCons (wFrz 6) wNil)) (wCons (wFrz 7) (wCons (wIxV 3 (wC (.int 2))) wNil)))) wNil)))))
  (wSeq (wDrop (wApp (wbV 9) (wTup (wCons (wCall φ_law_flip [false] [] [none] (wCons (wFrz 7) wNil)) (wCons (wIxV 2 (wC (.int 3))) (wCons (wIxV 3 (wC (.int 3))) wNil))))))
  (wSeq (wDrop (wApp (wbV 9) (wTup (wCons (wCall φ_law_flip [false] [] [none] (wCons (wIxV 2 (wC (.int 3))) wNil)) (wCons (wCall φ_law_flip [false] [] [none] (wCons (wFrz 7) wNil)) (wCons (wFrz 8) wNil))))))
  (wSeq (wSet 10 (wOp (wII fMod) (wIxV 1 (wC (.int 0))) (wC (.int 5))))
  (wRet (wOp wAdd (wSl (wFrz 9) (woSome (wFrz 10)) woNone) (wSl (wFrz 9) woNone (woSome (wFrz 10))))))))))))))))
abbrev ms_law_bells : List Bool := [false, false]
abbrev n_law_bells : Nat := 11
theorem h_law_bells : ∀ ds κ, φ_law_bells ds κ → lentOk ms_law_bells ds ∧ w_law_bells (endsOf ms_law_bells ds κ) (startE n_law_bells ds) := by
  rintro ds κ ⟨ns, l, hl, rfl, hk⟩
  refine ⟨⟨rfl, rfl, rfl⟩, ?_⟩
  show w_law_bells _ [some (.sh (scrS ns)), some (.sh (.lst (intsS l))), none, none, none, none, none, none, none, none, none]
  refine ⟨Nat.zero_le _, fun a1 => ?_⟩
  (try simp only [List.set_cons_zero, List.set_cons_succ, frz_sh1])
  refine ⟨Nat.zero_le _, fun a2 => ?_⟩
  (try simp only [List.set_cons_zero, List.set_cons_succ, frz_sh1])
  refine ⟨⟨by decide, by decide⟩, ?_⟩
  refine loop_rng 4 rfl (fun k env => ∃ (fs : List Nat) (nums : List Int) (x4 x5 : Option OD), fs.length = k ∧ nums.length = k ∧ (∀ f ∈ fs, f < 8) ∧ env = [some (.sh (scrS ns)), some (.sh (.lst (intsS l))), some (.lst a1 (fs.map fun (f : Nat) => on f)), some (.lst a2 (intsO nums)), x4, x5, none, none, none, none, none])
    ⟨[], [], none, none, rfl, rfl, by simp, rfl⟩ (fun k env hk' hI nxt hn' => ?_) (fun env hI => ?_)
  · obtain ⟨fs, nums, x4, x5, h1, h2, h3, rfl⟩ := hI
    (try simp only [List.set_cons_zero, List.set_cons_succ, frz_sh1])
    refine ⟨ns, 30 + k, by omega, rfl, fun z => ?_⟩
    (try simp only [List.set_cons_zero, List.set_cons_succ, frz_sh1])
    refine ⟨_, rfl, rfl, _, rfl, ns, 5, by decide, rfl, fun z2 => ?_⟩
    refine ⟨by decide, by decide, mulR (by decide), by decide, _, rfl, rfl, by rw [List.length_map]; exact Nat.lt_of_le_of_lt (m := 10) (by omega) (by decide), ?_⟩
    (try simp only [List.set_cons_zero, List.set_cons_succ, frz_sh1])
    refine ⟨_, rfl, rfl, _, rfl, div2, z / 2, rfl, fun b _ => ?_⟩
    refine ⟨_, rfl, rfl, by unfold intsO; rw [List.length_map]; exact Nat.lt_of_le_of_lt (m := 10) (by omega) (by decide), ?_⟩
    obtain ⟨f, ef, hf⟩ : ∃ f : Nat, (z2 % 4 + (k : Int)) % 4 * 2 + z % 2 = (f : Int) ∧ f < 8 := ⟨((z2 % 4 + (k : Int)) % 4 * 2 + z % 2).toNat, by omega, by omega⟩
    refine hn' _ ⟨fs ++ [f], nums ++ [b], some (on k), some (oi z), by rw [List.length_append, h1]; rfl, by rw [List.length_append, h2]; rfl, fun x m => ?_, ?_⟩
    · rcases List.mem_append.mp m with m | m
      · exact h3 x m
      · rw [List.mem_singleton.mp m]; exact hf
    · unfold intsO
      rw [List.map_append, List.map_append]
      show _ = [some (OD.sh (scrS ns)), some (OD.sh (.lst (intsS l))), some (.lst a1 ((fs.map fun (f : Nat) => on f) ++ [oi (f : Int)])), some (.lst a2 ((nums.map fun x => .sh (.int x)) ++ [oi b])), some (on k), some (oi z), none, none, none, none, none]
      rw [← ef]
      rfl
  · obtain ⟨fs, nums, x4, x5, h1, h2, h3, rfl⟩ := hI
    obtain ⟨a, b, d, e, rfl⟩ : ∃ (a b d e : Nat), fs = [a, b, d, e] := match fs, h1 with | [a, b, d, e], _ => ⟨a, b, d, e, rfl⟩
    obtain ⟨n0, n1, n2, n3, rfl⟩ : ∃ (a b d e : Int), nums = [a, b, d, e] := match nums, h2 with | [a, b, d, e], _ => ⟨a, b, d, e, rfl⟩
    have ha : a < 2 * 4 := h3 a (by simp)
    have hb : b < 2 * 4 := h3 b (by simp)
    have hd : d < 2 * 4 := h3 d (by simp)
    have he : e < 2 * 4 := h3 e (by simp)
    have hfa := fl_lt ha
    have hfb := fl_lt hb
    have hfd := fl_lt hd
    have hfe := fl_lt he
    obtain ⟨z0, e0⟩ := atI_ints (l := l) (i := 0) (by omega)
    obtain ⟨rot, eat, hat⟩ := mod_nat (z := z0) (m := 5) (n := 5) rfl (by decide)
    (try simp only [List.set_cons_zero, List.set_cons_succ, frz_sh1])
    refine ⟨_, rfl, ?_⟩
    (try simp only [List.set_cons_zero, List.set_cons_succ, frz_sh1])
    refine ⟨_, rfl, ?_⟩
    (try simp only [List.set_cons_zero, List.set_cons_succ, frz_sh1])
    refine ⟨_, rfl, _, rfl, add_ii ?_⟩
    refine ⟨_, rfl, mul2, add_ii ⟨_, rfl, add_ii ?_⟩⟩
    (try simp only [List.set_cons_zero, List.set_cons_succ, frz_sh1])
    refine neg_i ?_
    (try simp only [List.set_cons_zero, List.set_cons_succ, frz_sh1])
    refine seq_v ?_
    refine if_to (decide ((n0 + n1) % 2 = 0)) [some (.sh (scrS ns)), some (.sh (.lst (intsS l))), some (.lst a1 [on a, on b, on d, on e]), some (.lst a2 [oi n0, oi n1, oi n2, oi n3]), x4, x5, some (on a), some (on d), some (oi (-(n0 + n1 + 2 * n2 + n3))), none, none]
      (fun env => ∃ last : Int, last ≤ -(n0 + n1 + 2 * n2 + n3) ∧ ((n0 + n1) % 2 = 0 → last ≤ -(n0 + n1 + 2 * n2 + n3) - 1) ∧ env = [some (.sh (scrS ns)), some (.sh (.lst (intsS l))), some (.lst a1 [on a, on b, on d, on e]), some (.lst a2 [oi n0, oi n1, oi n2, oi n3]), x4, x5, some (on a), some (on d), some (oi last), none, none]) (fun Q h => ?_) (fun h nx hn => ?_) (fun h nx hn => ?_) (fun env hI => ?_)
    · exact ⟨_, rfl, _, rfl, by decide, h⟩
    · exact hn _ ⟨-(n0 + n1 + 2 * n2 + n3) - 1, by omega, fun _ => Int.le_refl _, rfl⟩
    · have h := of_decide_eq_false h
      exact hn _ ⟨-(n0 + n1 + 2 * n2 + n3), Int.le_refl _, fun q => absurd q h, rfl⟩
    · obtain ⟨last, hl1, hl2, rfl⟩ := hI
      refine ⟨_, rfl, _, rfl, (by decide : 3 ≤ sizeLine), _, rfl, b, rfl, _, rfl, (by decide : 3 ≤ sizeLine), a, rfl, _, rfl, (by decide : 3 ≤ sizeLine), (by decide : 3 ≤ sizeLine), fun a3 => ?_⟩
      (try simp only [List.set_cons_zero, List.set_cons_succ, frz_sh1])
      refine ⟨_, rfl, rfl, _, rfl, d, rfl, _, rfl, _, rfl, (by decide : 3 ≤ sizeLine), _, rfl, rfl, (by decide : 3 < sizeLine), ?_⟩
      (try simp only [List.set_cons_zero, List.set_cons_succ, frz_sh1])
      refine ⟨_, rfl, rfl, _, rfl, _, rfl, e, rfl, d, rfl, (by decide : 3 ≤ sizeLine), _, rfl, rfl, (by decide : 4 < sizeLine), ?_⟩
      (try simp only [List.set_cons_zero, List.set_cons_succ, frz_sh1])
      refine ⟨_, e0, by decide, ?_⟩
      rw [eat]
      (try simp only [List.set_cons_zero, List.set_cons_succ, frz_sh1])
      show wRet (wOp wAdd (wSl (wFrz 9) (woSome (wFrz 10)) woNone) (wSl (wFrz 9) woNone (woSome (wFrz 10)))) (endsOf ms_law_bells [.sh (scrS ns), .sh (.lst (intsS l))] κ) [some (.sh (scrS ns)), some (.sh (.lst (intsS l))), some (.lst a1 [on a, on b, on d, on e]), some (.lst a2 [oi n0, oi n1, oi n2, oi n3]), x4, x5, some (on a), some (on d), some (oi last), some (.lst a3 (sidesO [Side.mk a b n0, ⟨a, fl b, n1⟩, ⟨fl a, d, n2⟩, ⟨fl d, e, n3⟩, ⟨fl e, fl d, last⟩])), some (on rot)]
      refine fun p1 p2 => ⟨?_, fun p3 => ?_⟩
      · rw [List.length_map, List.length_map]
        exact Nat.le_trans (Nat.add_le_add (cutL_len _ _ _) (cutL_len _ _ _)) (by show 10 ≤ sizeLine; decide)
      · have ok : ∀ s ∈ [Side.mk a b n0, ⟨a, fl b, n1⟩, ⟨fl a, d, n2⟩, ⟨fl d, e, n3⟩, ⟨fl e, fl d, last⟩], s.ok 8 := by
          intro s m
          simp only [List.mem_cons, List.not_mem_nil, or_false] at m
          rcases m with rfl | rfl | rfl | rfl | rfl
          · exact ⟨ha, hb⟩
          · exact ⟨ha, hfb⟩
          · exact ⟨hfa, hd⟩
          · exact ⟨hfd, he⟩
          · exact ⟨hfe, hfd⟩
        have un : ∀ q, ¬ E8M.Meets [Side.mk a b n0, ⟨a, fl b, n1⟩, ⟨fl a, d, n2⟩, ⟨fl d, e, n3⟩, ⟨fl e, fl d, last⟩] q := by
          intro q h
          have q1 : worth q a + worth q b ≤ n0 := h ⟨a, b, n0⟩ (by simp)
          have q2 : worth q a + worth q (fl b) ≤ n1 := h ⟨a, fl b, n1⟩ (by simp)
          have q3 : worth q (fl a) + worth q d ≤ n2 := h ⟨fl a, d, n2⟩ (by simp)
          have q4 : worth q (fl d) + worth q e ≤ n3 := h ⟨fl d, e, n3⟩ (by simp)
          have q5 : worth q (fl e) + worth q (fl d) ≤ last := h ⟨fl e, fl d, last⟩ (by simp)
          rw [worth_fl] at q2 q3 q4 q5
          rw [worth_fl] at q5
          by_cases c : (n0 + n1) % 2 = 0
          · have := hl2 c
            omega
          · omega
        show κ (.lst p3 ((cutL ([Side.mk a b n0, ⟨a, fl b, n1⟩, ⟨fl a, d, n2⟩, ⟨fl d, e, n3⟩, ⟨fl e, fl d, last⟩].map sideS) (some (rot : Int)) none).map OD.sh ++ (cutL ([Side.mk a b n0, ⟨a, fl b, n1⟩, ⟨fl a, d, n2⟩, ⟨fl d, e, n3⟩, ⟨fl e, fl d, last⟩].map sideS) none (some (rot : Int))).map OD.sh)) _
        generalize hsss : [Side.mk a b n0, ⟨a, fl b, n1⟩, ⟨fl a, d, n2⟩, ⟨fl d, e, n3⟩, ⟨fl e, fl d, last⟩] = sss at *
        have h5 : sss.length = 5 := by rw [← hsss]; rfl
        have mem : ∀ s, s ∈ sss.drop rot ++ sss.take rot ↔ s ∈ sss := fun s => by
          rw [List.mem_append, Or.comm, ← List.mem_append, List.take_append_drop]
        have := hk p3 (sss.drop rot ++ sss.take rot) (by rw [List.length_append, List.length_drop, List.length_take]; omega) (fun s m => ok s ((mem s).mp m)) (fun q h => un q fun s m => h s ((mem s).mpr m))
        unfold sidesO at this
        rw [List.map_append] at this
        rw [cut_drop, cut_take, ← List.map_drop, ← List.map_take, List.map_map, List.map_map]
        exact this
end E8
namespace E8
open PySem PySem.Spec PyProof.Rows L2 E8M
/-! ### == of lists and tuples of whole numbers -/
theorem eqv_legP (w : Way) : PyData.eqv (legP w) (legP w) = true := by simp [legP, PyData.eqv, PyData.eqvAll]
theorem eq_data_self {d : SD} {p : PyData} (h : pd d = some p) (hs : SeqAt.shaped p = true) (he : PyData.eqv p p = true) {k : Bool → Prop} (q : k true) : eqData d d k := by
  unfold eqData
  rw [h]
  exact ⟨hs, hs, by rw [he]; exact q⟩
theorem nxs {s t : WS} {q : QE} {env : Env} {rt : OD → Env → Prop} {bk ct : Env → Prop} (h : s { q with nx := t q } env) : wNext { nx := wSeq s t q, rt := rt, bk := bk, ct := ct } env := h
theorem or_f {wt wu : WT} {env env' : Env} {Q : Bool → Env → Prop} (h1 : ∀ R : Bool → Env → Prop, R false env' → wt env R) (h2 : wu env' Q) : wOrT wt wu env Q := h1 _ h2
theorem or_t {wt wu : WT} {env env' : Env} {Q : Bool → Env → Prop} (h1 : ∀ R : Bool → Env → Prop, R true env' → wt env R) (h2 : Q true env') : wOrT wt wu env Q := h1 _ h2
theorem and_x {wt wu : WT} {env env' : Env} {Q : Bool → Env → Prop} (P : Bool → Prop) (h1 : ∀ R : Bool → Env → Prop, (∀ r, P r → R r env') → wt env R) (h2 : P true → wu env' Q) (h3 : P false → Q false env') : wAndT wt wu env Q := h1 _ fun r hr => by
  cases r with
  | true => exact h2 hr
  | false => exact h3 hr
theorem t_ne {wa wb : WE} {env env1 env2 : Env} {x y : OD} {R : Bool → Env → Prop} (ha : ∀ R : OD → Env → Prop, R x env1 → wa env R) (hb : ∀ R : OD → Env → Prop, R y env2 → wb env1 R) (h : wNe x y fun z => match z with
    | .sh (.bl b) => R b env2
    | _ => False) : wB (wOp wNe wa wb) env R := ha _ (hb _ h)
/-! ### side_like -/
def φ_law_side_like : Spec := fun ds k => ∃ w : Way, ds = [.sh (legS w), .sh (legS w)] ∧ k (.sh (.bl true)) ds
/-- _law_side_like -/
def w_law_side_like : WS := (wSeq (wIf (wOrT (wNotT (wB (wCB wIsi (wCons (wFrz 0) (wCons (wC (.ty "tuple")) wNil))))) (wB (wOp wNe (wSh (wLenV 0)) (wSh (wLenV 1))))) (wRet (wC (.bl false))) wNext)
  (wSeq (wFor (wiT (wFrz 0)) (wgName 2)
  (wIf (wNotT (wB (wCall φ_law_whole [false] [] [none] (wCons (wFrz 2) wNil)))) (wRet (wC (.bl false))) wNext))
  (wRet (wOp wEq (wFrz 0) (wFrz 1)))))
abbrev ms_law_side_like : List Bool := [false, false]
abbrev n_law_side_like : Nat := 3
theorem shaped_leg (w : Way) : SeqAt.shaped (legP w) = true := by
  unfold SeqAt.shaped legP
  simp [PyData.canLay0, PyData.canLayAll0, PyData.depth, PyData.depthAll]
theorem h_law_side_like : ∀ ds κ, φ_law_side_like ds κ → lentOk ms_law_side_like ds ∧ w_law_side_like (endsOf ms_law_side_like ds κ) (startE n_law_side_like ds) := by
  rintro ds κ ⟨w, rfl, hk⟩
  refine ⟨⟨rfl, rfl, rfl⟩, ?_⟩
  show w_law_side_like _ [some (.sh (legS w)), some (.sh (legS w)), none]
  refine seq_v ?_
  refine if_f (env' := [some (.sh (legS w)), some (.sh (legS w)), none]) (fun Q h => ?_) ?_
  · exact ⟨rfl, h⟩
  refine loop_ind (fun k env => ∃ x2, env = [some (.sh (legS w)), some (.sh (legS w)), x2]) ⟨none, rfl⟩ (fun k d env e hI nxt hn' => ?_) (fun env hI => ?_)
  · obtain ⟨x2, rfl⟩ := hI
    obtain ⟨z, rfl⟩ : ∃ z, d = .int z := by
      match k, e with
      | 0, e => exact ⟨_, (Option.some.inj e).symm⟩
      | 1, e => exact ⟨_, (Option.some.inj e).symm⟩
      | 2, e => exact ⟨_, (Option.some.inj e).symm⟩
      | k + 3, e => cases e
    (try simp only [List.set_cons_zero, List.set_cons_succ, frz_sh1])
    refine if_f (env' := [some (.sh (legS w)), some (.sh (legS w)), some (oi z)]) (fun Q h => ?_) ?_
    · exact ⟨z, rfl, h⟩
    · exact hn' _ ⟨_, rfl⟩
  · obtain ⟨x2, rfl⟩ := hI
    show eqData (legS w) (legS w) fun r => _
    unfold eqData
    show SeqAt.shaped (legP w) = true ∧ SeqAt.shaped (legP w) = true ∧ κ (.sh (.bl (PyData.eqv (legP w) (legP w)))) _
    rw [eqv_legP]
    exact ⟨shaped_leg w, shaped_leg w, hk⟩
/-! ### walked -/
theorem pth_at {ws : List Way} : ∀ {p : List Way} {a b : Nat}, Pth ws a p b → ∀ {i : Nat} {w : Way}, p[i]? = some w → w ∈ ws ∧ (i = 0 → w.f = a) ∧ (∀ j u, i = j + 1 → p[j]? = some u → w.f = fl u.g) ∧ (i + 1 = p.length → fl w.g = b)
  | v :: p, a, b, h, 0, w, e => by
    have : v = w := by simpa using e
    subst this
    refine ⟨h.1, fun _ => h.2.1, fun j u q _ => by omega, fun q => ?_⟩
    have hp : p = [] := by simpa using q
    subst hp
    exact h.2.2
  | v :: p, a, b, h, i + 1, w, e => by
    have e' : p[i]? = some w := by simpa using e
    obtain ⟨q1, q2, q3, q4⟩ := pth_at h.2.2 e'
    refine ⟨q1, fun q => by omega, fun j u q hu => ?_, fun q => q4 (by simpa using q)⟩
    have : j = i := by omega
    subst this
    cases j with
    | zero =>
      have : v = u := by simpa using hu
      rw [q2 rfl, this]
    | succ j => exact q3 j u rfl (by simpa using hu)
theorem tot_take {p : List Way} {k : Nat} {w : Way} (h : p[k]? = some w) : tot (p.take (k + 1)) = tot (p.take k) + w.c := by
  rw [take_more h, tot_append]
  simp [tot]
def φ_law_walked : Spec := fun ds k => ∃ (ss : List Side) (p : List Way) (a b n : Nat), p ≠ [] ∧ p.length ≤ n ∧ n ≤ 100000 ∧ Pth (ways ss) a p b ∧ ds = [.sh (.lst (p.map legS)), .sh (.lst (ss.map sideS)), on n] ∧ k (.sh (.tup [.int (a : Nat), .int (fl b : Nat), .int (tot p)])) ds
/-- _law_walked -/
def w_law_walked : WS := (wSeq (wIf (wOrT (wNotT (wB (wCB wIsi (wCons (wFrz 0) (wCons (wC (.ty "list")) wNil))))) (wOrT (wB (wOp wEq (wSh (wLenV 0)) (wC (.int 0)))) (wB (wOp (wII fGt) (wLenV 0) (wFrz 2))))) (wRet (wC .non)) wNext)
  (wSeq (wSet 3 (wC (.int 0)))
  (wSeq (wFor (wiR1 (wCons (wLenV 0) wNil)) (wgName 4)
  (wSeq (wSet 5 (wIxV 0 (wFrz 4)))
  (wSeq (wIf (wOrT (wNotT (wB (wCall φ_law_side_like [false, false] [] [none, none] (wCons (wFrz 5) (wCons (wFrz 5) wNil))))) (wB (wOp wNe (wSh (wLenV 5)) (wC (.int 3))))) (wRet (wC .non)) wNext)
  (wSeq (wIf (wOrT (wB (wOp (wII fLt) (wIxV 5 (wC (.int 0))) (wC (.int 0)))) (wB (wOp (wII fGe) (wIxV 5 (wC (.int 0))) (wLenV 1)))) (wRet (wC .non)) wNext)
  (wSeq (wSet 6 (wIxV 1 (wIxV 5 (wC (.int 0)))))
  (wSeq (wIf (wAndT (wB (wOp wNe (wSh (wSl (wFrz 5) (woSome (wC (.int 1))) woNone)) (wSh (wSl (wFrz 6) woNone (woSome (wC (.int 2))))))) (wB (wOp wNe (wSh (wSl (wFrz 5) (woSome (wC (.int 1))) woNone)) (wSh (wTup (wCons (wIxV 6 (wC (.int 1))) (wCons (wIxV 6 (wC (.int 0))) wNil))))))) (wRet (wC .non)) wNext)
  (wSeq (wIf (wAndT (wB (wOp (wII fGt) (wFrz 4) (wC (.int 0)))) (wB (wOp wNe (wIxV 5 (wC (.int 1))) (wSh (wCall φ_law_flip [false] [] [none] (wCons (wOp wIx (wIxV 0 (wOp (wII fSub) (wFrz 4) (wC (.int 1)))) (wC (.int 2))) wNil)))))) (wRet (wC .non)) wNext)
  (wSet 3 (wOp wAdd (wFrz 3) (wIxV 6 (wC (.int 2))))))))))))
  (wRet (wTup (wCons (wOp wIx (wIxV 0 (wC (.int 0))) (wC (.int 1))) (wCons (wOp wIx (wIxV 0 (wOp (wII fSub) (wLenV 0) (wC (.int 1)))) (wC (.int 2))) (wCons (wFrz 3) wNil))))))))
abbrev ms_law_walked : List Bool := [false, false, false]
abbrev n_law_walked : Nat := 7
theorem eqv_two (a b : Int) : PyData.eqv (.tuple [.int a, .int b]) (.tuple [.int a, .int b]) = true := by simp [PyData.eqv, PyData.eqvAll]
theorem shaped_two (a b : Int) : SeqAt.shaped (.tuple [.int a, .int b]) = true := by
  unfold SeqAt.shaped
  simp [PyData.canLay0, PyData.canLayAll0, PyData.depth, PyData.depthAll]
theorem ne_two {a b c d : Int} {k : OD → Prop} (h : ∀ r : Bool, (a = c → b = d → r = false) → k (.sh (.bl r))) : wNe (.sh (.tup [.int a, .int b])) (.sh (.tup [.int c, .int d])) k := by
  show eqData (.tup [.int a, .int b]) (.tup [.int c, .int d]) fun r => k (.sh (.bl (!r)))
  refine ⟨shaped_two a b, shaped_two c d, h _ fun h1 h2 => ?_⟩
  subst h1 h2
  rw [eqv_two]
  rfl
theorem h_law_walked : ∀ ds κ, φ_law_walked ds κ → lentOk ms_law_walked ds ∧ w_law_walked (endsOf ms_law_walked ds κ) (startE n_law_walked ds) := by
  rintro ds κ ⟨ss, p, a, b, n, hp, hpn, hn, hP, rfl, hk⟩
  refine ⟨⟨rfl, rfl, rfl, rfl⟩, ?_⟩
  show w_law_walked _ [some (.sh (.lst (p.map legS))), some (.sh (.lst (ss.map sideS))), some (on n), none, none, none, none]
  have el : ((p.map legS).length : Int) = (p.length : Int) := by rw [List.length_map]
  have es : ((ss.map sideS).length : Int) = (ss.length : Int) := by rw [List.length_map]
  have hp0 : 0 < p.length := List.length_pos_iff.mpr hp
  have gl : ∀ {i : Nat} {w : Way}, p[i]? = some w → atI (p.map legS) (i : Int) = some (legS w) := fun h => atI_nat (by rw [List.getElem?_map, h]; rfl)
  refine seq_v ?_
  refine if_f (env' := [some (.sh (.lst (p.map legS))), some (.sh (.lst (ss.map sideS))), some (on n), none, none, none, none]) (fun Q h => ?_) ?_
  · refine ⟨rfl, ?_⟩
    show if decide (((p.map legS).length : Int) = 0) = true then _ else _
    rw [el, decide_eq_false (by omega), if_neg (by decide)]
    show Q (decide ((n : Int) < ((p.map legS).length : Int))) _
    rw [el, decide_eq_false (by omega)]
    exact h
  refine nxs ?_
  refine c_v ?_
  (try simp only [List.set_cons_zero, List.set_cons_succ, frz_sh1])
  refine seq_v ?_
  refine ⟨by rw [el]; constructor <;> omega, ?_⟩
  (try simp only [List.set_cons_zero, List.set_cons_succ, frz_sh1])
  refine loop_rng p.length el (fun k env => ∃ x4 x5 x6, env = [some (.sh (.lst (p.map legS))), some (.sh (.lst (ss.map sideS))), some (on n), some (oi (tot (p.take k))), x4, x5, x6]) ⟨_, _, _, rfl⟩ (fun k env hk' hI nxt hn' => ?_) (fun env hI => ?_)
  · obtain ⟨x4, x5, x6, rfl⟩ := hI
    obtain ⟨w, hw⟩ : ∃ w, p[k]? = some w := ⟨p[k], List.getElem?_eq_getElem hk'⟩
    obtain ⟨m1, m2, m3, m4⟩ := pth_at hP hw
    obtain ⟨s, hs, hc, hfg⟩ := ways_of m1
    have hws : w.n < ss.length := (List.getElem?_eq_some_iff.mp hs).1
    (try simp only [List.set_cons_zero, List.set_cons_succ, frz_sh1])
    refine ⟨_, gl hw, ?_⟩
    (try simp only [List.set_cons_zero, List.set_cons_succ, frz_sh1])
    refine seq_v ?_
    refine if_f (env' := [some (.sh (.lst (p.map legS))), some (.sh (.lst (ss.map sideS))), some (on n), some (oi (tot (p.take k))), some (on k), some (.sh (legS w)), x6]) (fun Q h => ?_) ?_
    · exact ⟨w, rfl, h⟩
    refine nxs ?_
    refine if_f (env' := [some (.sh (.lst (p.map legS))), some (.sh (.lst (ss.map sideS))), some (on n), some (oi (tot (p.take k))), some (on k), some (.sh (legS w)), x6]) (fun Q h => ?_) ?_
    · refine or_f (env' := [some (.sh (.lst (p.map legS))), some (.sh (.lst (ss.map sideS))), some (on n), some (oi (tot (p.take k))), some (on k), some (.sh (legS w)), x6]) (fun R h => ?_) ?_
      · refine ⟨_, rfl, ?_⟩
        show R (decide ((w.n : Int) < 0)) _
        rw [decide_eq_false (by omega)]
        exact h
      refine ⟨_, rfl, ?_⟩
      show Q (decide (((ss.map sideS).length : Int) ≤ (w.n : Int))) _
      rw [es, decide_eq_false (by omega)]
      exact h
    refine nxs ?_
    refine ⟨_, rfl, _, atI_nat (by rw [List.getElem?_map, hs]; rfl), ?_⟩
    (try simp only [List.set_cons_zero, List.set_cons_succ, frz_sh1])
    refine seq_v ?_
    refine if_f (env' := [some (.sh (.lst (p.map legS))), some (.sh (.lst (ss.map sideS))), some (on n), some (oi (tot (p.take k))), some (on k), some (.sh (legS w)), some (.sh (sideS s))]) (fun Q h => ?_) ?_
    · refine and_x (env' := [some (.sh (.lst (p.map legS))), some (.sh (.lst (ss.map sideS))), some (on n), some (oi (tot (p.take k))), some (on k), some (.sh (legS w)), some (.sh (sideS s))]) (fun r => w.f = s.f → w.g = s.g → r = false) (fun R h => ?_) (fun hr => ?_) (fun _ => h)
      · refine t_ne (x := .sh (.tup [.int (w.f : Int), .int (w.g : Int)])) (y := .sh (.tup [.int (s.f : Int), .int (s.g : Int)])) (env1 := [some (.sh (.lst (p.map legS))), some (.sh (.lst (ss.map sideS))), some (on n), some (oi (tot (p.take k))), some (on k), some (.sh (legS w)), some (.sh (sideS s))]) (env2 := [some (.sh (.lst (p.map legS))), some (.sh (.lst (ss.map sideS))), some (on n), some (oi (tot (p.take k))), some (on k), some (.sh (legS w)), some (.sh (sideS s))]) ?_ ?_ (ne_two fun r hr => ?_)
        · exact fun R h => h
        · exact fun R h => h
        · exact h r fun q1 q2 => hr (by rw [q1]) (by rw [q2])
      · refine t_ne (x := .sh (.tup [.int (w.f : Int), .int (w.g : Int)])) (y := .sh (.tup [.int (s.g : Int), .int (s.f : Int)])) (env1 := [some (.sh (.lst (p.map legS))), some (.sh (.lst (ss.map sideS))), some (on n), some (oi (tot (p.take k))), some (on k), some (.sh (legS w)), some (.sh (sideS s))]) (env2 := [some (.sh (.lst (p.map legS))), some (.sh (.lst (ss.map sideS))), some (on n), some (oi (tot (p.take k))), some (on k), some (.sh (legS w)), some (.sh (sideS s))]) ?_ ?_ (ne_two fun r2 hr2 => ?_)
        · exact fun R h => h
        · exact fun R h => ⟨_, rfl, _, rfl, (by decide : 2 ≤ sizeLine), h⟩
        · have : r2 = false := by
            rcases hfg with ⟨q1, q2⟩ | ⟨q1, q2⟩
            · have := hr q1 q2; cases this
            · exact hr2 (by rw [q1]) (by rw [q2])
          subst this
          exact h
    refine nxs ?_
    refine if_f (env' := [some (.sh (.lst (p.map legS))), some (.sh (.lst (ss.map sideS))), some (on n), some (oi (tot (p.take k))), some (on k), some (.sh (legS w)), some (.sh (sideS s))]) (fun Q h => ?_) ?_
    · show if decide ((0 : Int) < (k : Int)) = true then _ else _
      cases k with
      | zero => rw [decide_eq_false (by omega), if_neg (by decide)]; exact h
      | succ j =>
        rw [decide_eq_true (by omega), if_pos rfl]
        obtain ⟨u, hu⟩ : ∃ u, p[j]? = some u := ⟨p[j], List.getElem?_eq_getElem (by omega)⟩
        refine ⟨_, rfl, legS u, ?_, _, rfl, u.g, rfl, ?_⟩
        · show atI (p.map legS) (((j + 1 : Nat) : Int) - 1) = _
          rw [show (((j + 1 : Nat) : Int) - 1) = (j : Int) by omega]
          exact gl hu
        · show Q (!decide ((w.f : Int) = ((fl u.g : Nat) : Int))) _
          rw [decide_eq_true (by rw [m3 j u rfl hu])]
          exact h
    refine ⟨_, rfl, add_ii ?_⟩
    (try simp only [List.set_cons_zero, List.set_cons_succ, frz_sh1])
    refine hn' _ ⟨some (on k), some (.sh (legS w)), some (.sh (sideS s)), ?_⟩
    rw [tot_take hw, hc]
  · obtain ⟨x4, x5, x6, rfl⟩ := hI
    rw [List.take_length]
    obtain ⟨w0, hw0⟩ : ∃ w, p[0]? = some w := ⟨p[0], List.getElem?_eq_getElem hp0⟩
    obtain ⟨w1, hw1⟩ : ∃ w, p[p.length - 1]? = some w := ⟨p[p.length - 1], List.getElem?_eq_getElem (by omega)⟩
    obtain ⟨_, a2, _, _⟩ := pth_at hP hw0
    obtain ⟨_, _, _, b4⟩ := pth_at hP hw1
    refine ⟨legS w0, gl hw0, _, rfl, legS w1, ?_, _, rfl, (by decide : 3 ≤ sizeLine), ?_⟩
    · show atI (p.map legS) (((p.map legS).length : Int) - 1) = _
      rw [el, show ((p.length : Int) - 1) = ((p.length - 1 : Nat) : Int) by omega]
      exact gl hw1
    · have e1 : w0.f = a := a2 rfl
      have e2 : w1.g = fl b := by rw [← b4 (by omega), fl_fl]
      show κ (.sh (.tup [.int (w0.f : Int), .int (w1.g : Int), .int (tot p)])) _
      rw [e1, e2]
      exact hk
end E8
namespace E8
open PySem PySem.Spec PyProof.Rows L2 E8M
theorem nxv {k : Env → Prop} {env : Env} {rt : OD → Env → Prop} {bk ct : Env → Prop} (h : k env) : wNext { nx := k, rt := rt, bk := bk, ct := ct } env := h
theorem andv_t {wa wb : WE} {env env' : Env} {Q : OD → Env → Prop} (h : ∀ R : Bool → Env → Prop, R true env' → wB wa env R) (k : wb env' Q) : wAndV wa wb env Q := h _ k
theorem andv_f {wa wb : WE} {env env' : Env} {Q : OD → Env → Prop} (h : ∀ R : Bool → Env → Prop, R false env' → wB wa env R) (k : Q (.sh (.bl false)) env') : wAndV wa wb env Q := h _ k
theorem eqv_nil : ∀ p : List Way, PyData.eqv (.list (p.map legP)) (.list []) = p.isEmpty
  | [] => by simp [PyData.eqv, PyData.eqvAll]
  | w :: p => by simp [PyData.eqv, PyData.eqvAll]
theorem shaped_legs (p : List Way) : SeqAt.shaped (.list (p.map legP)) = true := by
  have h := legs_lay p
  unfold SeqAt.shaped
  rw [Bool.and_eq_true]
  exact ⟨by simp only [PyData.canLay0, h.1], decide_eq_true (by simp only [PyData.depth]; omega)⟩
theorem t_eq {wa wb : WE} {env env1 env2 : Env} {x y : OD} {R : Bool → Env → Prop} (ha : ∀ R : OD → Env → Prop, R x env1 → wa env R) (hb : ∀ R : OD → Env → Prop, R y env2 → wb env1 R) (h : wEq x y fun z => match z with
    | .sh (.bl b) => R b env2
    | _ => False) : wB (wOp wEq wa wb) env R := ha _ (hb _ h)
def φ_law_ring_good : Spec := fun ds k => ∃ (ss : List Side) (p1 p2 : List Way) (n : Nat), n ≤ 100000 ∧ IsRing (ways ss) n p1 p2 ∧ ds = [.sh (.tup [.lst (p1.map legS), .lst (p2.map legS)]), .sh (.lst (ss.map sideS)), on n] ∧ k (.sh (.bl true)) ds
/-- _law_ring_good -/
def w_law_ring_good : WS := (wSeq (wIf (wOrT (wNotT (wB (wCB wIsi (wCons (wFrz 0) (wCons (wC (.ty "tuple")) wNil))))) (wB (wOp wNe (wSh (wLenV 0)) (wC (.int 2))))) (wRet (wC (.bl false))) wNext)
  (wSeq (wSet 3 (wCall φ_law_walked [false, false, false] [] [none, none, none] (wCons (wIxV 0 (wC (.int 0))) (wCons (wFrz 1) (wCons (wFrz 2) wNil)))))
  (wSeq (wIf (wOrT (wB (wOp wIsN (wFrz 3) (wC .non))) (wNotT (wB (wCB wIsi (wCons (wIxV 0 (wC (.int 1))) (wCons (wC (.ty "list")) wNil)))))) (wRet (wC (.bl false))) wNext)
  (wSeq (wIf (wB (wOp wEq (wIxV 0 (wC (.int 1))) (wSh (wLst wNil)))) (wRet (wAndV (wOp wEq (wIxV 3 (wC (.int 1))) (wSh (wCall φ_law_flip [false] [] [none] (wCons (wIxV 3 (wC (.int 0))) wNil)))) (wOp (wII fLt) (wIxV 3 (wC (.int 2))) (wC (.int 0))))) wNext)
  (wSeq (wSet 4 (wCall φ_law_walked [false, false, false] [] [none, none, none] (wCons (wIxV 0 (wC (.int 1))) (wCons (wFrz 1) (wCons (wFrz 2) wNil)))))
  (wSeq (wIf (wOrT (wB (wOp wIsN (wFrz 4) (wC .non))) (wOrT (wB (wOp wNe (wIxV 3 (wC (.int 0))) (wIxV 3 (wC (.int 1))))) (wB (wOp wNe (wIxV 4 (wC (.int 0))) (wIxV 4 (wC (.int 1))))))) (wRet (wC (.bl false))) wNext)
  (wRet (wAndV (wOp wEq (wIxV 4 (wC (.int 0))) (wSh (wCall φ_law_flip [false] [] [none] (wCons (wIxV 3 (wC (.int 0))) wNil)))) (wOp (wII fLt) (wOp wAdd (wOp (wII fDiv) (wIxV 3 (wC (.int 2))) (wC (.int 2))) (wOp (wII fDiv) (wIxV 4 (wC (.int 2))) (wC (.int 2)))) (wC (.int 0)))))))))))
abbrev ms_law_ring_good : List Bool := [false, false, false]
abbrev n_law_ring_good : Nat := 5
theorem h_law_ring_good : ∀ ds κ, φ_law_ring_good ds κ → lentOk ms_law_ring_good ds ∧ w_law_ring_good (endsOf ms_law_ring_good ds κ) (startE n_law_ring_good ds) := by
  rintro ds κ ⟨ss, p1, p2, n, hn, ⟨hp1, hl1, f, hf, hc⟩, rfl, hk⟩
  refine ⟨⟨rfl, rfl, rfl, rfl⟩, ?_⟩
  show w_law_ring_good _ [some (.sh (.tup [.lst (p1.map legS), .lst (p2.map legS)])), some (.sh (.lst (ss.map sideS))), some (on n), none, none]
  refine seq_v ?_
  refine if_f (env' := [some (.sh (.tup [.lst (p1.map legS), .lst (p2.map legS)])), some (.sh (.lst (ss.map sideS))), some (on n), none, none]) (fun Q h => ?_) ?_
  · exact ⟨rfl, h⟩
  refine nxs ?_
  obtain ⟨b, hP, hb⟩ : ∃ b, Pth (ways ss) f p1 b ∧ ((p2 = [] ∧ b = f ∧ tot p1 < 0) ∨ (p2 ≠ [] ∧ p2.length ≤ n ∧ b = fl f ∧ Pth (ways ss) (fl f) p2 f ∧ tot p1 / 2 + tot p2 / 2 < 0)) := by
    rcases hc with ⟨a1, a2, a3⟩ | ⟨a1, a2, a3, a4, a5⟩
    · exact ⟨f, a2, .inl ⟨a1, rfl, a3⟩⟩
    · exact ⟨fl f, a3, .inr ⟨a1, a2, rfl, a4, a5⟩⟩
  refine ⟨_, rfl, ss, p1, f, b, n, hp1, hl1, hn, hP, rfl, ?_⟩
  (try simp only [List.set_cons_zero, List.set_cons_succ, frz_sh1])
  refine seq_v ?_
  refine if_f (env' := [some (.sh (.tup [.lst (p1.map legS), .lst (p2.map legS)])), some (.sh (.lst (ss.map sideS))), some (on n), some (.sh (.tup [.int (f : Nat), .int (fl b : Nat), .int (tot p1)])), none]) (fun Q h => ?_) ?_
  · exact ⟨_, rfl, rfl, h⟩
  refine nxs ?_
  have tst : ∀ Q : Bool → Env → Prop, Q p2.isEmpty [some (.sh (.tup [.lst (p1.map legS), .lst (p2.map legS)])), some (.sh (.lst (ss.map sideS))), some (on n), some (.sh (.tup [.int (f : Nat), .int (fl b : Nat), .int (tot p1)])), none] → wB (wOp wEq (wIxV 0 (wC (.int 1))) (wSh (wLst wNil))) [some (.sh (.tup [.lst (p1.map legS), .lst (p2.map legS)])), some (.sh (.lst (ss.map sideS))), some (on n), some (.sh (.tup [.int (f : Nat), .int (fl b : Nat), .int (tot p1)])), none] Q := fun Q h => by
    refine t_eq (x := .sh (.lst (p2.map legS))) (y := .sh (.lst [])) (env1 := [some (.sh (.tup [.lst (p1.map legS), .lst (p2.map legS)])), some (.sh (.lst (ss.map sideS))), some (on n), some (.sh (.tup [.int (f : Nat), .int (fl b : Nat), .int (tot p1)])), none]) (env2 := [some (.sh (.tup [.lst (p1.map legS), .lst (p2.map legS)])), some (.sh (.lst (ss.map sideS))), some (on n), some (.sh (.tup [.int (f : Nat), .int (fl b : Nat), .int (tot p1)])), none]) ?_ ?_ ?_
    · exact fun R h => ⟨_, rfl, h⟩
    · exact fun R h => ⟨Nat.zero_le _, fun _ => h⟩
    · show eqData (.lst (p2.map legS)) (.lst []) fun r => Q r _
      unfold eqData
      have e : pd (.lst (p2.map legS)) = some (.list (p2.map legP)) := by simp only [pd, pd_legs, Option.map_some]
      rw [e]
      refine ⟨shaped_legs p2, shaped_legs [], ?_⟩
      rw [eqv_nil]
      exact h
  rcases hb with ⟨rfl, rfl, hlt⟩ | ⟨hp2, hl2, rfl, hP2, hlt⟩
  · refine if_t (fun Q h => tst Q h) ?_
    refine andv_t (env' := [some (.sh (.tup [.lst (p1.map legS), .lst (([] : List Way).map legS)])), some (.sh (.lst (ss.map sideS))), some (on n), some (.sh (.tup [.int (b : Nat), .int (fl b : Nat), .int (tot p1)])), none]) (fun R h => ?_) ?_
    · refine ⟨_, rfl, _, rfl, b, rfl, ?_⟩
      show R (decide (((fl b : Nat) : Int) = ((fl b : Nat) : Int))) _
      rw [decide_eq_true rfl]
      exact h
    · refine ⟨_, rfl, ?_⟩
      show κ (.sh (.bl (decide (tot p1 < 0)))) _
      rw [decide_eq_true hlt]
      exact hk
  · rw [fl_fl] at *
    have e2 : p2.isEmpty = false := by cases p2 with
      | nil => exact absurd rfl hp2
      | cons _ _ => rfl
    rw [e2] at tst
    refine if_f (fun Q h => tst Q h) ?_
    refine nxs ?_
    refine ⟨_, rfl, ss, p2, fl f, f, n, hp2, hl2, hn, hP2, rfl, ?_⟩
    (try simp only [List.set_cons_zero, List.set_cons_succ, frz_sh1])
    refine seq_v ?_
    refine if_f (env' := [some (.sh (.tup [.lst (p1.map legS), .lst (p2.map legS)])), some (.sh (.lst (ss.map sideS))), some (on n), some (.sh (.tup [.int (f : Nat), .int (f : Nat), .int (tot p1)])), some (.sh (.tup [.int (fl f : Nat), .int (fl f : Nat), .int (tot p2)]))]) (fun Q h => ?_) ?_
    · refine or_f (env' := [some (.sh (.tup [.lst (p1.map legS), .lst (p2.map legS)])), some (.sh (.lst (ss.map sideS))), some (on n), some (.sh (.tup [.int (f : Nat), .int (f : Nat), .int (tot p1)])), some (.sh (.tup [.int (fl f : Nat), .int (fl f : Nat), .int (tot p2)]))]) (fun R h => h) ?_
      refine or_f (env' := [some (.sh (.tup [.lst (p1.map legS), .lst (p2.map legS)])), some (.sh (.lst (ss.map sideS))), some (on n), some (.sh (.tup [.int (f : Nat), .int (f : Nat), .int (tot p1)])), some (.sh (.tup [.int (fl f : Nat), .int (fl f : Nat), .int (tot p2)]))]) (fun R h => ?_) ?_
      · refine ⟨_, rfl, _, rfl, ?_⟩
        show R (!decide ((f : Int) = (f : Int))) _
        rw [decide_eq_true rfl]
        exact h
      · refine ⟨_, rfl, _, rfl, ?_⟩
        show Q (!decide (((fl f : Nat) : Int) = ((fl f : Nat) : Int))) _
        rw [decide_eq_true rfl]
        exact h
    refine nxv ?_
    refine andv_t (env' := [some (.sh (.tup [.lst (p1.map legS), .lst (p2.map legS)])), some (.sh (.lst (ss.map sideS))), some (on n), some (.sh (.tup [.int (f : Nat), .int (f : Nat), .int (tot p1)])), some (.sh (.tup [.int (fl f : Nat), .int (fl f : Nat), .int (tot p2)]))]) (fun R h => ?_) ?_
    · refine ⟨_, rfl, _, rfl, f, rfl, ?_⟩
      show R (decide (((fl f : Nat) : Int) = ((fl f : Nat) : Int))) _
      rw [decide_eq_true rfl]
      exact h
    · refine ⟨_, rfl, div2, _, rfl, div2, ?_⟩
      show κ (.sh (.bl (decide (tot p1 / 2 + tot p2 / 2 < 0)))) _
      rw [decide_eq_true hlt]
      exact hk
end E8
namespace E8
open PySem PySem.Spec PyProof.Rows L2 E8M
def φ_law : Spec := fun ds k => ∃ ns : List Int, ns.length ≤ 63 ∧ ds = [.sh (scrS ns)] ∧ k (.sh (.bl true)) ds
/-- law -/
def w_law : WS := (wSeq (wSet 1 (wOp wIx (wLst (wCons (wC (.int 1)) (wCons (wC (.int 2)) (wCons (wC (.int 3)) (wCons (wC (.int 4)) (wCons (wC (.int 2)) (wCons (wC (.int 3)) (wCons (wC (.int 4)) (wCons (wC (.int 6)) wNil))))))))) (wOp (wII fMod) (wCall φ_law_cell [false, false] [] [none, none] (wCons (wFrz 0) (wCons (wC (.int 0)) wNil))) (wC (.int 8)))))
  (wSeq (wSet 2 (wCall φ_law_point [false, false, false] [] [none, none, none] (wCons (wFrz 0) (wCons (wC (.int 2)) (wCons (wCB wMin2 (wCons (wFrz 1) (wCons (wC (.int 4)) wNil))) wNil)))))
  (wSeq (wSet 3 (wOp (wII fMod) (wCall φ_law_cell [false, false] [] [none, none] (wCons (wFrz 0) (wCons (wC (.int 6)) wNil))) (wC (.int 5))))
  (wSeq (wSet 4 (wCall φ_law_cells [false, false, false] [] [none, none, none] (wCons (wFrz 0) (wCons (wC (.int 7)) (wCons (wC (.int 24)) wNil)))))
  (wSeq (wIf (wB (wOp wEq (wFrz 1) (wC (.int 6)))) (wSeq (wSet 2 (wOp wAdd (wFrz 2) (wSl (wFrz 2) woNone (woSome (wC (.int 2))))))
  (wSeq (wSet 4 (wSl (wFrz 4) woNone (woSome (wC (.int 8)))))
  (wSet 3 (wOp (wII fMod) (wFrz 3) (wC (.int 3)))))) wNext)
  (wSeq (wSet 5 (wCall φ_law_sides [false, false, false, false] [] [none, none, none, none] (wCons (wFrz 4) (wCons (wFrz 1) (wCons (wFrz 2) (wCons (wC (.int 0)) wNil))))))
  (wSeq (wIf (wB (wOp wEq (wFrz 3) (wC (.int 1)))) (wSet 5 (wCall φ_law_sides [false, false, false, false] [] [none, none, none, none] (wCons (wFrz 4) (wCons (wFrz 1) (wCons (wFrz 2) (wCons (wUn wNeg (wC (.int 1))) wNil)))))) wNext)
  (wSeq (wIf (wB (wOp wEq (wFrz 3) (wC (.int 2)))) (wSeq (wSet 6 (wOp (wII fMod) (wOp (wII fDiv) (wCall φ_law_cell [false, false] [] [none, none] (wCons (wFrz 0) (wCons (wC (.int 6)) wNil))) (wC (.int 5))) (wLenV 4)))
  (wSet 5 (wOp wAdd (wOp wAdd (wSl (wFrz 5) woNone (woSome (wFrz 6))) (wCall φ_law_chain [false, false, false] [] [none, none, none] (wCons (wFrz 4) (wCons (wFrz 1) (wCons (wFrz 2) wNil))))) (wSl (wFrz 5) (woSome (wFrz 6)) woNone)))) wNext)
  (wSeq (wIf (wB (wOp wEq (wFrz 3) (wC (.int 3)))) (wSeq (wSet 1 (wOp wAdd (wFrz 1) (wC (.int 1))))
  (wSeq (wSet 7 (wCB wTuple (wCons (wLc (wiT (wCall φ_law_point [false, false, false] [] [none, none, none] (wCons (wFrz 0) (wCons (wC (.int 2)) (wCons (wFrz 1) wNil))))) (wgName 11) wYes (wOp wAdd (wOp (wII fMul) (wC (.int 2)) (wFrz 11)) (wC (.int 1))) [11]) wNil)))
  (wSet 5 (wCall φ_law_between [false, false, false] [] [none, none, none] (wCons (wFrz 4) (wCons (wFrz 1) (wCons (wFrz 7) wNil))))))) wNext)
  (wSeq (wIf (wB (wOp wEq (wFrz 3) (wC (.int 4)))) (wSeq (wSet 1 (wC (.int 4)))
  (wSet 5 (wCall φ_law_bells [false, false] [] [none, none] (wCons (wFrz 0) (wCons (wFrz 4) wNil))))) wNext)
  (wSeq (wSet 8 (wCB wList (wCons (wFrz 5) wNil)))
  (wSeq (wSet 9 (wCall φ_ring [false, false] [] [none, none] (wCons (wFrz 1) (wCons (wFrz 8) wNil))))
  (wSeq (wIf (wB (wOp wNe (wFrz 8) (wFrz 5))) (wRet (wC (.bl false))) wNext)
  (wSeq (wSet 10 (wCall φ_closed [false, false] [] [none, none] (wCons (wFrz 1) (wCons (wFrz 8) wNil))))
  (wSeq (wIf (wB (wIsV 9 false)) (wRet (wAndV (wOp wNe (wFrz 3) (wC (.int 2))) (wAndV (wOp wNe (wFrz 3) (wC (.int 4))) (wOp wNotN (wFrz 10) (wC .non))))) wNext)
  (wSeq (wIf (wOrT (wB (wOp wEq (wFrz 3) (wC (.int 0)))) (wOrT (wB (wOp wNotN (wFrz 10) (wC .non))) (wNotT (wB (wPeek φ_law_ring_good [some 9, none, none] (wConsM 9 (wCons (wFrz 5) (wCons (wOp (wII fMul) (wC (.int 2)) (wFrz 1)) wNil)))))))) (wRet (wC (.bl false))) wNext)
  (wSeq (wDrop (wClear (wbTV 9 0)))
  (wSeq (wDrop (wApp (wbTV 9 1) (wC .non)))
  (wRet (wPeek φ_law_ring_good [none, none, none] (wCons (wCall φ_ring [false, false] [] [none, none] (wCons (wFrz 1) (wCons (wFrz 8) wNil))) (wCons (wFrz 5) (wCons (wOp (wII fMul) (wC (.int 2)) (wFrz 1)) wNil)))))))))))))))))))))))
abbrev ms_law : List Bool := [false]
abbrev n_law : Nat := 12
theorem pick {j : Nat} (h : j < 8) : ∃ c : Nat, atI [oi 1, oi 2, oi 3, oi 4, oi 2, oi 3, oi 4, oi 6] (j : Int) = some (on c) ∧ 1 ≤ c ∧ (c ≤ 4 ∨ c = 6) := by
  match j, h with
  | 0, _ => exact ⟨1, atI_nat rfl, by omega, by omega⟩
  | 1, _ => exact ⟨2, atI_nat rfl, by omega, by omega⟩
  | 2, _ => exact ⟨3, atI_nat rfl, by omega, by omega⟩
  | 3, _ => exact ⟨4, atI_nat rfl, by omega, by omega⟩
  | 4, _ => exact ⟨2, atI_nat rfl, by omega, by omega⟩
  | 5, _ => exact ⟨3, atI_nat rfl, by omega, by omega⟩
  | 6, _ => exact ⟨4, atI_nat rfl, by omega, by omega⟩
  | 7, _ => exact ⟨6, atI_nat rfl, by omega, by omega⟩
theorem qseq {s t : WS} {q : QE} {env : Env} {rt : OD → Env → Prop} {bk ct : Env → Prop} (h : s { q with nx := t q } env) : QE.nx { nx := wSeq s t q, rt := rt, bk := bk, ct := ct } env := h
def sideP (s : Side) : PyData := .tuple [.int (s.f : Nat), .int (s.g : Nat), .int s.c]
theorem pds_sides : ∀ ss : List Side, pds (ss.map sideS) = some (ss.map sideP)
  | [] => rfl
  | s :: ss => by
    rw [List.map_cons, pds, pds_sides ss]
    rfl
theorem sides_lay : ∀ l : List Side, PyData.canLayAll0 (l.map sideP) = true ∧ PyData.depthAll (l.map sideP) ≤ 5
  | [] => by simp [PyData.canLayAll0, PyData.depthAll]
  | w :: l => by
    have ih := sides_lay l
    simp only [List.map_cons, PyData.canLayAll0, PyData.depthAll, sideP, PyData.canLay0, PyData.depth, Bool.and_eq_true, ih.1]
    simp only [Nat.max_le]
    refine ⟨by simp, ?_, ih.2⟩
    simp
theorem shaped_sides (p : List Side) : SeqAt.shaped (.list (p.map sideP)) = true := by
  have h := sides_lay p
  unfold SeqAt.shaped
  rw [Bool.and_eq_true]
  exact ⟨by simp only [PyData.canLay0, h.1], decide_eq_true (by simp only [PyData.depth]; omega)⟩
theorem eqv_sides : ∀ ss : List Side, PyData.eqvAll (ss.map sideP) (ss.map sideP) = true
  | [] => by simp [PyData.eqvAll]
  | s :: ss => by
    have ih := eqv_sides ss
    simp only [List.map_cons, PyData.eqvAll, ih, Bool.and_true]
    simp [sideP, PyData.eqv, PyData.eqvAll]
theorem eq_sides (ss : List Side) {k : Bool → Prop} (h : k true) : eqData (.lst (ss.map sideS)) (.lst (ss.map sideS)) k := by
  have e : pd (.lst (ss.map sideS)) = some (.list (ss.map sideP)) := by simp only [pd, pds_sides, Option.map_some]
  refine eq_data_self e (shaped_sides ss) ?_ h
  simp only [PyData.eqv]
  exact eqv_sides ss
/-- what holds of the sides that were made -/
def Made (w c : Nat) (ss : List Side) : Prop := (∀ s ∈ ss, s.ok (2 * c)) ∧ ss.length ≤ 200 ∧ (w = 0 → ∃ p, E8M.Meets ss p) ∧ (w = 2 ∨ w = 4 → ∀ q, ¬ E8M.Meets ss q)
theorem take_sides (ss : List Side) (r : Nat) : ((cutL (ss.map sideS) none (some (r : Int))).map OD.sh) = sidesO (ss.take r) := by
  rw [cut_take, ← List.map_take, List.map_map]; rfl
theorem drop_sides (ss : List Side) (r : Nat) : ((cutL (ss.map sideS) (some (r : Int)) none).map OD.sh) = sidesO (ss.drop r) := by
  rw [cut_drop, ← List.map_drop, List.map_map]; rfl
theorem h_law : ∀ ds κ, φ_law ds κ → lentOk ms_law ds ∧ w_law (endsOf ms_law ds κ) (startE n_law ds) := by
  rintro ds κ ⟨ns, hns, rfl, hk⟩
  refine ⟨⟨rfl, rfl⟩, ?_⟩
  show w_law _ [some (.sh (scrS ns)), none, none, none, none, none, none, none, none, none, none, none]
  refine seq_v ?_
  refine ⟨by show 8 ≤ sizeLine; decide, fun p0 => ⟨ns, 0, by decide, rfl, fun z0 => ⟨by decide, ?_⟩⟩⟩
  obtain ⟨j0, e0, hj0⟩ := mod_nat (z := z0) (m := 8) (n := 8) rfl (by decide)
  rw [e0]
  obtain ⟨c, ec, hc1, hc6⟩ := pick hj0
  refine ⟨_, ec, ?_⟩
  (try simp only [List.set_cons_zero, List.set_cons_succ, frz_sh1])
  refine seq_v ?_
  refine ⟨ns, 2, min c 4, by decide, by omega, ?_, fun pt hpt _ => ?_⟩
  · show [OD.sh (scrS ns), on 2, oi (min (c : Int) 4)] = _
    rw [show min (c : Int) 4 = ((min c 4 : Nat) : Int) by omega]
  (try simp only [List.set_cons_zero, List.set_cons_succ, frz_sh1])
  refine seq_v ?_
  refine ⟨ns, 6, by decide, rfl, fun z1 => ⟨by decide, ?_⟩⟩
  obtain ⟨w, ew, hw⟩ := mod_nat (z := z1) (m := 5) (n := 5) rfl (by decide)
  rw [ew]
  (try simp only [List.set_cons_zero, List.set_cons_succ, frz_sh1])
  refine seq_v ?_
  refine ⟨ns, 7, 24, hns, by decide, rfl, fun a4 l hl4 hl63 => ?_⟩
  (try simp only [List.set_cons_zero, List.set_cons_succ, frz_sh1])
  refine seq_v ?_
  refine if_to (decide ((c : Int) = 6)) [some (.sh (scrS ns)), some (on c), some (.sh (.tup (intsS pt))), some (on w), some (.lst a4 (intsO l)), none, none, none, none, none, none, none]
    (fun env => ∃ (pt l : List Int) (w : Nat) (a4 : Addr), c ≤ pt.length ∧ 4 ≤ l.length ∧ l.length ≤ 63 ∧ w < 5 ∧ env = [some (.sh (scrS ns)), some (on c), some (.sh (.tup (intsS pt))), some (on w), some (.lst a4 (intsO l)), none, none, none, none, none, none, none]) (fun Q h => h) (fun h nx hn => ?_) (fun h nx hn => ?_) (fun env hI => ?_)
  · have h6 : (c : Int) = 6 := of_decide_eq_true h
    have e2 : intsS pt ++ cutL (intsS pt) none (some 2) = intsS (pt ++ pt.take 2) := by
      rw [show (some (2 : Int)) = some ((2 : Nat) : Int) from rfl, cut_take]
      unfold intsS
      rw [List.map_append, List.map_take]
    have e8 : (cutL (intsS l) none (some 8)).map OD.sh = intsO (l.take 8) := by
      rw [show (some (8 : Int)) = some ((8 : Nat) : Int) from rfl, cut_take]
      unfold intsS intsO
      rw [← List.map_take, List.map_map]; rfl
    refine seq_v ?_
    refine ⟨?_, ?_⟩
    · have h1 := cutL_len (intsS pt) none (some 2)
      have h2 : (intsS pt).length = pt.length := by unfold intsS; rw [List.length_map]
      exact size_ok (by omega)
    rw [e2]
    (try simp only [List.set_cons_zero, List.set_cons_succ, frz_sh1])
    refine seq_v ?_
    refine fun p4 => ?_
    rw [frz_ints, e8]
    (try simp only [List.set_cons_zero, List.set_cons_succ, frz_sh1])
    obtain ⟨w3, ew3, hw3⟩ := mod_nat (z := (w : Int)) (m := 3) (n := 3) rfl (by decide)
    refine ⟨by decide, ?_⟩
    rw [ew3]
    refine hn _ ⟨pt ++ pt.take 2, l.take 8, w3, p4, by rw [List.length_append, List.length_take]; omega, by rw [List.length_take]; omega, by rw [List.length_take]; omega, by omega, rfl⟩
  · have h6 : (c : Int) ≠ 6 := of_decide_eq_false h
    exact hn _ ⟨pt, l, w, a4, by omega, hl4, hl63, hw, rfl⟩
  obtain ⟨pt, l, w, a4, hpt, hl4, hl63, hw, rfl⟩ := hI
  have e4 : frz (.lst a4 (intsO l)) = .lst (intsS l) := by show SD.lst (frzs (intsO l)) = _; rw [frz_ints]
  refine qseq ?_
  refine ⟨l, pt, c, 0, by omega, hc1, by omega, hpt, Int.le_refl _, ?_, fun a5 ss hs5 h5 => ?_⟩
  · show [OD.sh (frz (.lst a4 (intsO l))), on c, .sh (.tup (intsS pt)), oi 0] = _
    rw [e4]
  (try simp only [List.set_cons_zero, List.set_cons_succ, frz_sh1])
  rw [e4]
  -- way 1
  refine seq_v ?_
  refine if_to (decide ((w : Int) = 1)) [some (.sh (scrS ns)), some (on c), some (.sh (.tup (intsS pt))), some (on w), some (.sh (.lst (intsS l))), some (.lst a5 (sidesO ss)), none, none, none, none, none, none]
    (fun env => ∃ (ss : List Side) (a5 : Addr), (∀ s ∈ ss, s.ok (2 * c)) ∧ ss.length ≤ 63 ∧ (w = 0 → ∃ p, E8M.Meets ss p) ∧ env = [some (.sh (scrS ns)), some (on c), some (.sh (.tup (intsS pt))), some (on w), some (.sh (.lst (intsS l))), some (.lst a5 (sidesO ss)), none, none, none, none, none, none]) (fun Q h => h) (fun h nx hn => ?_) (fun h nx hn => ?_) (fun env hI => ?_)
  · have h1 : (w : Int) = 1 := of_decide_eq_true h
    refine ⟨l, pt, c, -1, by omega, hc1, by omega, hpt, by omega, rfl, fun a5 ss hs5 h5 => ?_⟩
    exact hn _ ⟨ss, a5, fun s m => (h5 s m).1, by omega, fun q => by omega, rfl⟩
  · exact hn _ ⟨ss, a5, fun s m => (h5 s m).1, by omega, fun _ => ⟨ptOf pt, fun s m => by have := (h5 s m).2; omega⟩, rfl⟩
  obtain ⟨ss, a5, hok, hs5, hsat, rfl⟩ := hI
  -- way 2
  refine qseq ?_
  refine if_to (decide ((w : Int) = 2)) [some (.sh (scrS ns)), some (on c), some (.sh (.tup (intsS pt))), some (on w), some (.sh (.lst (intsS l))), some (.lst a5 (sidesO ss)), none, none, none, none, none, none]
    (fun env => ∃ (ss : List Side) (a5 : Addr) (x6 : Option OD), (∀ s ∈ ss, s.ok (2 * c)) ∧ ss.length ≤ 200 ∧ (w = 0 → ∃ p, E8M.Meets ss p) ∧ (w = 2 → ∀ q, ¬ E8M.Meets ss q) ∧ env = [some (.sh (scrS ns)), some (on c), some (.sh (.tup (intsS pt))), some (on w), some (.sh (.lst (intsS l))), some (.lst a5 (sidesO ss)), x6, none, none, none, none, none]) (fun Q h => h) (fun h nx hn => ?_) (fun h nx hn => ?_) (fun env hI => ?_)
  · have h1 : (w : Int) = 2 := of_decide_eq_true h
    have ell : ((intsS l).length : Int) = (l.length : Int) := by unfold intsS; rw [List.length_map]
    refine seq_v ?_
    refine ⟨ns, 6, by decide, rfl, fun z => ⟨divS (by decide) (by decide), by rw [ell]; omega, ?_⟩⟩
    obtain ⟨r, er, hr⟩ := mod_nat (z := z / 5) ell (by omega)
    rw [er]
    (try simp only [List.set_cons_zero, List.set_cons_succ, frz_sh1])
    refine fun p1 => ?_
    refine ⟨l, pt, c, by omega, by omega, hc1, by omega, hpt, rfl, fun a6 ch hch hcok hun => ⟨?_, fun p2 p3 => ⟨?_, fun p4 => ?_⟩⟩⟩
    · have := cutL_len (frzs (sidesO ss)) none (some (r : Int))
      rw [frz_sides] at *
      rw [List.length_map] at *
      rw [sidesO_len]
      exact size_ok (by omega)
    · have t1 := cutL_len (frzs (sidesO ss)) none (some (r : Int))
      have t2 := cutL_len (frzs (sidesO ss)) (some (r : Int)) none
      have t3 : (frzs (sidesO ss)).length = ss.length := by rw [frz_sides, List.length_map]
      show ((cutL (frzs (sidesO ss)) none (some (r : Int))).map OD.sh ++ sidesO ch).length + ((cutL (frzs (sidesO ss)) (some (r : Int)) none).map OD.sh).length ≤ sizeLine
      rw [List.length_append, List.length_map, List.length_map, sidesO_len]
      exact size_ok (by omega)
    · have ef : (cutL (frzs (sidesO ss)) none (some (r : Int))).map OD.sh ++ sidesO ch ++ (cutL (frzs (sidesO ss)) (some (r : Int)) none).map OD.sh = sidesO (ss.take r ++ ch ++ ss.drop r) := by
        rw [frz_sides, take_sides, drop_sides]
        unfold sidesO
        rw [List.map_append, List.map_append]
      refine hn _ ⟨ss.take r ++ ch ++ ss.drop r, p4, some (on r), fun s m => ?_, ?_, fun q => by omega, fun _ q hq => hun q fun s m => hq s (List.mem_append_left _ (List.mem_append_right _ m)), ?_⟩
      · rcases List.mem_append.mp m with m | m
        · rcases List.mem_append.mp m with m | m
          · exact hok s (List.mem_of_mem_take m)
          · exact hcok s m
        · exact hok s (List.mem_of_mem_drop m)
      · rw [List.length_append, List.length_append, List.length_take, List.length_drop]
        omega
      · rw [← ef]; rfl
  · have h1 : (w : Int) ≠ 2 := of_decide_eq_false h
    exact hn _ ⟨ss, a5, none, hok, by omega, hsat, fun q => by omega, rfl⟩
  obtain ⟨ss, a5, x6, hok, hs5, hsat, hun, rfl⟩ := hI
  -- way 3
  refine qseq ?_
  refine if_to (decide ((w : Int) = 3)) [some (.sh (scrS ns)), some (on c), some (.sh (.tup (intsS pt))), some (on w), some (.sh (.lst (intsS l))), some (.lst a5 (sidesO ss)), x6, none, none, none, none, none]
    (fun env => ∃ (c : Nat) (ss : List Side) (a5 : Addr) (x6 x7 : Option OD), 1 ≤ c ∧ c ≤ 10 ∧ (∀ s ∈ ss, s.ok (2 * c)) ∧ ss.length ≤ 200 ∧ (w = 0 → ∃ p, E8M.Meets ss p) ∧ (w = 2 → ∀ q, ¬ E8M.Meets ss q) ∧ env = [some (.sh (scrS ns)), some (on c), some (.sh (.tup (intsS pt))), some (on w), some (.sh (.lst (intsS l))), some (.lst a5 (sidesO ss)), x6, x7, none, none, none, none]) (fun Q h => h) (fun h nx hn => ?_) (fun h nx hn => ?_) (fun env hI => ?_)
  · have h1 : (w : Int) = 3 := of_decide_eq_true h
    refine seq_v ?_
    refine ⟨ns, 2, c + 1, by decide, by omega, rfl, fun pt3 h3 _ => ?_⟩
    have el3 : (intsS pt3).length = c + 1 := by unfold intsS; rw [List.length_map, h3]
    refine ⟨by rw [el3]; exact size_ok (by omega), ?_⟩
    refine lc_ind (fun k acc env => ∃ l3 : List Int, l3.length = k ∧ acc = intsO l3 ∧ env = [some (.sh (scrS ns)), some (on (c + 1)), some (.sh (.tup (intsS pt))), some (on w), some (.sh (.lst (intsS l))), some (.lst a5 (sidesO ss)), x6, none, none, none, none, none]) ⟨[], rfl, rfl, rfl⟩ (fun k d acc env e hI nxt hn' => ?_) (fun ys env hI p7 => ?_)
    · obtain ⟨l3, h3, rfl, rfl⟩ := hI
      obtain ⟨z, hz, rfl⟩ := map_at e
      refine ⟨mul2, ?_⟩
      exact hn' _ _ ⟨l3 ++ [2 * z + 1], by rw [List.length_append, h3]; rfl, by unfold intsO; rw [List.map_append]; rfl, rfl⟩
    · obtain ⟨l3, h3', rfl, rfl⟩ := hI
      (try simp only [List.set_cons_zero, List.set_cons_succ, frz_sh1])
      show wSet 5 (wCall φ_law_between [false, false, false] [] [none, none, none] (wCons (wFrz 4) (wCons (wFrz 1) (wCons (wFrz 7) wNil)))) _ [some (.sh (scrS ns)), some (on (c + 1)), some (.sh (.tup (intsS pt))), some (on w), some (.sh (.lst (intsS l))), some (.lst a5 (sidesO ss)), x6, some (.sh (.tup (frzs (intsO l3)))), none, none, none, none]
      rw [frz_ints]
      refine ⟨l, l3, c + 1, by omega, by omega, by omega, by omega, rfl, fun a6 ss6 hl6 hok6 => ?_⟩
      exact hn _ ⟨c + 1, ss6, a6, x6, some (.sh (.tup (intsS l3))), by omega, by omega, hok6, by omega, fun q => by omega, fun q => by omega, rfl⟩
  · have h1 : (w : Int) ≠ 3 := of_decide_eq_false h
    exact hn _ ⟨c, ss, a5, x6, none, hc1, by omega, hok, hs5, hsat, hun, rfl⟩
  obtain ⟨c, ss, a5, x6, x7, hc1, hc10, hok, hs5, hsat, hun, rfl⟩ := hI
  -- way 4
  refine qseq ?_
  refine if_to (decide ((w : Int) = 4)) [some (.sh (scrS ns)), some (on c), some (.sh (.tup (intsS pt))), some (on w), some (.sh (.lst (intsS l))), some (.lst a5 (sidesO ss)), x6, x7, none, none, none, none]
    (fun env => ∃ (c : Nat) (ss : List Side) (a5 : Addr), 1 ≤ c ∧ c ≤ 10 ∧ Made w c ss ∧ env = [some (.sh (scrS ns)), some (on c), some (.sh (.tup (intsS pt))), some (on w), some (.sh (.lst (intsS l))), some (.lst a5 (sidesO ss)), x6, x7, none, none, none, none]) (fun Q h => h) (fun h nx hn => ?_) (fun h nx hn => ?_) (fun env hI => ?_)
  · have h1 : (w : Int) = 4 := of_decide_eq_true h
    refine seq_v ?_
    refine c_v ?_
    (try simp only [List.set_cons_zero, List.set_cons_succ, frz_sh1])
    refine ⟨ns, l, by omega, rfl, fun a6 ss6 hl6 hok6 hun6 => ?_⟩
    exact hn _ ⟨4, ss6, a6, by omega, by omega, ⟨hok6, by omega, fun q => by omega, fun _ => hun6⟩, rfl⟩
  · have h1 : (w : Int) ≠ 4 := of_decide_eq_false h
    exact hn _ ⟨c, ss, a5, hc1, hc10, ⟨hok, hs5, hsat, fun q => hun (by omega)⟩, rfl⟩
  obtain ⟨c, ss, a5, hc1, hc10, ⟨hok, hs5, hsat, hun⟩, rfl⟩ := hI
  have eS : (ss.map sideS).map OD.sh = sidesO ss := by rw [List.map_map]; rfl
  have e2 : (2 : Int) * (c : Int) = ((2 * c : Nat) : Int) := by omega
  have e8 : ∀ p : Addr, frz (.lst p ((ss.map sideS).map OD.sh)) = .lst (ss.map sideS) := fun p => by show SD.lst (frzs ((ss.map sideS).map OD.sh)) = _; rw [frzs_sh]
  have unsat : ∀ p1 p2, IsRing (ways ss) (2 * c) p1 p2 → ∀ q, ¬ E8M.Meets ss q := fun p1 p2 h q hq => ring_unsat h (p := q) fun w m => by
    obtain ⟨s, h1, h2, h3⟩ := ways_of m
    have := hq s (List.mem_of_getElem? h1)
    rcases h3 with ⟨a, b⟩ | ⟨a, b⟩
    · rw [a, b, h2]; exact this
    · rw [a, b, h2]; omega
  refine qseq ?_
  refine fun p8 => ?_
  (try simp only [List.set_cons_zero, List.set_cons_succ, frz_sh1])
  refine seq_v ?_
  show wSet 9 (wCall φ_ring [false, false] [] [none, none] (wCons (wFrz 1) (wCons (wFrz 8) wNil))) _ [some (.sh (scrS ns)), some (on c), some (.sh (.tup (intsS pt))), some (on w), some (.sh (.lst (intsS l))), some (.sh (.lst (frzs (sidesO ss)))), x6, x7, some (.lst p8 ((frzs (sidesO ss)).map OD.sh)), none, none, none]
  rw [frz_sides]
  refine ⟨c, ss, hc1, by omega, by omega, hok, ?_, fun d9 h9 => ?_⟩
  · show [on c, OD.sh (frz (.lst p8 ((ss.map sideS).map OD.sh)))] = _
    rw [e8]
  (try simp only [List.set_cons_zero, List.set_cons_succ, frz_sh1])
  rw [e8]
  refine seq_v ?_
  refine if_f (env' := [some (.sh (scrS ns)), some (on c), some (.sh (.tup (intsS pt))), some (on w), some (.sh (.lst (intsS l))), some (.sh (.lst (ss.map sideS))), x6, x7, some (.sh (.lst (ss.map sideS))), some d9, none, none]) (fun Q h => ?_) ?_
  · refine t_ne (x := .sh (.lst (ss.map sideS))) (y := .sh (.lst (ss.map sideS))) (env1 := [some (.sh (scrS ns)), some (on c), some (.sh (.tup (intsS pt))), some (on w), some (.sh (.lst (intsS l))), some (.sh (.lst (ss.map sideS))), x6, x7, some (.sh (.lst (ss.map sideS))), some d9, none, none]) (env2 := [some (.sh (scrS ns)), some (on c), some (.sh (.tup (intsS pt))), some (on w), some (.sh (.lst (intsS l))), some (.sh (.lst (ss.map sideS))), x6, x7, some (.sh (.lst (ss.map sideS))), some d9, none, none]) ?_ ?_ ?_
    · exact fun R h => h
    · exact fun R h => h
    · show eqData (.lst (ss.map sideS)) (.lst (ss.map sideS)) fun r => Q (!r) _
      exact eq_sides ss (k := fun r => Q (!r) _) h
  refine nxs ?_
  refine ⟨c, ss, by omega, hok, rfl, fun d10 h10 => ?_⟩
  (try simp only [List.set_cons_zero, List.set_cons_succ, frz_sh1])
  have hspec := closed_spec hok
  rcases h9 with ⟨rfl, q, hq⟩ | ⟨a, b, p1, p2, hring, rfl⟩
  · refine seq_v ?_
    refine if_t (env' := [some (.sh (scrS ns)), some (on c), some (.sh (.tup (intsS pt))), some (on w), some (.sh (.lst (intsS l))), some (.sh (.lst (ss.map sideS))), x6, x7, some (.sh (.lst (ss.map sideS))), some (.sh .non), some d10, none]) (fun Q h => h) ?_
    unfold wRet
    have hw2 : w ≠ 2 ∧ w ≠ 4 := ⟨fun e => hun (.inl e) q hq, fun e => hun (.inr e) q hq⟩
    refine andv_t (env' := [some (.sh (scrS ns)), some (on c), some (.sh (.tup (intsS pt))), some (on w), some (.sh (.lst (intsS l))), some (.sh (.lst (ss.map sideS))), x6, x7, some (.sh (.lst (ss.map sideS))), some (.sh .non), some d10, none]) (fun R h => ?_) ?_
    · show R (!decide ((w : Int) = 2)) _
      rw [decide_eq_false (by omega)]
      exact h
    refine andv_t (env' := [some (.sh (scrS ns)), some (on c), some (.sh (.tup (intsS pt))), some (on w), some (.sh (.lst (intsS l))), some (.sh (.lst (ss.map sideS))), x6, x7, some (.sh (.lst (ss.map sideS))), some (.sh .non), some d10, none]) (fun R h => ?_) ?_
    · show R (!decide ((w : Int) = 4)) _
      rw [decide_eq_false (by omega)]
      exact h
    cases e : closedO (2 * c) ss with
    | none => rw [e] at hspec; exact absurd hq (hspec q)
    | some t =>
      rw [e] at h10
      obtain ⟨b1, bs, _, rfl⟩ := h10
      exact hk
  · have hno := unsat p1 p2 hring
    have hw0 : w ≠ 0 := fun e => by
      obtain ⟨q, hq⟩ := hsat e
      exact hno q hq
    have d10e : d10 = .sh .non := by
      cases e : closedO (2 * c) ss with
      | none => rw [e] at h10; exact h10
      | some t =>
        rw [e] at hspec
        obtain ⟨q, hq⟩ := point hspec.1
        exact absurd ((hspec.2 q).mp hq) (hno q)
    subst d10e
    have hl2 : p2.length < sizeLine := by
      obtain ⟨_, _, f, _, ⟨h, _⟩ | ⟨_, h, _⟩⟩ := hring
      · rw [h]; decide
      · exact Nat.lt_of_le_of_lt h (size_lt (by omega))
    refine seq_v ?_
    refine if_f (env' := [some (.sh (scrS ns)), some (on c), some (.sh (.tup (intsS pt))), some (on w), some (.sh (.lst (intsS l))), some (.sh (.lst (ss.map sideS))), x6, x7, some (.sh (.lst (ss.map sideS))), some (.tup [.lst a (legsO p1), .lst b (legsO p2)]), some (.sh .non), none]) (fun Q h => h) ?_
    refine nxs ?_
    refine if_f (env' := [some (.sh (scrS ns)), some (on c), some (.sh (.tup (intsS pt))), some (on w), some (.sh (.lst (intsS l))), some (.sh (.lst (ss.map sideS))), x6, x7, some (.sh (.lst (ss.map sideS))), some (.tup [.lst a (legsO p1), .lst b (legsO p2)]), some (.sh .non), none]) (fun Q h => ?_) ?_
    · refine or_f (env' := [some (.sh (scrS ns)), some (on c), some (.sh (.tup (intsS pt))), some (on w), some (.sh (.lst (intsS l))), some (.sh (.lst (ss.map sideS))), x6, x7, some (.sh (.lst (ss.map sideS))), some (.tup [.lst a (legsO p1), .lst b (legsO p2)]), some (.sh .non), none]) (fun R h => ?_) ?_
      · show R (decide ((w : Int) = 0)) _
        rw [decide_eq_false (by omega)]
        exact h
      refine or_f (env' := [some (.sh (scrS ns)), some (on c), some (.sh (.tup (intsS pt))), some (on w), some (.sh (.lst (intsS l))), some (.sh (.lst (ss.map sideS))), x6, x7, some (.sh (.lst (ss.map sideS))), some (.tup [.lst a (legsO p1), .lst b (legsO p2)]), some (.sh .non), none]) (fun R h => h) ?_
      refine ⟨mul2, ss, p1, p2, 2 * c, by omega, hring, ?_, trivial, h⟩
      show [OD.sh (.tup [.lst (frzs (legsO p1)), .lst (frzs (legsO p2))]), .sh (.lst (ss.map sideS)), oi (2 * (c : Int))] = _
      unfold legsO
      rw [frzs_sh, frzs_sh, e2]
    refine nxs ?_
    refine ⟨_, rfl, rfl, rfl, _, rfl, ?_⟩
    (try simp only [List.set_cons_zero, List.set_cons_succ, frz_sh1])
    refine seq_v ?_
    refine ⟨_, rfl, rfl, rfl, _, rfl, _, rfl, rfl, by unfold legsO; rw [List.length_map, List.length_map]; exact hl2, ?_⟩
    (try simp only [List.set_cons_zero, List.set_cons_succ, frz_sh1])
    refine ⟨c, ss, hc1, by omega, by omega, hok, rfl, fun d11 h11 => ?_⟩
    rcases h11 with ⟨rfl, q, hq⟩ | ⟨a', b', p1', p2', hring', rfl⟩
    · exact absurd hq (hno q)
    · refine ⟨mul2, ss, p1', p2', 2 * c, by omega, hring', ?_, trivial, hk⟩
      show [OD.sh (.tup [.lst (frzs (legsO p1')), .lst (frzs (legsO p2'))]), .sh (.lst (ss.map sideS)), oi (2 * (c : Int))] = _
      unfold legsO
      rw [frzs_sh, frzs_sh, e2]
end E8
namespace E8
open PySem PySem.Spec PyProof.Rows L2 E8M
theorem ints_rep {K : PySem.W.Frag} {Z : Hp} : ∀ ns : List Int, RepSs K Z (ns.map V.int) (ns.map SD.int)
  | [] => .nil
  | n :: ns => .cons (.int n) (ints_rep ns)
/-- what the law is asked -/
theorem law_asks {K : PySem.W.Frag} {H : Hp} {a : Addr} {ns : List Int} (hl : ns.length ≤ 63) (hS : SqL K H a (ns.map V.int)) {E : XK} : spOf K 1 φ_law [.ref a] H (fun v _ => v = .bl true) E := by
  refine ⟨rfl, H, [.sh (scrS ns)], fun d _ => d = .sh (.bl true), ⟨Same.refl _, .nil, .cons (.sh (.scr hS (ints_rep ns))) .nil, by simp [fps, fp, fpE], fun b m => by simp [fps, fp, fpE] at m⟩, ⟨ns, hl, rfl, rfl⟩, fun d outs hd v Z' H' _ g => ?_⟩
  subst hd
  have rs := g.vals
  cases rs with
  | cons r _ => cases r with
    | sh r => cases r; rfl
end E8
namespace E8
open PySem PySem.Spec PyProof.Rows L2
def topS (i : Nat) : Stmt := PySem.Challenge.pw_eightsides_k14_ring_walked.main.body.getD i (.Pass ⟨0, 0, 0, 0⟩)
abbrev FnP (K : PySem.W.Frag) (mg : Str → Option Value) (x : Str) (st : Stmt) : Prop := ∃ f fd, FunD K x x (defArgs st) (defBody st) (defScope st) [] [] f fd ∧ mg x = some (.ref f)
abbrev s_flipped : Stmt := topS 1
abbrev N_flipped : List Str := ["f"]
theorem sc_flipped : FnScope N_flipped ["f"] (defScope s_flipped) := ⟨rfl, rfl, rfl, by decide +kernel, rfl, by decide +kernel, by decide +kernel⟩
theorem cal_flipped {P : Program} {w : World} {K : PySem.W.Frag} {mg : Str → Option Value} {base : Heap} (T : Blt mg)  (F : FnP K mg "flipped" s_flipped) : Cal P w K mg base "flipped" 1 1 φ_flipped := by
  obtain ⟨f, fd, F, hm⟩ := F
  refine cal_mk (ps := ["f"]) ms_flipped F sc_flipped rfl (ws := w_flipped) (fun cdv A outer s H E hr => ?_) h_flipped hm (fun _ _ _ _ _ _ us hl => match us, hl with | [_], _ => rfl)
  exact (dss_one (ds_ret (de_op d_xor (de_f 0) de_int)))
abbrev s_ways_round : Stmt := topS 3
abbrev N_ways_round : List Str := ["sides", "steps", "place", "side"]
theorem sc_ways_round : FnScope N_ways_round ["sides"] (defScope s_ways_round) := ⟨rfl, rfl, rfl, by decide +kernel, rfl, by decide +kernel, by decide +kernel⟩
theorem cal_ways_round {P : Program} {w : World} {K : PySem.W.Frag} {mg : Str → Option Value} {base : Heap} (T : Blt mg)  (F : FnP K mg "ways_round" s_ways_round) : Cal P w K mg base "ways_round" 1 1 φ_ways_round := by
  obtain ⟨f, fd, F, hm⟩ := F
  refine cal_mk (ps := ["sides"]) ms_ways_round F sc_ways_round rfl (ws := w_ways_round) (fun cdv A outer s H E hr => ?_) h_ways_round hm (fun _ _ _ _ _ _ us hl => match us, hl with | [_], _ => rfl)
  exact (dss_cons (ds_set 1 sc_ways_round.nd (de_lst da_nil))
  (dss_cons (ds_for PassesOwn.never rfl (di_enum T.enumerate (da_cons (de_f 0) da_nil)) (dg_t [2, 3] rfl (pgs_cons (pg_name (i := 2) sc_ways_round.nd rfl (Or.inl rfl)) (pgs_cons (pg_name (i := 3) sc_ways_round.nd rfl (Or.inl rfl)) pgs_nil))) (dss_cons (ds_expr (de_app (db_v 1) (de_tup (da_cons (de_f 2) (da_cons (de_ixv 3 de_int) (da_cons (de_ixv 3 de_int) (da_cons (de_ixv 3 de_int) da_nil)))))))
  (dss_one (ds_if (dt_cmp (d_ne hr.units) (de_ixv 3 de_int) (de_ixv 3 de_int) (nomark _)) (dss_one (ds_expr (de_app (db_v 1) (de_tup (da_cons (de_f 2) (da_cons (de_ixv 3 de_int) (da_cons (de_ixv 3 de_int) (da_cons (de_ixv 3 de_int) da_nil)))))))) dss_nil))))
  (dss_one (ds_ret (de_m 1)))))
abbrev s_better : Stmt := topS 4
abbrev N_better : List Str := ["found", "end", "number"]
theorem sc_better : FnScope N_better ["found", "end", "number"] (defScope s_better) := ⟨rfl, rfl, rfl, by decide +kernel, rfl, by decide +kernel, by decide +kernel⟩
theorem cal_better {P : Program} {w : World} {K : PySem.W.Frag} {mg : Str → Option Value} {base : Heap} (T : Blt mg)  (F : FnP K mg "better" s_better) : Cal P w K mg base "better" 1 3 φ_better := by
  obtain ⟨f, fd, F, hm⟩ := F
  refine cal_mk (ps := ["found", "end", "number"]) ms_better F sc_better rfl (ws := w_better) (fun cdv A outer s H E hr => ?_) h_better hm (fun _ _ _ _ _ _ us hl => match us, hl with | [_, _, _], _ => rfl)
  exact (dss_one (ds_ret (de_or (de_dnotinv 0 (hu_of hr) (de_f 1)) (de_one (de_cmp d_lt (de_f 2) (de_ix (de_dgetv 0 (hu_of hr) (de_f 1)) de_int) (nomark _))))))
abbrev s_chains_from : Stmt := topS 5
abbrev N_chains_from : List Str := ["begin", "steps", "most", "found", "step", "k", "longer", "ahead", "number"]
theorem sc_chains_from : FnScope N_chains_from ["begin", "steps", "most"] (defScope s_chains_from) := ⟨rfl, rfl, rfl, by decide +kernel, rfl, by decide +kernel, by decide +kernel⟩
theorem cal_chains_from {P : Program} {w : World} {K : PySem.W.Frag} {mg : Str → Option Value} {base : Heap} (T : Blt mg) (c_better : Cal P w K mg base "better" 1 3 φ_better) (c_flipped : Cal P w K mg base "flipped" 1 1 φ_flipped) (F : FnP K mg "chains_from" s_chains_from) : Cal P w K mg base "chains_from" 2 3 φ_chains_from := by
  obtain ⟨f, fd, F, hm⟩ := F
  refine cal_mk (ps := ["begin", "steps", "most"]) ms_chains_from F sc_chains_from rfl (ws := w_chains_from) (fun cdv A outer s H E hr => ?_) h_chains_from hm (fun _ _ _ _ _ _ us hl => match us, hl with | [_, _, _], _ => rfl)
  exact (dss_cons (ds_set 3 sc_chains_from.nd de_dnew)
  (dss_cons (ds_for PassesOwn.never rfl (di_l (de_f 1)) (dg_n 4 sc_chains_from.nd) (dss_one (ds_if (dw_pt (dw_and (dt_cmp (d_eq hr.units) (de_ixv 4 de_int) (de_f 0) (nomark _)) (dw_and1 (dt_v (de_fn [true, false, false] c_better (hr.mono (by decide)) (da_lend 3 (da_cons (de_ixv 4 de_int) (da_cons (de_ixv 4 de_int) da_nil)))))))) (dss_one (ds_dset (hu_of hr) (db_v 3) (de_ixv 4 de_int) (de_tup (da_cons (de_ixv 4 de_int) (da_cons (de_lst (da_cons (de_sl (de_f 4) do_none (do_some de_int)) da_nil)) da_nil))))) dss_nil)))
  (dss_cons (ds_for PassesOwn.never rfl (di_r1 T.range (da_cons (de_op d_sub (de_f 2) de_int) da_nil)) (dg_n 5 sc_chains_from.nd) (dss_cons (ds_set 6 sc_chains_from.nd (de_ct c_dict T.dict bt_dict (da_cons (de_f 3) da_nil)))
  (dss_cons (ds_for PassesOwn.never rfl (di_l (de_f 1)) (dg_n 4 sc_chains_from.nd) (dss_cons (ds_set 7 sc_chains_from.nd (de_fn [false] c_flipped (hr.mono (by decide)) (da_cons (de_ixv 4 de_int) da_nil)))
  (dss_one (ds_if (dt_dinv 3 (hu_of hr) (de_f 7)) (dss_cons (ds_set 8 sc_chains_from.nd (de_op d_addG (de_ix (de_dgetv 3 (hu_of hr) (de_f 7)) de_int) (de_ixv 4 de_int)))
  (dss_one (ds_if (dt_v (de_fn [true, false, false] c_better (hr.mono (by decide)) (da_lend 6 (da_cons (de_ixv 4 de_int) (da_cons (de_f 8) da_nil))))) (dss_one (ds_dset (hu_of hr) (db_v 6) (de_ixv 4 de_int) (de_tup (da_cons (de_f 8) (da_cons (de_op d_addG (de_ix (de_dgetv 3 (hu_of hr) (de_f 7)) de_int) (de_lst (da_cons (de_sl (de_f 4) do_none (do_some de_int)) da_nil))) da_nil))))) dss_nil))) dss_nil))))
  (dss_cons (ds_if (dt_cmp (d_eqK hr.units) (de_f 6) (de_f 3) (nomark _)) (dss_one (ds_ret (de_m 3))) dss_nil)
  (dss_one (ds_set 3 sc_chains_from.nd (de_f 6)))))))
  (dss_one (ds_ret (de_m 3))))))
abbrev s_ring : Stmt := topS 6
abbrev N_ring : List Str := ["count", "sides", "steps", "chains", "f", "found", "back"]
theorem sc_ring : FnScope N_ring ["count", "sides"] (defScope s_ring) := ⟨rfl, rfl, rfl, by decide +kernel, rfl, by decide +kernel, by decide +kernel⟩
theorem cal_ring {P : Program} {w : World} {K : PySem.W.Frag} {mg : Str → Option Value} {base : Heap} (T : Blt mg) (c_ways_round : Cal P w K mg base "ways_round" 1 1 φ_ways_round) (c_chains_from : Cal P w K mg base "chains_from" 2 3 φ_chains_from) (c_flipped : Cal P w K mg base "flipped" 1 1 φ_flipped) (F : FnP K mg "ring" s_ring) : Cal P w K mg base "ring" 3 2 φ_ring := by
  obtain ⟨f, fd, F, hm⟩ := F
  refine cal_mk (ps := ["count", "sides"]) ms_ring F sc_ring rfl (ws := w_ring) (fun cdv A outer s H E hr => ?_) h_ring hm (fun _ _ _ _ _ _ us hl => match us, hl with | [_, _], _ => rfl)
  exact (dss_cons (ds_set 2 sc_ring.nd (de_fn [false] c_ways_round (hr.mono (by decide)) (da_cons (de_f 1) da_nil)))
  (dss_cons (ds_set 3 sc_ring.nd (de_lst da_nil))
  (dss_cons (ds_for PassesOwn.never rfl (di_r1 T.range (da_cons (de_op d_mul de_int (de_f 0)) da_nil)) (dg_n 4 sc_ring.nd) (dss_cons (ds_set 5 sc_ring.nd (de_fn [false, false, false] c_chains_from (hr.mono (by decide)) (da_cons (de_f 4) (da_cons (de_f 2) (da_cons (de_op d_mul de_int (de_f 0)) da_nil)))))
  (dss_cons (ds_if (dw_pt (dw_and (dt_dinv 5 (hu_of hr) (de_fn [false] c_flipped (hr.mono (by decide)) (da_cons (de_f 4) da_nil))) (dw_and1 (dt_cmp d_lt (de_ix (de_dgetv 5 (hu_of hr) (de_fn [false] c_flipped (hr.mono (by decide)) (da_cons (de_f 4) da_nil))) de_int) de_int (nomark _))))) (dss_one (ds_ret (de_tupO (da_cons (de_ct c_list T.list bt_list (da_cons (de_ix (de_dgetv 5 (hu_of hr) (de_fn [false] c_flipped (hr.mono (by decide)) (da_cons (de_f 4) da_nil))) de_int) da_nil)) (da_cons (de_lst da_nil) da_nil))))) dss_nil)
  (dss_one (ds_expr (de_app (db_v 3) (de_f 5)))))))
  (dss_cons (ds_for PassesOwn.never rfl (di_r1 T.range (da_cons (de_op d_mul de_int (de_f 0)) da_nil)) (dg_n 4 sc_ring.nd) (dss_cons (ds_set 6 sc_ring.nd (de_fn [false] c_flipped (hr.mono (by decide)) (da_cons (de_f 4) da_nil)))
  (dss_one (ds_if (dw_pt (dw_and (dt_din (hu_of hr) (de_f 4) (de_ixv 3 (de_f 4))) (dw_and1 (dt_din (hu_of hr) (de_f 6) (de_ixv 3 (de_f 6)))))) (dss_one (ds_if (dt_cmp d_lt (de_op d_addG (de_op d_div (de_ix (de_dget (hu_of hr) (de_ixv 3 (de_f 4)) (de_f 4)) de_int) de_int) (de_op d_div (de_ix (de_dget (hu_of hr) (de_ixv 3 (de_f 6)) (de_f 6)) de_int) de_int)) de_int (nomark _)) (dss_one (ds_ret (de_tupO (da_cons (de_ct c_list T.list bt_list (da_cons (de_ix (de_dget (hu_of hr) (de_ixv 3 (de_f 4)) (de_f 4)) de_int) da_nil)) (da_cons (de_ct c_list T.list bt_list (da_cons (de_ix (de_dget (hu_of hr) (de_ixv 3 (de_f 6)) (de_f 6)) de_int) da_nil)) da_nil))))) dss_nil)) dss_nil))))
  (dss_one (ds_ret de_non))))))
abbrev s_added : Stmt := topS 8
abbrev N_added : List Str := ["one", "other"]
theorem sc_added : FnScope N_added ["one", "other"] (defScope s_added) := ⟨rfl, rfl, rfl, by decide +kernel, rfl, by decide +kernel, by decide +kernel⟩
theorem cal_added {P : Program} {w : World} {K : PySem.W.Frag} {mg : Str → Option Value} {base : Heap} (T : Blt mg)  (F : FnP K mg "added" s_added) : Cal P w K mg base "added" 1 2 φ_added := by
  obtain ⟨f, fd, F, hm⟩ := F
  refine cal_mk (ps := ["one", "other"]) ms_added F sc_added rfl (ws := w_added) (fun cdv A outer s H E hr => ?_) h_added hm (fun _ _ _ _ _ _ us hl => match us, hl with | [_, _], _ => rfl)
  exact (dss_cons (ds_if (dw_pt (dw_or (dt_cmp d_isN (de_f 0) de_non (nomark _)) (dw_or1 (dt_cmp d_isN (de_f 1) de_non (nomark _))))) (dss_one (ds_ret de_non)) dss_nil)
  (dss_one (ds_ret (de_op d_addG (de_f 0) (de_f 1)))))
abbrev s_lesser : Stmt := topS 9
abbrev N_lesser : List Str := ["one", "other"]
theorem sc_lesser : FnScope N_lesser ["one", "other"] (defScope s_lesser) := ⟨rfl, rfl, rfl, by decide +kernel, rfl, by decide +kernel, by decide +kernel⟩
theorem cal_lesser {P : Program} {w : World} {K : PySem.W.Frag} {mg : Str → Option Value} {base : Heap} (T : Blt mg)  (F : FnP K mg "lesser" s_lesser) : Cal P w K mg base "lesser" 1 2 φ_lesser := by
  obtain ⟨f, fd, F, hm⟩ := F
  refine cal_mk (ps := ["one", "other"]) ms_lesser F sc_lesser rfl (ws := w_lesser) (fun cdv A outer s H E hr => ?_) h_lesser hm (fun _ _ _ _ _ _ us hl => match us, hl with | [_, _], _ => rfl)
  exact (dss_cons (ds_if (dt_cmp d_isN (de_f 0) de_non (nomark _)) (dss_one (ds_ret (de_m 1))) dss_nil)
  (dss_cons (ds_if (dw_pt (dw_or (dt_cmp d_isN (de_f 1) de_non (nomark _)) (dw_or1 (dt_cmp d_le (de_f 0) (de_f 1) (nomark _))))) (dss_one (ds_ret (de_m 0))) dss_nil)
  (dss_one (ds_ret (de_m 1)))))
abbrev s_wide : Stmt := topS 11
abbrev N_wide : List Str := ["count", "table", "f", "line", "g"]
theorem sc_wide : FnScope N_wide ["count"] (defScope s_wide) := ⟨rfl, rfl, rfl, by decide +kernel, rfl, by decide +kernel, by decide +kernel⟩
theorem cal_wide {P : Program} {w : World} {K : PySem.W.Frag} {mg : Str → Option Value} {base : Heap} (T : Blt mg) (c_flipped : Cal P w K mg base "flipped" 1 1 φ_flipped) (F : FnP K mg "wide" s_wide) : Cal P w K mg base "wide" 2 1 φ_wide := by
  obtain ⟨f, fd, F, hm⟩ := F
  refine cal_mk (ps := ["count"]) ms_wide F sc_wide rfl (ws := w_wide) (fun cdv A outer s H E hr => ?_) h_wide hm (fun _ _ _ _ _ _ us hl => match us, hl with | [_], _ => rfl)
  exact (dss_cons (ds_set 1 sc_wide.nd (de_lst da_nil))
  (dss_cons (ds_for PassesOwn.never rfl (di_r1 T.range (da_cons (de_op d_mul de_int (de_f 0)) da_nil)) (dg_n 2 sc_wide.nd) (dss_cons (ds_setLc (i := 3) (j := 4) (own := [("g", 4)]) rfl sc_wide.nd rfl rfl (sw_true rfl rfl rfl (by decide +kernel)) (di_r1 T.range (da_cons (de_op d_mul de_int (de_f 0)) da_nil)) (blkOk_by (own := [("g", 4)]) (N := N_wide) (sc := defScope s_wide) (by decide +kernel)) (fun _ _ _ _ _ => pg_name sc_wide.nd rfl (Or.inl rfl)) (by decide) (fun _ _ _ _ _ => dts_nil) (fun _ _ _ _ _ => de_non))
  (dss_cons (ds_seti (db_v 3) (de_fn [false] c_flipped (hr.mono (by decide)) (da_cons (de_f 2) da_nil)) de_int)
  (dss_one (ds_expr (de_app (db_v 1) (de_m 3)))))))
  (dss_one (ds_ret (de_m 1)))))
abbrev s_copied : Stmt := topS 12
abbrev N_copied : List Str := ["table", "line"]
theorem sc_copied : FnScope N_copied ["table"] (defScope s_copied) := ⟨rfl, rfl, rfl, by decide +kernel, rfl, by decide +kernel, by decide +kernel⟩
theorem cal_copied {P : Program} {w : World} {K : PySem.W.Frag} {mg : Str → Option Value} {base : Heap} (T : Blt mg)  (F : FnP K mg "copied" s_copied) : Cal P w K mg base "copied" 1 1 φ_copied := by
  obtain ⟨f, fd, F, hm⟩ := F
  refine cal_mk (ps := ["table"]) ms_copied F sc_copied rfl (ws := w_copied) (fun cdv A outer s H E hr => ?_) h_copied hm (fun _ _ _ _ _ _ us hl => match us, hl with | [_], _ => rfl)
  exact (dss_one (ds_ret (de_lc (j := 1) (own := [("line", 1)]) rfl sc_copied.nd (di_l (de_f 0)) (blkOk_by (own := [("line", 1)]) (N := N_copied) (sc := defScope s_copied) (by decide +kernel)) (fun _ _ _ _ _ => pg_name sc_copied.nd rfl (Or.inl rfl)) (by decide) (fun _ _ _ _ _ => dts_nil) (fun _ _ _ _ _ => (de_ct c_list T.list bt_list (da_cons (de_f 1) da_nil))))))
abbrev s_led : Stmt := topS 13
abbrev N_led : List Str := ["table", "f", "g", "number", "back", "come", "line", "once", "twice"]
theorem sc_led : FnScope N_led ["table", "f", "g", "number"] (defScope s_led) := ⟨rfl, rfl, rfl, by decide +kernel, rfl, by decide +kernel, by decide +kernel⟩
theorem cal_led {P : Program} {w : World} {K : PySem.W.Frag} {mg : Str → Option Value} {base : Heap} (T : Blt mg) (c_flipped : Cal P w K mg base "flipped" 1 1 φ_flipped) (c_added : Cal P w K mg base "added" 1 2 φ_added) (c_lesser : Cal P w K mg base "lesser" 1 2 φ_lesser) (F : FnP K mg "led" s_led) : Cal P w K mg base "led" 2 4 φ_led := by
  obtain ⟨f, fd, F, hm⟩ := F
  refine cal_mk (ps := ["table", "f", "g", "number"]) ms_led F sc_led rfl (ws := w_led) (fun cdv A outer s H E hr => ?_) h_led hm (fun _ _ _ _ _ _ us hl => match us, hl with | [_, _, _, _], _ => rfl)
  exact (dss_cons (ds_set 4 sc_led.nd (de_fn [false] c_flipped (hr.mono (by decide)) (da_cons (de_f 1) da_nil)))
  (dss_cons (ds_set 5 sc_led.nd (de_lst da_nil))
  (dss_cons (ds_for PassesOwn.never rfl (di_l (de_f 0)) (dg_n 6 sc_led.nd) (dss_cons (ds_set 7 sc_led.nd (de_fn [false, false] c_added (hr.mono (by decide)) (da_cons (de_ixv 6 (de_f 4)) (da_cons (de_f 3) da_nil))))
  (dss_cons (ds_set 8 sc_led.nd (de_fn [false, false] c_added (hr.mono (by decide)) (da_cons (de_fn [false, false] c_added (hr.mono (by decide)) (da_cons (de_ixv 6 (de_fn [false] c_flipped (hr.mono (by decide)) (da_cons (de_f 2) da_nil))) (da_cons (de_op d_mul de_int (de_f 3)) da_nil))) (da_cons (de_ix (de_ixv 0 (de_f 4)) (de_f 4)) da_nil))))
  (dss_one (ds_expr (de_app (db_v 5) (de_fn [false, false] c_lesser (hr.mono (by decide)) (da_cons (de_f 7) (da_cons (de_f 8) da_nil)))))))))
  (dss_one (ds_ret (de_m 5))))))
abbrev s_relinked : Stmt := topS 14
abbrev N_relinked : List Str := ["table", "side", "f", "g", "to_g", "to_f", "behind_g", "behind_f", "come", "i", "line", "j", "through"]
theorem sc_relinked : FnScope N_relinked ["table", "side"] (defScope s_relinked) := ⟨rfl, rfl, rfl, by decide +kernel, rfl, by decide +kernel, by decide +kernel⟩
theorem cal_relinked {P : Program} {w : World} {K : PySem.W.Frag} {mg : Str → Option Value} {base : Heap} (T : Blt mg) (c_led : Cal P w K mg base "led" 2 4 φ_led) (c_flipped : Cal P w K mg base "flipped" 1 1 φ_flipped) (c_lesser : Cal P w K mg base "lesser" 1 2 φ_lesser) (c_added : Cal P w K mg base "added" 1 2 φ_added) (F : FnP K mg "relinked" s_relinked) : Cal P w K mg base "relinked" 3 2 φ_relinked := by
  obtain ⟨f, fd, F, hm⟩ := F
  refine cal_mk (ps := ["table", "side"]) ms_relinked F sc_relinked rfl (ws := w_relinked) (fun cdv A outer s H E hr => ?_) h_relinked hm (fun _ _ _ _ _ _ us hl => match us, hl with | [_, _], _ => rfl)
  exact (dss_cons (ds_set 2 sc_relinked.nd (de_ixv 1 de_int))
  (dss_cons (ds_set 3 sc_relinked.nd (de_ixv 1 de_int))
  (dss_cons (ds_set 4 sc_relinked.nd (de_fn [false, false, false, false] c_led (hr.mono (by decide)) (da_cons (de_f 0) (da_cons (de_f 2) (da_cons (de_f 3) (da_cons (de_ixv 1 de_int) da_nil))))))
  (dss_cons (ds_set 5 sc_relinked.nd (de_fn [false, false, false, false] c_led (hr.mono (by decide)) (da_cons (de_f 0) (da_cons (de_f 3) (da_cons (de_f 2) (da_cons (de_ixv 1 de_int) da_nil))))))
  (dss_cons (ds_set 6 sc_relinked.nd (de_ixv 0 (de_fn [false] c_flipped (hr.mono (by decide)) (da_cons (de_f 3) da_nil))))
  (dss_cons (ds_set 7 sc_relinked.nd (de_ixv 0 (de_fn [false] c_flipped (hr.mono (by decide)) (da_cons (de_f 2) da_nil))))
  (dss_cons (ds_set 8 sc_relinked.nd (de_lst da_nil))
  (dss_cons (ds_for PassesOwn.never rfl (di_r1 T.range (da_cons (de_lenv 0 T.len) da_nil)) (dg_n 9 sc_relinked.nd) (dss_cons (ds_set 10 sc_relinked.nd (de_lst da_nil))
  (dss_cons (ds_for PassesOwn.never rfl (di_r1 T.range (da_cons (de_lenv 0 T.len) da_nil)) (dg_n 11 sc_relinked.nd) (dss_cons (ds_set 12 sc_relinked.nd (de_fn [false, false] c_lesser (hr.mono (by decide)) (da_cons (de_fn [false, false] c_added (hr.mono (by decide)) (da_cons (de_ixv 4 (de_f 9)) (da_cons (de_ixv 6 (de_f 11)) da_nil))) (da_cons (de_fn [false, false] c_added (hr.mono (by decide)) (da_cons (de_ixv 5 (de_f 9)) (da_cons (de_ixv 7 (de_f 11)) da_nil))) da_nil))))
  (dss_one (ds_expr (de_app (db_v 10) (de_fn [false, false] c_lesser (hr.mono (by decide)) (da_cons (de_ix (de_ixv 0 (de_f 9)) (de_f 11)) (da_cons (de_f 12) da_nil))))))))
  (dss_one (ds_expr (de_app (db_v 8) (de_m 10)))))))
  (dss_one (ds_ret (de_m 8)))))))))))
abbrev s_halve : Stmt := topS 15
abbrev N_halve : List Str := ["table", "f"]
theorem sc_halve : FnScope N_halve ["table"] (defScope s_halve) := ⟨rfl, rfl, rfl, by decide +kernel, rfl, by decide +kernel, by decide +kernel⟩
theorem cal_halve {P : Program} {w : World} {K : PySem.W.Frag} {mg : Str → Option Value} {base : Heap} (T : Blt mg)  (F : FnP K mg "halve" s_halve) : Cal P w K mg base "halve" 1 1 φ_halve := by
  obtain ⟨f, fd, F, hm⟩ := F
  refine cal_mk (ps := ["table"]) ms_halve F sc_halve rfl (ws := w_halve) (fun cdv A outer s H E hr => ?_) h_halve hm (fun _ _ _ _ _ _ us hl => match us, hl with | [_], _ => rfl)
  exact (dss_one (ds_for PassesOwn.never rfl (di_r1 T.range (da_cons (de_lenv 0 T.len) da_nil)) (dg_n 1 sc_halve.nd) (dss_one (ds_if (dt_cmp d_notN (de_rd (db_ix (db_v 0) (de_f 1)) (de_f 1)) de_non (nomark _)) (dss_one (ds_seti (db_ix (db_v 0) (de_f 1)) (de_f 1) (de_op d_mul (de_op d_div (de_rd (db_ix (db_v 0) (de_f 1)) (de_f 1)) de_int) de_int))) dss_nil))))
abbrev s_has_none : Stmt := topS 16
abbrev N_has_none : List Str := ["table", "f", "there", "back"]
theorem sc_has_none : FnScope N_has_none ["table"] (defScope s_has_none) := ⟨rfl, rfl, rfl, by decide +kernel, rfl, by decide +kernel, by decide +kernel⟩
theorem cal_has_none {P : Program} {w : World} {K : PySem.W.Frag} {mg : Str → Option Value} {base : Heap} (T : Blt mg) (c_flipped : Cal P w K mg base "flipped" 1 1 φ_flipped) (F : FnP K mg "has_none" s_has_none) : Cal P w K mg base "has_none" 2 1 φ_has_none := by
  obtain ⟨f, fd, F, hm⟩ := F
  refine cal_mk (ps := ["table"]) ms_has_none F sc_has_none rfl (ws := w_has_none) (fun cdv A outer s H E hr => ?_) h_has_none hm (fun _ _ _ _ _ _ us hl => match us, hl with | [_], _ => rfl)
  exact (dss_cons (ds_for PassesOwn.never rfl (di_r1 T.range (da_cons (de_lenv 0 T.len) da_nil)) (dg_n 1 sc_has_none.nd) (dss_cons (ds_set 2 sc_has_none.nd (de_rd (db_ix (db_v 0) (de_f 1)) (de_f 1)))
  (dss_cons (ds_set 3 sc_has_none.nd (de_rd (db_ix (db_v 0) (de_fn [false] c_flipped (hr.mono (by decide)) (da_cons (de_f 1) da_nil))) (de_fn [false] c_flipped (hr.mono (by decide)) (da_cons (de_f 1) da_nil))))
  (dss_one (ds_if (dw_pt (dw_and (dt_cmp d_notN (de_f 2) de_non (nomark _)) (dw_and (dt_cmp d_notN (de_f 3) de_non (nomark _)) (dw_and1 (dt_cmp d_lt (de_op d_addG (de_f 2) (de_f 3)) de_int (nomark _)))))) (dss_one (ds_ret de_bl)) dss_nil)))))
  (dss_one (ds_ret de_bl)))
abbrev s_strengthen : Stmt := topS 17
abbrev N_strengthen : List Str := ["table", "f", "g", "twice"]
theorem sc_strengthen : FnScope N_strengthen ["table"] (defScope s_strengthen) := ⟨rfl, rfl, rfl, by decide +kernel, rfl, by decide +kernel, by decide +kernel⟩
theorem cal_strengthen {P : Program} {w : World} {K : PySem.W.Frag} {mg : Str → Option Value} {base : Heap} (T : Blt mg) (c_added : Cal P w K mg base "added" 1 2 φ_added) (c_lesser : Cal P w K mg base "lesser" 1 2 φ_lesser) (F : FnP K mg "strengthen" s_strengthen) : Cal P w K mg base "strengthen" 2 1 φ_strengthen := by
  obtain ⟨f, fd, F, hm⟩ := F
  refine cal_mk (ps := ["table"]) ms_strengthen F sc_strengthen rfl (ws := w_strengthen) (fun cdv A outer s H E hr => ?_) h_strengthen hm (fun _ _ _ _ _ _ us hl => match us, hl with | [_], _ => rfl)
  exact (dss_one (ds_for PassesOwn.never rfl (di_r1 T.range (da_cons (de_lenv 0 T.len) da_nil)) (dg_n 1 sc_strengthen.nd) (dss_one (ds_for PassesOwn.never rfl (di_r1 T.range (da_cons (de_lenv 0 T.len) da_nil)) (dg_n 2 sc_strengthen.nd) (dss_cons (ds_set 3 sc_strengthen.nd (de_fn [false, false] c_added (hr.mono (by decide)) (da_cons (de_rd (db_ix (db_v 0) (de_f 1)) (de_f 1)) (da_cons (de_rd (db_ix (db_v 0) (de_f 2)) (de_f 2)) da_nil))))
  (dss_one (ds_if (dt_cmp d_notN (de_f 3) de_non (nomark _)) (dss_one (ds_seti (db_ix (db_v 0) (de_f 1)) (de_f 2) (de_fn [false, false] c_lesser (hr.mono (by decide)) (da_cons (de_rd (db_ix (db_v 0) (de_f 1)) (de_f 2)) (da_cons (de_op d_div (de_f 3) de_int) da_nil))))) dss_nil)))))))
abbrev s_held : Stmt := topS 18
abbrev N_held : List Str := ["shape", "side", "told", "back", "table"]
theorem sc_held : FnScope N_held ["shape", "side"] (defScope s_held) := ⟨rfl, rfl, rfl, by decide +kernel, rfl, by decide +kernel, by decide +kernel⟩
theorem cal_held {P : Program} {w : World} {K : PySem.W.Frag} {mg : Str → Option Value} {base : Heap} (T : Blt mg) (c_relinked : Cal P w K mg base "relinked" 3 2 φ_relinked) (c_halve : Cal P w K mg base "halve" 1 1 φ_halve) (c_has_none : Cal P w K mg base "has_none" 2 1 φ_has_none) (c_strengthen : Cal P w K mg base "strengthen" 2 1 φ_strengthen) (c_copied : Cal P w K mg base "copied" 1 1 φ_copied) (c_flipped : Cal P w K mg base "flipped" 1 1 φ_flipped) (F : FnP K mg "held" s_held) : Cal P w K mg base "held" 4 2 φ_held := by
  obtain ⟨f, fd, F, hm⟩ := F
  refine cal_mk (ps := ["shape", "side"]) ms_held F sc_held rfl (ws := w_held) (fun cdv A outer s H E hr => ?_) h_held hm (fun _ _ _ _ _ _ us hl => match us, hl with | [_, _], _ => rfl)
  exact (dss_cons (ds_if (dt_cmp d_isN (de_f 0) de_non (nomark _)) (dss_one (ds_ret de_non)) dss_nil)
  (dss_cons (ds_set 2 sc_held.nd (de_ix (de_ixv 0 (de_ixv 1 de_int)) (de_ixv 1 de_int)))
  (dss_cons (ds_if (dw_pt (dw_and (dt_cmp d_notN (de_f 2) de_non (nomark _)) (dw_and1 (dt_cmp d_le (de_f 2) (de_ixv 1 de_int) (nomark _))))) (dss_one (ds_ret (de_fn [false] c_copied (hr.mono (by decide)) (da_cons (de_f 0) da_nil)))) dss_nil)
  (dss_cons (ds_set 3 sc_held.nd (de_ix (de_ixv 0 (de_fn [false] c_flipped (hr.mono (by decide)) (da_cons (de_ixv 1 de_int) da_nil))) (de_fn [false] c_flipped (hr.mono (by decide)) (da_cons (de_ixv 1 de_int) da_nil))))
  (dss_cons (ds_if (dw_pt (dw_and (dt_cmp d_notN (de_f 3) de_non (nomark _)) (dw_and1 (dt_cmp d_lt (de_op d_addG (de_f 3) (de_ixv 1 de_int)) de_int (nomark _))))) (dss_one (ds_ret de_non)) dss_nil)
  (dss_cons (ds_set 4 sc_held.nd (de_fn [false, false] c_relinked (hr.mono (by decide)) (da_cons (de_f 0) (da_cons (de_f 1) da_nil))))
  (dss_cons (ds_expr (de_fn [true] c_halve (hr.mono (by decide)) (da_lend 4 da_nil)))
  (dss_cons (ds_if (dt_v (de_fn [true] c_has_none (hr.mono (by decide)) (da_lend 4 da_nil))) (dss_one (ds_ret de_non)) dss_nil)
  (dss_cons (ds_expr (de_fn [true] c_strengthen (hr.mono (by decide)) (da_lend 4 da_nil)))
  (dss_one (ds_ret (de_m 4))))))))))))
abbrev s_closed : Stmt := topS 19
abbrev N_closed : List Str := ["count", "sides", "shape", "side"]
theorem sc_closed : FnScope N_closed ["count", "sides"] (defScope s_closed) := ⟨rfl, rfl, rfl, by decide +kernel, rfl, by decide +kernel, by decide +kernel⟩
theorem cal_closed {P : Program} {w : World} {K : PySem.W.Frag} {mg : Str → Option Value} {base : Heap} (T : Blt mg) (c_wide : Cal P w K mg base "wide" 2 1 φ_wide) (c_held : Cal P w K mg base "held" 4 2 φ_held) (F : FnP K mg "closed" s_closed) : Cal P w K mg base "closed" 5 2 φ_closed := by
  obtain ⟨f, fd, F, hm⟩ := F
  refine cal_mk (ps := ["count", "sides"]) ms_closed F sc_closed rfl (ws := w_closed) (fun cdv A outer s H E hr => ?_) h_closed hm (fun _ _ _ _ _ _ us hl => match us, hl with | [_, _], _ => rfl)
  exact (dss_cons (ds_set 2 sc_closed.nd (de_fn [false] c_wide (hr.mono (by decide)) (da_cons (de_f 0) da_nil)))
  (dss_cons (ds_for PassesOwn.never rfl (di_l (de_f 1)) (dg_n 3 sc_closed.nd) (dss_one (ds_set 2 sc_closed.nd (de_fn [false, false] c_held (hr.mono (by decide)) (da_cons (de_f 2) (da_cons (de_f 3) da_nil))))))
  (dss_one (ds_ret (de_m 2)))))
abbrev s_law_cell : Stmt := topS 21
abbrev N_law_cell : List Str := ["_law_script", "_law_k", "_law_seed", "_law_some"]
theorem sc_law_cell : FnScope N_law_cell ["_law_script", "_law_k"] (defScope s_law_cell) := ⟨rfl, rfl, rfl, by decide +kernel, rfl, by decide +kernel, by decide +kernel⟩
theorem cal_law_cell {P : Program} {w : World} {K : PySem.W.Frag} {mg : Str → Option Value} {base : Heap} (T : Blt mg)  (F : FnP K mg "_law_cell" s_law_cell) : Cal P w K mg base "_law_cell" 1 2 φ_law_cell := by
  obtain ⟨f, fd, F, hm⟩ := F
  refine cal_mk (ps := ["_law_script", "_law_k"]) ms_law_cell F sc_law_cell rfl (ws := w_law_cell) (fun cdv A outer s H E hr => ?_) h_law_cell hm (fun _ _ _ _ _ _ us hl => match us, hl with | [_, _], _ => rfl)
  exact (dss_cons (ds_if (dt_cmp d_lt (de_f 1) (de_lenv 0 T.len) (nomark _)) (dss_one (ds_ret (de_ixv 0 (de_f 1)))) dss_nil)
  (dss_cons (ds_set 2 sc_law_cell.nd (de_op d_mul (de_f 1) de_int))
  (dss_cons (ds_if (dt_cmp d_gt (de_lenv 0 T.len) de_int (nomark _)) (dss_one (ds_set 2 sc_law_cell.nd (de_op d_addG (de_f 2) (de_op d_mod (de_ixv 0 (de_op d_mod (de_f 1) (de_lenv 0 T.len))) de_int)))) dss_nil)
  (dss_cons (ds_set 3 sc_law_cell.nd (de_op d_mod (de_op d_mul (de_f 2) de_int) de_int))
  (dss_one (ds_ret (de_op d_mod (de_op d_div (de_op d_mul (de_f 3) (de_op d_addG (de_op d_addG (de_f 3) (de_op d_mul de_int (de_f 1))) de_int)) de_int) de_int)))))))
abbrev s_law_whole : Stmt := topS 22
abbrev N_law_whole : List Str := ["_law_found"]
theorem sc_law_whole : FnScope N_law_whole ["_law_found"] (defScope s_law_whole) := ⟨rfl, rfl, rfl, by decide +kernel, rfl, by decide +kernel, by decide +kernel⟩
theorem cal_law_whole {P : Program} {w : World} {K : PySem.W.Frag} {mg : Str → Option Value} {base : Heap} (T : Blt mg)  (F : FnP K mg "_law_whole" s_law_whole) : Cal P w K mg base "_law_whole" 1 1 φ_law_whole := by
  obtain ⟨f, fd, F, hm⟩ := F
  refine cal_mk (ps := ["_law_found"]) ms_law_whole F sc_law_whole rfl (ws := w_law_whole) (fun cdv A outer s H E hr => ?_) h_law_whole hm (fun _ _ _ _ _ _ us hl => match us, hl with | [_], _ => rfl)
  exact (dss_one (ds_ret (de_and (de_cb c_isi T.isinstance bt_isi (da_cons (de_f 0) (da_cons (de_ty T.int bt_int) da_nil))) (de_one (de_not (de_cb c_isi T.isinstance bt_isi (da_cons (de_f 0) (da_cons (de_ty T.bool bt_bool) da_nil))))))))
abbrev s_law_big : Stmt := topS 23
abbrev N_law_big : List Str := ["_law_cell_here"]
theorem sc_law_big : FnScope N_law_big ["_law_cell_here"] (defScope s_law_big) := ⟨rfl, rfl, rfl, by decide +kernel, rfl, by decide +kernel, by decide +kernel⟩
theorem cal_law_big {P : Program} {w : World} {K : PySem.W.Frag} {mg : Str → Option Value} {base : Heap} (T : Blt mg)  (F : FnP K mg "_law_big" s_law_big) : Cal P w K mg base "_law_big" 1 1 φ_law_big := by
  obtain ⟨f, fd, F, hm⟩ := F
  refine cal_mk (ps := ["_law_cell_here"]) ms_law_big F sc_law_big rfl (ws := w_law_big) (fun cdv A outer s H E hr => ?_) h_law_big hm (fun _ _ _ _ _ _ us hl => match us, hl with | [_], _ => rfl)
  exact (dss_cons (ds_if (dt_cmp (d_eq hr.units) (de_op d_mod (de_f 0) de_int) de_int (nomark _)) (dss_one (ds_ret (de_op d_sub (de_op d_mod (de_op d_div (de_f 0) de_int) (de_op d_addG (de_op d_mul de_int (de_op d_pow de_int de_int)) de_int)) (de_op d_pow de_int de_int)))) dss_nil)
  (dss_one (ds_ret (de_op d_sub (de_op d_mod (de_op d_div (de_f 0) de_int) de_int) de_int))))
abbrev s_law_point : Stmt := topS 24
abbrev N_law_point : List Str := ["_law_script", "_law_at", "_law_count", "_law_k"]
theorem sc_law_point : FnScope N_law_point ["_law_script", "_law_at", "_law_count"] (defScope s_law_point) := ⟨rfl, rfl, rfl, by decide +kernel, rfl, by decide +kernel, by decide +kernel⟩
theorem cal_law_point {P : Program} {w : World} {K : PySem.W.Frag} {mg : Str → Option Value} {base : Heap} (T : Blt mg) (c_law_big : Cal P w K mg base "_law_big" 1 1 φ_law_big) (c_law_cell : Cal P w K mg base "_law_cell" 1 2 φ_law_cell) (F : FnP K mg "_law_point" s_law_point) : Cal P w K mg base "_law_point" 2 3 φ_law_point := by
  obtain ⟨f, fd, F, hm⟩ := F
  refine cal_mk (ps := ["_law_script", "_law_at", "_law_count"]) ms_law_point F sc_law_point rfl (ws := w_law_point) (fun cdv A outer s H E hr => ?_) h_law_point hm (fun _ _ _ _ _ _ us hl => match us, hl with | [_, _, _], _ => rfl)
  exact (dss_one (ds_ret (de_ct c_tuple T.tuple bt_tuple (da_cons (de_lc (j := 3) (own := [("_law_k", 3)]) rfl sc_law_point.nd (di_r1 T.range (da_cons (de_f 2) da_nil)) (blkOk_by (own := [("_law_k", 3)]) (N := N_law_point) (sc := defScope s_law_point) (by decide +kernel)) (fun _ _ _ _ _ => pg_name sc_law_point.nd rfl (Or.inl rfl)) (by decide) (fun _ _ _ _ _ => dts_nil) (fun _ _ _ _ _ => (de_fn [false] c_law_big (hr.mono (by decide)) (da_cons (de_fn [false, false] c_law_cell (hr.mono (by decide)) (da_cons (de_f 0) (da_cons (de_op d_addG (de_f 1) (de_f 3)) da_nil))) da_nil)))) da_nil))))
abbrev s_law_worth : Stmt := topS 25
abbrev N_law_worth : List Str := ["_law_point_here", "_law_f"]
theorem sc_law_worth : FnScope N_law_worth ["_law_point_here", "_law_f"] (defScope s_law_worth) := ⟨rfl, rfl, rfl, by decide +kernel, rfl, by decide +kernel, by decide +kernel⟩
theorem cal_law_worth {P : Program} {w : World} {K : PySem.W.Frag} {mg : Str → Option Value} {base : Heap} (T : Blt mg)  (F : FnP K mg "_law_worth" s_law_worth) : Cal P w K mg base "_law_worth" 1 2 φ_law_worth := by
  obtain ⟨f, fd, F, hm⟩ := F
  refine cal_mk (ps := ["_law_point_here", "_law_f"]) ms_law_worth F sc_law_worth rfl (ws := w_law_worth) (fun cdv A outer s H E hr => ?_) h_law_worth hm (fun _ _ _ _ _ _ us hl => match us, hl with | [_, _], _ => rfl)
  exact (dss_one (ds_ret (de_op d_mul (de_ixv 0 (de_op d_div (de_f 1) de_int)) (de_op d_sub de_int (de_op d_mul (de_op d_mod (de_f 1) de_int) de_int)))))
abbrev s_law_flip : Stmt := topS 26
abbrev N_law_flip : List Str := ["_law_f"]
theorem sc_law_flip : FnScope N_law_flip ["_law_f"] (defScope s_law_flip) := ⟨rfl, rfl, rfl, by decide +kernel, rfl, by decide +kernel, by decide +kernel⟩
theorem cal_law_flip {P : Program} {w : World} {K : PySem.W.Frag} {mg : Str → Option Value} {base : Heap} (T : Blt mg)  (F : FnP K mg "_law_flip" s_law_flip) : Cal P w K mg base "_law_flip" 1 1 φ_law_flip := by
  obtain ⟨f, fd, F, hm⟩ := F
  refine cal_mk (ps := ["_law_f"]) ms_law_flip F sc_law_flip rfl (ws := w_law_flip) (fun cdv A outer s H E hr => ?_) h_law_flip hm (fun _ _ _ _ _ _ us hl => match us, hl with | [_], _ => rfl)
  exact (dss_one (ds_ret (de_op d_sub (de_op d_addG (de_f 0) de_int) (de_op d_mul (de_op d_mod (de_f 0) de_int) de_int))))
abbrev s_law_side_like : Stmt := topS 27
abbrev N_law_side_like : List Str := ["_law_found", "_law_due", "_law_part"]
theorem sc_law_side_like : FnScope N_law_side_like ["_law_found", "_law_due"] (defScope s_law_side_like) := ⟨rfl, rfl, rfl, by decide +kernel, rfl, by decide +kernel, by decide +kernel⟩
theorem cal_law_side_like {P : Program} {w : World} {K : PySem.W.Frag} {mg : Str → Option Value} {base : Heap} (T : Blt mg) (c_law_whole : Cal P w K mg base "_law_whole" 1 1 φ_law_whole) (F : FnP K mg "_law_side_like" s_law_side_like) : Cal P w K mg base "_law_side_like" 2 2 φ_law_side_like := by
  obtain ⟨f, fd, F, hm⟩ := F
  refine cal_mk (ps := ["_law_found", "_law_due"]) ms_law_side_like F sc_law_side_like rfl (ws := w_law_side_like) (fun cdv A outer s H E hr => ?_) h_law_side_like hm (fun _ _ _ _ _ _ us hl => match us, hl with | [_, _], _ => rfl)
  exact (dss_cons (ds_if (dw_pt (dw_or (dt_not (dt_v (de_cb c_isi T.isinstance bt_isi (da_cons (de_f 0) (da_cons (de_ty T.tuple bt_tuple) da_nil))))) (dw_or1 (dt_cmp (d_ne hr.units) (de_sh (de_lenv 0 T.len)) (de_sh (de_lenv 1 T.len)) (nomark _))))) (dss_one (ds_ret de_bl)) dss_nil)
  (dss_cons (ds_for PassesOwn.never rfl (di_t (de_f 0)) (dg_n 2 sc_law_side_like.nd) (dss_one (ds_if (dt_not (dt_v (de_fn [false] c_law_whole (hr.mono (by decide)) (da_cons (de_f 2) da_nil)))) (dss_one (ds_ret de_bl)) dss_nil)))
  (dss_one (ds_ret (de_cmp (d_eq hr.units) (de_f 0) (de_f 1) (nomark _))))))
abbrev s_law_cells : Stmt := topS 28
abbrev N_law_cells : List Str := ["_law_script", "_law_at", "_law_room", "_law_cells_here", "_law_k"]
theorem sc_law_cells : FnScope N_law_cells ["_law_script", "_law_at", "_law_room"] (defScope s_law_cells) := ⟨rfl, rfl, rfl, by decide +kernel, rfl, by decide +kernel, by decide +kernel⟩
theorem cal_law_cells {P : Program} {w : World} {K : PySem.W.Frag} {mg : Str → Option Value} {base : Heap} (T : Blt mg) (c_law_cell : Cal P w K mg base "_law_cell" 1 2 φ_law_cell) (F : FnP K mg "_law_cells" s_law_cells) : Cal P w K mg base "_law_cells" 2 3 φ_law_cells := by
  obtain ⟨f, fd, F, hm⟩ := F
  refine cal_mk (ps := ["_law_script", "_law_at", "_law_room"]) ms_law_cells F sc_law_cells rfl (ws := w_law_cells) (fun cdv A outer s H E hr => ?_) h_law_cells hm (fun _ _ _ _ _ _ us hl => match us, hl with | [_, _, _], _ => rfl)
  exact (dss_cons (ds_set 3 sc_law_cells.nd (de_sl (de_f 0) (do_some (de_f 1)) (do_some (de_op d_addG (de_f 1) (de_f 2)))))
  (dss_cons (ds_if (dt_cmp d_lt (de_lenv 3 T.len) de_int (nomark _)) (dss_one (ds_setLc (i := 3) (j := 4) (own := [("_law_k", 4)]) rfl sc_law_cells.nd rfl rfl (sw_true rfl rfl rfl (by decide +kernel)) (di_r1 T.range (da_cons (de_op d_addG de_int (de_op d_mod (de_fn [false, false] c_law_cell (hr.mono (by decide)) (da_cons (de_f 0) (da_cons de_int da_nil))) de_int)) da_nil)) (blkOk_by (own := [("_law_k", 4)]) (N := N_law_cells) (sc := defScope s_law_cells) (by decide +kernel)) (fun _ _ _ _ _ => pg_name sc_law_cells.nd rfl (Or.inl rfl)) (by decide) (fun _ _ _ _ _ => dts_nil) (fun _ _ _ _ _ => (de_fn [false, false] c_law_cell (hr.mono (by decide)) (da_cons (de_f 0) (da_cons (de_op d_addG (de_f 1) (de_f 4)) da_nil)))))) dss_nil)
  (dss_one (ds_ret (de_m 3)))))
abbrev s_law_sides : Stmt := topS 29
abbrev N_law_sides : List Str := ["_law_cells_here", "_law_count", "_law_point_here", "_law_loose", "_law_sides_here", "_law_cell_here", "_law_f", "_law_g", "_law_rest", "_law_slack"]
theorem sc_law_sides : FnScope N_law_sides ["_law_cells_here", "_law_count", "_law_point_here", "_law_loose"] (defScope s_law_sides) := ⟨rfl, rfl, rfl, by decide +kernel, rfl, by decide +kernel, by decide +kernel⟩
theorem cal_law_sides {P : Program} {w : World} {K : PySem.W.Frag} {mg : Str → Option Value} {base : Heap} (T : Blt mg) (c_law_worth : Cal P w K mg base "_law_worth" 1 2 φ_law_worth) (F : FnP K mg "_law_sides" s_law_sides) : Cal P w K mg base "_law_sides" 2 4 φ_law_sides := by
  obtain ⟨f, fd, F, hm⟩ := F
  refine cal_mk (ps := ["_law_cells_here", "_law_count", "_law_point_here", "_law_loose"]) ms_law_sides F sc_law_sides rfl (ws := w_law_sides) (fun cdv A outer s H E hr => ?_) h_law_sides hm (fun _ _ _ _ _ _ us hl => match us, hl with | [_, _, _, _], _ => rfl)
  exact (dss_cons (ds_set 4 sc_law_sides.nd (de_lst da_nil))
  (dss_cons (ds_for PassesOwn.never rfl (di_l (de_f 0)) (dg_n 5 sc_law_sides.nd) (dss_cons (ds_set 6 sc_law_sides.nd (de_op d_mod (de_f 5) (de_op d_mul de_int (de_f 1))))
  (dss_cons (ds_set 7 sc_law_sides.nd (de_op d_mod (de_op d_div (de_f 5) (de_op d_mul de_int (de_f 1))) (de_op d_mul de_int (de_f 1))))
  (dss_cons (ds_set 8 sc_law_sides.nd (de_op d_div (de_f 5) (de_op d_mul (de_op d_mul de_int (de_f 1)) (de_f 1))))
  (dss_cons (ds_set 9 sc_law_sides.nd (de_op d_addG (de_op d_mod (de_f 8) de_int) (de_f 3)))
  (dss_cons (ds_if (dt_cmp (d_eq hr.units) (de_op d_mod (de_op d_div (de_f 8) de_int) de_int) de_int (nomark _)) (dss_one (ds_set 9 sc_law_sides.nd (de_op d_mod (de_op d_div (de_f 8) de_int) (de_op d_pow de_int de_int)))) dss_nil)
  (dss_one (ds_expr (de_app (db_v 4) (de_tup (da_cons (de_f 6) (da_cons (de_f 7) (da_cons (de_op d_addG (de_op d_addG (de_fn [false, false] c_law_worth (hr.mono (by decide)) (da_cons (de_f 2) (da_cons (de_f 6) da_nil))) (de_fn [false, false] c_law_worth (hr.mono (by decide)) (da_cons (de_f 2) (da_cons (de_f 7) da_nil)))) (de_f 9)) da_nil)))))))))))))
  (dss_one (ds_ret (de_m 4)))))
abbrev s_law_chain : Stmt := topS 30
abbrev N_law_chain : List Str := ["_law_cells_here", "_law_count", "_law_point_here", "_law_sides_here", "_law_begin", "_law_number", "_law_cell_here", "_law_end"]
theorem sc_law_chain : FnScope N_law_chain ["_law_cells_here", "_law_count", "_law_point_here"] (defScope s_law_chain) := ⟨rfl, rfl, rfl, by decide +kernel, rfl, by decide +kernel, by decide +kernel⟩
theorem cal_law_chain {P : Program} {w : World} {K : PySem.W.Frag} {mg : Str → Option Value} {base : Heap} (T : Blt mg) (c_law_flip : Cal P w K mg base "_law_flip" 1 1 φ_law_flip) (c_law_worth : Cal P w K mg base "_law_worth" 1 2 φ_law_worth) (F : FnP K mg "_law_chain" s_law_chain) : Cal P w K mg base "_law_chain" 2 3 φ_law_chain := by
  obtain ⟨f, fd, F, hm⟩ := F
  refine cal_mk (ps := ["_law_cells_here", "_law_count", "_law_point_here"]) ms_law_chain F sc_law_chain rfl (ws := w_law_chain) (fun cdv A outer s H E hr => ?_) h_law_chain hm (fun _ _ _ _ _ _ us hl => match us, hl with | [_, _, _], _ => rfl)
  exact (dss_cons (ds_set 3 sc_law_chain.nd (de_lst da_nil))
  (dss_cons (ds_set 4 sc_law_chain.nd (de_op d_mod (de_op d_div (de_ixv 0 de_int) de_int) (de_op d_mul de_int (de_f 1))))
  (dss_cons (ds_set 5 sc_law_chain.nd de_int)
  (dss_cons (ds_for PassesOwn.never rfl (di_l (de_sl (de_f 0) do_none (do_some de_int))) (dg_n 6 sc_law_chain.nd) (dss_cons (ds_set 7 sc_law_chain.nd (de_op d_mod (de_f 6) (de_op d_mul de_int (de_f 1))))
  (dss_cons (ds_expr (de_app (db_v 3) (de_tup (da_cons (de_f 4) (da_cons (de_f 7) (da_cons (de_op d_sub (de_op d_addG (de_op d_addG (de_fn [false, false] c_law_worth (hr.mono (by decide)) (da_cons (de_f 2) (da_cons (de_f 4) da_nil))) (de_fn [false, false] c_law_worth (hr.mono (by decide)) (da_cons (de_f 2) (da_cons (de_f 7) da_nil)))) (de_op d_mod (de_op d_div (de_f 6) de_int) de_int)) de_int) da_nil))))))
  (dss_cons (ds_set 5 sc_law_chain.nd (de_op d_addG (de_f 5) (de_ix (de_ixv 3 (de_op d_sub (de_lenv 3 T.len) de_int)) de_int)))
  (dss_one (ds_set 4 sc_law_chain.nd (de_fn [false] c_law_flip (hr.mono (by decide)) (da_cons (de_f 7) da_nil))))))))
  (dss_cons (ds_expr (de_app (db_v 3) (de_tup (da_cons (de_fn [false] c_law_flip (hr.mono (by decide)) (da_cons (de_ix (de_ixv 3 de_int) de_int) da_nil)) (da_cons (de_f 4) (da_cons (de_op d_sub (de_neg (de_f 5)) de_int) da_nil))))))
  (dss_one (ds_ret (de_m 3))))))))
abbrev s_law_bells : Stmt := topS 31
abbrev N_law_bells : List Str := ["_law_script", "_law_cells_here", "_law_forms", "_law_numbers", "_law_k", "_law_cell_here", "_law_a", "_law_d", "_law_last", "_law_sides_here", "_law_at"]
theorem sc_law_bells : FnScope N_law_bells ["_law_script", "_law_cells_here"] (defScope s_law_bells) := ⟨rfl, rfl, rfl, by decide +kernel, rfl, by decide +kernel, by decide +kernel⟩
theorem cal_law_bells {P : Program} {w : World} {K : PySem.W.Frag} {mg : Str → Option Value} {base : Heap} (T : Blt mg) (c_law_cell : Cal P w K mg base "_law_cell" 1 2 φ_law_cell) (c_law_big : Cal P w K mg base "_law_big" 1 1 φ_law_big) (c_law_flip : Cal P w K mg base "_law_flip" 1 1 φ_law_flip) (F : FnP K mg "_law_bells" s_law_bells) : Cal P w K mg base "_law_bells" 2 2 φ_law_bells := by
  obtain ⟨f, fd, F, hm⟩ := F
  refine cal_mk (ps := ["_law_script", "_law_cells_here"]) ms_law_bells F sc_law_bells rfl (ws := w_law_bells) (fun cdv A outer s H E hr => ?_) h_law_bells hm (fun _ _ _ _ _ _ us hl => match us, hl with | [_, _], _ => rfl)
  exact (dss_cons (ds_set 2 sc_law_bells.nd (de_lst da_nil))
  (dss_cons (ds_set 3 sc_law_bells.nd (de_lst da_nil))
  (dss_cons (ds_for PassesOwn.never rfl (di_r1 T.range (da_cons de_int da_nil)) (dg_n 4 sc_law_bells.nd) (dss_cons (ds_set 5 sc_law_bells.nd (de_fn [false, false] c_law_cell (hr.mono (by decide)) (da_cons (de_f 0) (da_cons (de_op d_addG de_int (de_f 4)) da_nil))))
  (dss_cons (ds_expr (de_app (db_v 2) (de_op d_addG (de_op d_mul (de_op d_mod (de_op d_addG (de_op d_mod (de_fn [false, false] c_law_cell (hr.mono (by decide)) (da_cons (de_f 0) (da_cons de_int da_nil))) de_int) (de_f 4)) de_int) de_int) (de_op d_mod (de_f 5) de_int))))
  (dss_one (ds_expr (de_app (db_v 3) (de_fn [false] c_law_big (hr.mono (by decide)) (da_cons (de_op d_div (de_f 5) de_int) da_nil))))))))
  (dss_cons (ds_set 6 sc_law_bells.nd (de_ixv 2 de_int))
  (dss_cons (ds_set 7 sc_law_bells.nd (de_ixv 2 de_int))
  (dss_cons (ds_set 8 sc_law_bells.nd (de_neg (de_op d_addG (de_op d_addG (de_op d_addG (de_ixv 3 de_int) (de_ixv 3 de_int)) (de_op d_mul de_int (de_ixv 3 de_int))) (de_ixv 3 de_int))))
  (dss_cons (ds_if (dt_cmp (d_eq hr.units) (de_op d_mod (de_op d_addG (de_ixv 3 de_int) (de_ixv 3 de_int)) de_int) de_int (nomark _)) (dss_one (ds_set 8 sc_law_bells.nd (de_op d_sub (de_f 8) de_int))) dss_nil)
  (dss_cons (ds_set 9 sc_law_bells.nd (de_lst (da_cons (de_tup (da_cons (de_f 6) (da_cons (de_ixv 2 de_int) (da_cons (de_ixv 3 de_int) da_nil)))) (da_cons (de_tup (da_cons (de_f 6) (da_cons (de_fn [false] c_law_flip (hr.mono (by decide)) (da_cons (de_ixv 2 de_int) da_nil)) (da_cons (de_ixv 3 de_int) da_nil)))) (da_cons (de_tup (da_cons (de_fn [false] c_law_flip (hr.mono (by decide)) (da_cons (de_f 6) da_nil)) (da_cons (de_f 7) (da_cons (de_ixv 3 de_int) da_nil)))) da_nil)))))
  (dss_cons (ds_expr (de_app (db_v 9) (de_tup (da_cons (de_fn [false] c_law_flip (hr.mono (by decide)) (da_cons (de_f 7) da_nil)) (da_cons (de_ixv 2 de_int) (da_cons (de_ixv 3 de_int) da_nil))))))
  (dss_cons (ds_expr (de_app (db_v 9) (de_tup (da_cons (de_fn [false] c_law_flip (hr.mono (by decide)) (da_cons (de_ixv 2 de_int) da_nil)) (da_cons (de_fn [false] c_law_flip (hr.mono (by decide)) (da_cons (de_f 7) da_nil)) (da_cons (de_f 8) da_nil))))))
  (dss_cons (ds_set 10 sc_law_bells.nd (de_op d_mod (de_ixv 1 de_int) de_int))
  (dss_one (ds_ret (de_op d_addG (de_sl (de_f 9) (do_some (de_f 10)) do_none) (de_sl (de_f 9) do_none (do_some (de_f 10)))))))))))))))))
abbrev s_law_between : Stmt := topS 32
abbrev N_law_between : List Str := ["_law_cells_here", "_law_count", "_law_odd", "_law_sides_here", "_law_cell_here", "_law_f", "_law_g"]
theorem sc_law_between : FnScope N_law_between ["_law_cells_here", "_law_count", "_law_odd"] (defScope s_law_between) := ⟨rfl, rfl, rfl, by decide +kernel, rfl, by decide +kernel, by decide +kernel⟩
theorem cal_law_between {P : Program} {w : World} {K : PySem.W.Frag} {mg : Str → Option Value} {base : Heap} (T : Blt mg) (c_law_worth : Cal P w K mg base "_law_worth" 1 2 φ_law_worth) (F : FnP K mg "_law_between" s_law_between) : Cal P w K mg base "_law_between" 2 3 φ_law_between := by
  obtain ⟨f, fd, F, hm⟩ := F
  refine cal_mk (ps := ["_law_cells_here", "_law_count", "_law_odd"]) ms_law_between F sc_law_between rfl (ws := w_law_between) (fun cdv A outer s H E hr => ?_) h_law_between hm (fun _ _ _ _ _ _ us hl => match us, hl with | [_, _, _], _ => rfl)
  exact (dss_cons (ds_set 3 sc_law_between.nd (de_lst da_nil))
  (dss_cons (ds_for PassesOwn.never rfl (di_l (de_f 0)) (dg_n 4 sc_law_between.nd) (dss_cons (ds_set 5 sc_law_between.nd (de_op d_mod (de_f 4) (de_op d_mul de_int (de_f 1))))
  (dss_cons (ds_set 6 sc_law_between.nd (de_op d_mod (de_op d_div (de_f 4) (de_op d_mul de_int (de_f 1))) (de_op d_mul de_int (de_f 1))))
  (dss_cons (ds_if (dt_cmp (d_eq hr.units) (de_op d_div (de_f 5) de_int) (de_op d_div (de_f 6) de_int) (nomark _)) (dss_one (ds_set 6 sc_law_between.nd (de_op d_mod (de_op d_addG (de_f 6) de_int) (de_op d_mul de_int (de_f 1))))) dss_nil)
  (dss_one (ds_expr (de_app (db_v 3) (de_tup (da_cons (de_f 5) (da_cons (de_f 6) (da_cons (de_op d_div (de_op d_addG (de_fn [false, false] c_law_worth (hr.mono (by decide)) (da_cons (de_f 2) (da_cons (de_f 5) da_nil))) (de_fn [false, false] c_law_worth (hr.mono (by decide)) (da_cons (de_f 2) (da_cons (de_f 6) da_nil)))) de_int) da_nil)))))))))))
  (dss_one (ds_ret (de_m 3)))))
abbrev s_law_walked : Stmt := topS 33
abbrev N_law_walked : List Str := ["_law_found", "_law_sides_here", "_law_many", "_law_number", "_law_k", "_law_step", "_law_side"]
theorem sc_law_walked : FnScope N_law_walked ["_law_found", "_law_sides_here", "_law_many"] (defScope s_law_walked) := ⟨rfl, rfl, rfl, by decide +kernel, rfl, by decide +kernel, by decide +kernel⟩
theorem cal_law_walked {P : Program} {w : World} {K : PySem.W.Frag} {mg : Str → Option Value} {base : Heap} (T : Blt mg) (c_law_side_like : Cal P w K mg base "_law_side_like" 2 2 φ_law_side_like) (c_law_flip : Cal P w K mg base "_law_flip" 1 1 φ_law_flip) (F : FnP K mg "_law_walked" s_law_walked) : Cal P w K mg base "_law_walked" 3 3 φ_law_walked := by
  obtain ⟨f, fd, F, hm⟩ := F
  refine cal_mk (ps := ["_law_found", "_law_sides_here", "_law_many"]) ms_law_walked F sc_law_walked rfl (ws := w_law_walked) (fun cdv A outer s H E hr => ?_) h_law_walked hm (fun _ _ _ _ _ _ us hl => match us, hl with | [_, _, _], _ => rfl)
  exact (dss_cons (ds_if (dw_pt (dw_or (dt_not (dt_v (de_cb c_isi T.isinstance bt_isi (da_cons (de_f 0) (da_cons (de_ty T.list bt_list) da_nil))))) (dw_or (dt_cmp (d_eq hr.units) (de_sh (de_lenv 0 T.len)) de_int (nomark _)) (dw_or1 (dt_cmp d_gt (de_lenv 0 T.len) (de_f 2) (nomark _)))))) (dss_one (ds_ret de_non)) dss_nil)
  (dss_cons (ds_set 3 sc_law_walked.nd de_int)
  (dss_cons (ds_for PassesOwn.never rfl (di_r1 T.range (da_cons (de_lenv 0 T.len) da_nil)) (dg_n 4 sc_law_walked.nd) (dss_cons (ds_set 5 sc_law_walked.nd (de_ixv 0 (de_f 4)))
  (dss_cons (ds_if (dw_pt (dw_or (dt_not (dt_v (de_fn [false, false] c_law_side_like (hr.mono (by decide)) (da_cons (de_f 5) (da_cons (de_f 5) da_nil))))) (dw_or1 (dt_cmp (d_ne hr.units) (de_sh (de_lenv 5 T.len)) de_int (nomark _))))) (dss_one (ds_ret de_non)) dss_nil)
  (dss_cons (ds_if (dw_pt (dw_or (dt_cmp d_lt (de_ixv 5 de_int) de_int (nomark _)) (dw_or1 (dt_cmp d_ge (de_ixv 5 de_int) (de_lenv 1 T.len) (nomark _))))) (dss_one (ds_ret de_non)) dss_nil)
  (dss_cons (ds_set 6 sc_law_walked.nd (de_ixv 1 (de_ixv 5 de_int)))
  (dss_cons (ds_if (dw_pt (dw_and (dt_cmp (d_ne hr.units) (de_sh (de_sl (de_f 5) (do_some de_int) do_none)) (de_sh (de_sl (de_f 6) do_none (do_some de_int))) (nomark _)) (dw_and1 (dt_cmp (d_ne hr.units) (de_sh (de_sl (de_f 5) (do_some de_int) do_none)) (de_sh (de_tup (da_cons (de_ixv 6 de_int) (da_cons (de_ixv 6 de_int) da_nil)))) (nomark _))))) (dss_one (ds_ret de_non)) dss_nil)
  (dss_cons (ds_if (dw_pt (dw_and (dt_cmp d_gt (de_f 4) de_int (nomark _)) (dw_and1 (dt_cmp (d_ne hr.units) (de_ixv 5 de_int) (de_sh (de_fn [false] c_law_flip (hr.mono (by decide)) (da_cons (de_ix (de_ixv 0 (de_op d_sub (de_f 4) de_int)) de_int) da_nil))) (nomark _))))) (dss_one (ds_ret de_non)) dss_nil)
  (dss_one (ds_set 3 sc_law_walked.nd (de_op d_addG (de_f 3) (de_ixv 6 de_int)))))))))))
  (dss_one (ds_ret (de_tup (da_cons (de_ix (de_ixv 0 de_int) de_int) (da_cons (de_ix (de_ixv 0 (de_op d_sub (de_lenv 0 T.len) de_int)) de_int) (da_cons (de_f 3) da_nil)))))))))
abbrev s_law_ring_good : Stmt := topS 34
abbrev N_law_ring_good : List Str := ["_law_found", "_law_sides_here", "_law_many", "_law_first", "_law_second"]
theorem sc_law_ring_good : FnScope N_law_ring_good ["_law_found", "_law_sides_here", "_law_many"] (defScope s_law_ring_good) := ⟨rfl, rfl, rfl, by decide +kernel, rfl, by decide +kernel, by decide +kernel⟩
theorem cal_law_ring_good {P : Program} {w : World} {K : PySem.W.Frag} {mg : Str → Option Value} {base : Heap} (T : Blt mg) (c_law_walked : Cal P w K mg base "_law_walked" 3 3 φ_law_walked) (c_law_flip : Cal P w K mg base "_law_flip" 1 1 φ_law_flip) (F : FnP K mg "_law_ring_good" s_law_ring_good) : Cal P w K mg base "_law_ring_good" 4 3 φ_law_ring_good := by
  obtain ⟨f, fd, F, hm⟩ := F
  refine cal_mk (ps := ["_law_found", "_law_sides_here", "_law_many"]) ms_law_ring_good F sc_law_ring_good rfl (ws := w_law_ring_good) (fun cdv A outer s H E hr => ?_) h_law_ring_good hm (fun _ _ _ _ _ _ us hl => match us, hl with | [_, _, _], _ => rfl)
  exact (dss_cons (ds_if (dw_pt (dw_or (dt_not (dt_v (de_cb c_isi T.isinstance bt_isi (da_cons (de_f 0) (da_cons (de_ty T.tuple bt_tuple) da_nil))))) (dw_or1 (dt_cmp (d_ne hr.units) (de_sh (de_lenv 0 T.len)) de_int (nomark _))))) (dss_one (ds_ret de_bl)) dss_nil)
  (dss_cons (ds_set 3 sc_law_ring_good.nd (de_fn [false, false, false] c_law_walked (hr.mono (by decide)) (da_cons (de_ixv 0 de_int) (da_cons (de_f 1) (da_cons (de_f 2) da_nil)))))
  (dss_cons (ds_if (dw_pt (dw_or (dt_cmp d_isN (de_f 3) de_non (nomark _)) (dw_or1 (dt_not (dt_v (de_cb c_isi T.isinstance bt_isi (da_cons (de_ixv 0 de_int) (da_cons (de_ty T.list bt_list) da_nil)))))))) (dss_one (ds_ret de_bl)) dss_nil)
  (dss_cons (ds_if (dt_cmp (d_eq hr.units) (de_ixv 0 de_int) (de_sh (de_lst da_nil)) (nomark _)) (dss_one (ds_ret (de_and (de_cmp (d_eq hr.units) (de_ixv 3 de_int) (de_sh (de_fn [false] c_law_flip (hr.mono (by decide)) (da_cons (de_ixv 3 de_int) da_nil))) (nomark _)) (de_one (de_cmp d_lt (de_ixv 3 de_int) de_int (nomark _)))))) dss_nil)
  (dss_cons (ds_set 4 sc_law_ring_good.nd (de_fn [false, false, false] c_law_walked (hr.mono (by decide)) (da_cons (de_ixv 0 de_int) (da_cons (de_f 1) (da_cons (de_f 2) da_nil)))))
  (dss_cons (ds_if (dw_pt (dw_or (dt_cmp d_isN (de_f 4) de_non (nomark _)) (dw_or (dt_cmp (d_ne hr.units) (de_ixv 3 de_int) (de_ixv 3 de_int) (nomark _)) (dw_or1 (dt_cmp (d_ne hr.units) (de_ixv 4 de_int) (de_ixv 4 de_int) (nomark _)))))) (dss_one (ds_ret de_bl)) dss_nil)
  (dss_one (ds_ret (de_and (de_cmp (d_eq hr.units) (de_ixv 4 de_int) (de_sh (de_fn [false] c_law_flip (hr.mono (by decide)) (da_cons (de_ixv 3 de_int) da_nil))) (nomark _)) (de_one (de_cmp d_lt (de_op d_addG (de_op d_div (de_ixv 3 de_int) de_int) (de_op d_div (de_ixv 4 de_int) de_int)) de_int (nomark _))))))))))))
abbrev s_law : Stmt := topS 35
abbrev N_law : List Str := ["_law_script", "_law_count", "_law_point_here", "_law_way", "_law_cells_here", "_law_sides_here", "_law_at", "_law_odd", "_law_handed", "_law_found", "_law_shape", "_law_number"]
theorem sc_law : FnScope N_law ["_law_script"] (defScope s_law) := ⟨rfl, rfl, rfl, by decide +kernel, rfl, by decide +kernel, by decide +kernel⟩
theorem fok_law {P : Program} {w : World} {K : PySem.W.Frag} {mg : Str → Option Value} {base : Heap} {f : Addr} {fd : FuncData} (T : Blt mg) (c_law_point : Cal P w K mg base "_law_point" 2 3 φ_law_point) (c_law_cells : Cal P w K mg base "_law_cells" 2 3 φ_law_cells) (c_law_sides : Cal P w K mg base "_law_sides" 2 4 φ_law_sides) (c_ring : Cal P w K mg base "ring" 3 2 φ_ring) (c_closed : Cal P w K mg base "closed" 5 2 φ_closed) (c_law_ring_good : Cal P w K mg base "_law_ring_good" 4 3 φ_law_ring_good) (c_law_cell : Cal P w K mg base "_law_cell" 1 2 φ_law_cell) (c_law_between : Cal P w K mg base "_law_between" 2 3 φ_law_between) (c_law_bells : Cal P w K mg base "_law_bells" 2 2 φ_law_bells) (c_law_chain : Cal P w K mg base "_law_chain" 2 3 φ_law_chain) (F : FunD K "law" "law" (defArgs s_law) (defBody s_law) (defScope s_law) [] [] f fd) : FnOk P w K mg base CX0 6 f fd ["_law_script"] (spOf K 1 φ_law) := by
  refine fn_ok (ps := ["_law_script"]) ms_law F sc_law rfl (ws := w_law) (fun cdv A outer s H E hr => ?_) h_law
  exact (dss_cons (ds_set 1 sc_law.nd (de_ix (de_lst (da_cons de_int (da_cons de_int (da_cons de_int (da_cons de_int (da_cons de_int (da_cons de_int (da_cons de_int (da_cons de_int da_nil))))))))) (de_op d_mod (de_fn [false, false] c_law_cell (hr.mono (by decide)) (da_cons (de_f 0) (da_cons de_int da_nil))) de_int)))
  (dss_cons (ds_set 2 sc_law.nd (de_fn [false, false, false] c_law_point (hr.mono (by decide)) (da_cons (de_f 0) (da_cons de_int (da_cons (de_cb (c_min2 rfl) T.min bt_min (da_cons (de_f 1) (da_cons de_int da_nil))) da_nil)))))
  (dss_cons (ds_set 3 sc_law.nd (de_op d_mod (de_fn [false, false] c_law_cell (hr.mono (by decide)) (da_cons (de_f 0) (da_cons de_int da_nil))) de_int))
  (dss_cons (ds_set 4 sc_law.nd (de_fn [false, false, false] c_law_cells (hr.mono (by decide)) (da_cons (de_f 0) (da_cons de_int (da_cons de_int da_nil)))))
  (dss_cons (ds_if (dt_cmp (d_eq hr.units) (de_f 1) de_int (nomark _)) (dss_cons (ds_set 2 sc_law.nd (de_op d_addG (de_f 2) (de_sl (de_f 2) do_none (do_some de_int))))
  (dss_cons (ds_set 4 sc_law.nd (de_sl (de_f 4) do_none (do_some de_int)))
  (dss_one (ds_set 3 sc_law.nd (de_op d_mod (de_f 3) de_int))))) dss_nil)
  (dss_cons (ds_set 5 sc_law.nd (de_fn [false, false, false, false] c_law_sides (hr.mono (by decide)) (da_cons (de_f 4) (da_cons (de_f 1) (da_cons (de_f 2) (da_cons de_int da_nil))))))
  (dss_cons (ds_if (dt_cmp (d_eq hr.units) (de_f 3) de_int (nomark _)) (dss_one (ds_set 5 sc_law.nd (de_fn [false, false, false, false] c_law_sides (hr.mono (by decide)) (da_cons (de_f 4) (da_cons (de_f 1) (da_cons (de_f 2) (da_cons (de_neg de_int) da_nil))))))) dss_nil)
  (dss_cons (ds_if (dt_cmp (d_eq hr.units) (de_f 3) de_int (nomark _)) (dss_cons (ds_set 6 sc_law.nd (de_op d_mod (de_op d_div (de_fn [false, false] c_law_cell (hr.mono (by decide)) (da_cons (de_f 0) (da_cons de_int da_nil))) de_int) (de_lenv 4 T.len)))
  (dss_one (ds_set 5 sc_law.nd (de_op d_addG (de_op d_addG (de_sl (de_f 5) do_none (do_some (de_f 6))) (de_fn [false, false, false] c_law_chain (hr.mono (by decide)) (da_cons (de_f 4) (da_cons (de_f 1) (da_cons (de_f 2) da_nil))))) (de_sl (de_f 5) (do_some (de_f 6)) do_none))))) dss_nil)
  (dss_cons (ds_if (dt_cmp (d_eq hr.units) (de_f 3) de_int (nomark _)) (dss_cons (ds_set 1 sc_law.nd (de_op d_addG (de_f 1) de_int))
  (dss_cons (ds_set 7 sc_law.nd (de_ct c_tuple T.tuple bt_tuple (da_cons (de_lc (j := 11) (own := [("_law_number", 11)]) rfl sc_law.nd (di_t (de_fn [false, false, false] c_law_point (hr.mono (by decide)) (da_cons (de_f 0) (da_cons de_int (da_cons (de_f 1) da_nil))))) (blkOk_by (own := [("_law_number", 11)]) (N := N_law) (sc := defScope s_law) (by decide +kernel)) (fun _ _ _ _ _ => pg_name sc_law.nd rfl (Or.inl rfl)) (by decide) (fun _ _ _ _ _ => dts_nil) (fun _ _ _ _ _ => (de_op d_addG (de_op d_mul de_int (de_f 11)) de_int))) da_nil)))
  (dss_one (ds_set 5 sc_law.nd (de_fn [false, false, false] c_law_between (hr.mono (by decide)) (da_cons (de_f 4) (da_cons (de_f 1) (da_cons (de_f 7) da_nil)))))))) dss_nil)
  (dss_cons (ds_if (dt_cmp (d_eq hr.units) (de_f 3) de_int (nomark _)) (dss_cons (ds_set 1 sc_law.nd de_int)
  (dss_one (ds_set 5 sc_law.nd (de_fn [false, false] c_law_bells (hr.mono (by decide)) (da_cons (de_f 0) (da_cons (de_f 4) da_nil)))))) dss_nil)
  (dss_cons (ds_set 8 sc_law.nd (de_ct c_list T.list bt_list (da_cons (de_f 5) da_nil)))
  (dss_cons (ds_set 9 sc_law.nd (de_fn [false, false] c_ring (hr.mono (by decide)) (da_cons (de_f 1) (da_cons (de_f 8) da_nil))))
  (dss_cons (ds_if (dt_cmp (d_ne hr.units) (de_f 8) (de_f 5) (nomark _)) (dss_one (ds_ret de_bl)) dss_nil)
  (dss_cons (ds_set 10 sc_law.nd (de_fn [false, false] c_closed (hr.mono (by decide)) (da_cons (de_f 1) (da_cons (de_f 8) da_nil))))
  (dss_cons (ds_if (dt_isv 9) (dss_one (ds_ret (de_and (de_cmp (d_ne hr.units) (de_f 3) de_int (nomark _)) (de_and (de_cmp (d_ne hr.units) (de_f 3) de_int (nomark _)) (de_one (de_cmp d_notN (de_f 10) de_non (nomark _))))))) dss_nil)
  (dss_cons (ds_if (dw_pt (dw_or (dt_cmp (d_eq hr.units) (de_f 3) de_int (nomark _)) (dw_or (dt_cmp d_notN (de_f 10) de_non (nomark _)) (dw_or1 (dt_not (dt_v (de_peek c_law_ring_good (hr.mono (by decide)) (da_lend 9 (da_cons (de_f 5) (da_cons (de_op d_mul de_int (de_f 1)) da_nil)))))))))) (dss_one (ds_ret de_bl)) dss_nil)
  (dss_cons (ds_expr (de_clear (db_tv 9)))
  (dss_cons (ds_expr (de_app (db_tv 9) de_non))
  (dss_one (ds_ret (de_peek c_law_ring_good (hr.mono (by decide)) (da_cons (de_fn [false, false] c_ring (hr.mono (by decide)) (da_cons (de_f 1) (da_cons (de_f 8) da_nil))) (da_cons (de_f 5) (da_cons (de_op d_mul de_int (de_f 1)) da_nil))))))))))))))))))))))))
/-! ### the head -/
def dd_flipped : He.DefD := ⟨("flipped", none), "flipped", "flipped", defArgs s_flipped, defBody s_flipped, defScope s_flipped, [], []⟩
def dd_ways_round : He.DefD := ⟨("ways_round", none), "ways_round", "ways_round", defArgs s_ways_round, defBody s_ways_round, defScope s_ways_round, [], []⟩
def dd_better : He.DefD := ⟨("better", none), "better", "better", defArgs s_better, defBody s_better, defScope s_better, [], []⟩
def dd_chains_from : He.DefD := ⟨("chains_from", none), "chains_from", "chains_from", defArgs s_chains_from, defBody s_chains_from, defScope s_chains_from, [], []⟩
def dd_ring : He.DefD := ⟨("ring", none), "ring", "ring", defArgs s_ring, defBody s_ring, defScope s_ring, [], []⟩
def dd_added : He.DefD := ⟨("added", none), "added", "added", defArgs s_added, defBody s_added, defScope s_added, [], []⟩
def dd_lesser : He.DefD := ⟨("lesser", none), "lesser", "lesser", defArgs s_lesser, defBody s_lesser, defScope s_lesser, [], []⟩
def dd_wide : He.DefD := ⟨("wide", none), "wide", "wide", defArgs s_wide, defBody s_wide, defScope s_wide, [], []⟩
def dd_copied : He.DefD := ⟨("copied", none), "copied", "copied", defArgs s_copied, defBody s_copied, defScope s_copied, [], []⟩
def dd_led : He.DefD := ⟨("led", none), "led", "led", defArgs s_led, defBody s_led, defScope s_led, [], []⟩
def dd_relinked : He.DefD := ⟨("relinked", none), "relinked", "relinked", defArgs s_relinked, defBody s_relinked, defScope s_relinked, [], []⟩
def dd_halve : He.DefD := ⟨("halve", none), "halve", "halve", defArgs s_halve, defBody s_halve, defScope s_halve, [], []⟩
def dd_has_none : He.DefD := ⟨("has_none", none), "has_none", "has_none", defArgs s_has_none, defBody s_has_none, defScope s_has_none, [], []⟩
def dd_strengthen : He.DefD := ⟨("strengthen", none), "strengthen", "strengthen", defArgs s_strengthen, defBody s_strengthen, defScope s_strengthen, [], []⟩
def dd_held : He.DefD := ⟨("held", none), "held", "held", defArgs s_held, defBody s_held, defScope s_held, [], []⟩
def dd_closed : He.DefD := ⟨("closed", none), "closed", "closed", defArgs s_closed, defBody s_closed, defScope s_closed, [], []⟩
def dd_law_cell : He.DefD := ⟨("_law_cell", none), "_law_cell", "_law_cell", defArgs s_law_cell, defBody s_law_cell, defScope s_law_cell, [], []⟩
def dd_law_whole : He.DefD := ⟨("_law_whole", none), "_law_whole", "_law_whole", defArgs s_law_whole, defBody s_law_whole, defScope s_law_whole, [], []⟩
def dd_law_big : He.DefD := ⟨("_law_big", none), "_law_big", "_law_big", defArgs s_law_big, defBody s_law_big, defScope s_law_big, [], []⟩
def dd_law_point : He.DefD := ⟨("_law_point", none), "_law_point", "_law_point", defArgs s_law_point, defBody s_law_point, defScope s_law_point, [], []⟩
def dd_law_worth : He.DefD := ⟨("_law_worth", none), "_law_worth", "_law_worth", defArgs s_law_worth, defBody s_law_worth, defScope s_law_worth, [], []⟩
def dd_law_flip : He.DefD := ⟨("_law_flip", none), "_law_flip", "_law_flip", defArgs s_law_flip, defBody s_law_flip, defScope s_law_flip, [], []⟩
def dd_law_side_like : He.DefD := ⟨("_law_side_like", none), "_law_side_like", "_law_side_like", defArgs s_law_side_like, defBody s_law_side_like, defScope s_law_side_like, [], []⟩
def dd_law_cells : He.DefD := ⟨("_law_cells", none), "_law_cells", "_law_cells", defArgs s_law_cells, defBody s_law_cells, defScope s_law_cells, [], []⟩
def dd_law_sides : He.DefD := ⟨("_law_sides", none), "_law_sides", "_law_sides", defArgs s_law_sides, defBody s_law_sides, defScope s_law_sides, [], []⟩
def dd_law_chain : He.DefD := ⟨("_law_chain", none), "_law_chain", "_law_chain", defArgs s_law_chain, defBody s_law_chain, defScope s_law_chain, [], []⟩
def dd_law_bells : He.DefD := ⟨("_law_bells", none), "_law_bells", "_law_bells", defArgs s_law_bells, defBody s_law_bells, defScope s_law_bells, [], []⟩
def dd_law_between : He.DefD := ⟨("_law_between", none), "_law_between", "_law_between", defArgs s_law_between, defBody s_law_between, defScope s_law_between, [], []⟩
def dd_law_walked : He.DefD := ⟨("_law_walked", none), "_law_walked", "_law_walked", defArgs s_law_walked, defBody s_law_walked, defScope s_law_walked, [], []⟩
def dd_law_ring_good : He.DefD := ⟨("_law_ring_good", none), "_law_ring_good", "_law_ring_good", defArgs s_law_ring_good, defBody s_law_ring_good, defScope s_law_ring_good, [], []⟩
def dd_law : He.DefD := ⟨("law", none), "law", "law", defArgs s_law, defBody s_law, defScope s_law, [], []⟩
def fnL : List He.DefD := [dd_flipped, dd_ways_round, dd_better, dd_chains_from, dd_ring, dd_added, dd_lesser, dd_wide, dd_copied, dd_led, dd_relinked, dd_halve, dd_has_none, dd_strengthen, dd_held, dd_closed, dd_law_cell, dd_law_whole, dd_law_big, dd_law_point, dd_law_worth, dd_law_flip, dd_law_side_like, dd_law_cells, dd_law_sides, dd_law_chain, dd_law_bells, dd_law_between, dd_law_walked, dd_law_ring_good, dd_law]
def faL : List He.Fa := [.glo "flipped", .glo "ways_round", .glo "better", .glo "chains_from", .glo "ring", .glo "added", .glo "lesser", .glo "wide", .glo "copied", .glo "led", .glo "relinked", .glo "halve", .glo "has_none", .glo "strengthen", .glo "held", .glo "closed", .glo "_law_cell", .glo "_law_whole", .glo "_law_big", .glo "_law_point", .glo "_law_worth", .glo "_law_flip", .glo "_law_side_like", .glo "_law_cells", .glo "_law_sides", .glo "_law_chain", .glo "_law_bells", .glo "_law_between", .glo "_law_walked", .glo "_law_ring_good", .glo "law", .free "len", .free "range", .free "list", .free "tuple", .free "dict", .free "min", .free "max", .free "int", .free "bool", .free "isinstance", .free "enumerate", .free "zip", .free "reversed", .free "str", .free "set"]
abbrev RR : PySem.W.OpenRow := PySem.W.OpenLaw.row PySem.Challenge.rw_eightsides_k14_ring_walked
abbrev hkL : PySem.W.Hook := He.hookD 4 faL fnL
def obL (s : PySem.W.SharedT) : He.AlD := He.obsDG 4 faL fnL (HandSHeadRun.getT s)
theorem obL_eq (s : PySem.W.SharedT) : obL s = hkL.obs s.abs := He.obsDG_eq (HandSHeadRun.getT_eq s)
def looseL : List Str := ["__name__", "flipped", "ways_round", "better", "chains_from", "ring", "added", "lesser", "wide", "copied", "led", "relinked", "halve", "has_none", "strengthen", "held", "closed", "_law_cell", "_law_whole", "_law_big", "_law_point", "_law_worth", "_law_flip", "_law_side_like", "_law_cells", "_law_sides", "_law_chain", "_law_bells", "_law_between", "_law_walked", "_law_ring_good"]
theorem runL (w : World) : HandSHeadRun.RunEq RR (PySem.W.view RR.prog [35]) hkL obL 4000 looseL w := by
  intro os
  kernel_rfl
theorem factsL {P : Program} {w : World} {K : PySem.W.Frag} {h : Heap} {mg : Str → Option Value} {f : Addr} (X : K.In h) (G : h.Ns mainGlobals mg) (hfa : mg ("law" : Str) = some (.ref f)) (c : He.SaysD faL fnL K) :
    ∃ fd : FuncData, (∀ (s : Shared) (v : Value), BindsTo s fd ⟨[v], []⟩ [("_law_script", v)]) ∧ ∀ base : Heap, K.In base → base.Ns mainGlobals mg → FnOk P w K mg base CX0 6 f fd ["_law_script"] (spOf K 1 φ_law) := by
  have B : Blt mg := ⟨He.free_ok X G (c.fact 31 (f := .free "len") rfl), He.free_ok X G (c.fact 32 (f := .free "range") rfl), He.free_ok X G (c.fact 33 (f := .free "list") rfl), He.free_ok X G (c.fact 34 (f := .free "tuple") rfl), He.free_ok X G (c.fact 35 (f := .free "dict") rfl), He.free_ok X G (c.fact 36 (f := .free "min") rfl), He.free_ok X G (c.fact 37 (f := .free "max") rfl), He.free_ok X G (c.fact 38 (f := .free "int") rfl), He.free_ok X G (c.fact 39 (f := .free "bool") rfl), He.free_ok X G (c.fact 40 (f := .free "isinstance") rfl), He.free_ok X G (c.fact 41 (f := .free "enumerate") rfl), He.free_ok X G (c.fact 42 (f := .free "zip") rfl), He.free_ok X G (c.fact 43 (f := .free "reversed") rfl), He.free_ok X G (c.fact 44 (f := .free "str") rfl), He.free_ok X G (c.fact 45 (f := .free "set") rfl)⟩
  have F_flipped : FnP K mg "flipped" s_flipped := by
    obtain ⟨fd, F⟩ := c.def_ 0 (d := dd_flipped) rfl
    exact ⟨_, fd, F, He.glo_ok X G (c.fact 0 (f := .glo "flipped") rfl)⟩
  have F_ways_round : FnP K mg "ways_round" s_ways_round := by
    obtain ⟨fd, F⟩ := c.def_ 1 (d := dd_ways_round) rfl
    exact ⟨_, fd, F, He.glo_ok X G (c.fact 1 (f := .glo "ways_round") rfl)⟩
  have F_better : FnP K mg "better" s_better := by
    obtain ⟨fd, F⟩ := c.def_ 2 (d := dd_better) rfl
    exact ⟨_, fd, F, He.glo_ok X G (c.fact 2 (f := .glo "better") rfl)⟩
  have F_chains_from : FnP K mg "chains_from" s_chains_from := by
    obtain ⟨fd, F⟩ := c.def_ 3 (d := dd_chains_from) rfl
    exact ⟨_, fd, F, He.glo_ok X G (c.fact 3 (f := .glo "chains_from") rfl)⟩
  have F_ring : FnP K mg "ring" s_ring := by
    obtain ⟨fd, F⟩ := c.def_ 4 (d := dd_ring) rfl
    exact ⟨_, fd, F, He.glo_ok X G (c.fact 4 (f := .glo "ring") rfl)⟩
  have F_added : FnP K mg "added" s_added := by
    obtain ⟨fd, F⟩ := c.def_ 5 (d := dd_added) rfl
    exact ⟨_, fd, F, He.glo_ok X G (c.fact 5 (f := .glo "added") rfl)⟩
  have F_lesser : FnP K mg "lesser" s_lesser := by
    obtain ⟨fd, F⟩ := c.def_ 6 (d := dd_lesser) rfl
    exact ⟨_, fd, F, He.glo_ok X G (c.fact 6 (f := .glo "lesser") rfl)⟩
  have F_wide : FnP K mg "wide" s_wide := by
    obtain ⟨fd, F⟩ := c.def_ 7 (d := dd_wide) rfl
    exact ⟨_, fd, F, He.glo_ok X G (c.fact 7 (f := .glo "wide") rfl)⟩
  have F_copied : FnP K mg "copied" s_copied := by
    obtain ⟨fd, F⟩ := c.def_ 8 (d := dd_copied) rfl
    exact ⟨_, fd, F, He.glo_ok X G (c.fact 8 (f := .glo "copied") rfl)⟩
  have F_led : FnP K mg "led" s_led := by
    obtain ⟨fd, F⟩ := c.def_ 9 (d := dd_led) rfl
    exact ⟨_, fd, F, He.glo_ok X G (c.fact 9 (f := .glo "led") rfl)⟩
  have F_relinked : FnP K mg "relinked" s_relinked := by
    obtain ⟨fd, F⟩ := c.def_ 10 (d := dd_relinked) rfl
    exact ⟨_, fd, F, He.glo_ok X G (c.fact 10 (f := .glo "relinked") rfl)⟩
  have F_halve : FnP K mg "halve" s_halve := by
    obtain ⟨fd, F⟩ := c.def_ 11 (d := dd_halve) rfl
    exact ⟨_, fd, F, He.glo_ok X G (c.fact 11 (f := .glo "halve") rfl)⟩
  have F_has_none : FnP K mg "has_none" s_has_none := by
    obtain ⟨fd, F⟩ := c.def_ 12 (d := dd_has_none) rfl
    exact ⟨_, fd, F, He.glo_ok X G (c.fact 12 (f := .glo "has_none") rfl)⟩
  have F_strengthen : FnP K mg "strengthen" s_strengthen := by
    obtain ⟨fd, F⟩ := c.def_ 13 (d := dd_strengthen) rfl
    exact ⟨_, fd, F, He.glo_ok X G (c.fact 13 (f := .glo "strengthen") rfl)⟩
  have F_held : FnP K mg "held" s_held := by
    obtain ⟨fd, F⟩ := c.def_ 14 (d := dd_held) rfl
    exact ⟨_, fd, F, He.glo_ok X G (c.fact 14 (f := .glo "held") rfl)⟩
  have F_closed : FnP K mg "closed" s_closed := by
    obtain ⟨fd, F⟩ := c.def_ 15 (d := dd_closed) rfl
    exact ⟨_, fd, F, He.glo_ok X G (c.fact 15 (f := .glo "closed") rfl)⟩
  have F_law_cell : FnP K mg "_law_cell" s_law_cell := by
    obtain ⟨fd, F⟩ := c.def_ 16 (d := dd_law_cell) rfl
    exact ⟨_, fd, F, He.glo_ok X G (c.fact 16 (f := .glo "_law_cell") rfl)⟩
  have F_law_whole : FnP K mg "_law_whole" s_law_whole := by
    obtain ⟨fd, F⟩ := c.def_ 17 (d := dd_law_whole) rfl
    exact ⟨_, fd, F, He.glo_ok X G (c.fact 17 (f := .glo "_law_whole") rfl)⟩
  have F_law_big : FnP K mg "_law_big" s_law_big := by
    obtain ⟨fd, F⟩ := c.def_ 18 (d := dd_law_big) rfl
    exact ⟨_, fd, F, He.glo_ok X G (c.fact 18 (f := .glo "_law_big") rfl)⟩
  have F_law_point : FnP K mg "_law_point" s_law_point := by
    obtain ⟨fd, F⟩ := c.def_ 19 (d := dd_law_point) rfl
    exact ⟨_, fd, F, He.glo_ok X G (c.fact 19 (f := .glo "_law_point") rfl)⟩
  have F_law_worth : FnP K mg "_law_worth" s_law_worth := by
    obtain ⟨fd, F⟩ := c.def_ 20 (d := dd_law_worth) rfl
    exact ⟨_, fd, F, He.glo_ok X G (c.fact 20 (f := .glo "_law_worth") rfl)⟩
  have F_law_flip : FnP K mg "_law_flip" s_law_flip := by
    obtain ⟨fd, F⟩ := c.def_ 21 (d := dd_law_flip) rfl
    exact ⟨_, fd, F, He.glo_ok X G (c.fact 21 (f := .glo "_law_flip") rfl)⟩
  have F_law_side_like : FnP K mg "_law_side_like" s_law_side_like := by
    obtain ⟨fd, F⟩ := c.def_ 22 (d := dd_law_side_like) rfl
    exact ⟨_, fd, F, He.glo_ok X G (c.fact 22 (f := .glo "_law_side_like") rfl)⟩
  have F_law_cells : FnP K mg "_law_cells" s_law_cells := by
    obtain ⟨fd, F⟩ := c.def_ 23 (d := dd_law_cells) rfl
    exact ⟨_, fd, F, He.glo_ok X G (c.fact 23 (f := .glo "_law_cells") rfl)⟩
  have F_law_sides : FnP K mg "_law_sides" s_law_sides := by
    obtain ⟨fd, F⟩ := c.def_ 24 (d := dd_law_sides) rfl
    exact ⟨_, fd, F, He.glo_ok X G (c.fact 24 (f := .glo "_law_sides") rfl)⟩
  have F_law_chain : FnP K mg "_law_chain" s_law_chain := by
    obtain ⟨fd, F⟩ := c.def_ 25 (d := dd_law_chain) rfl
    exact ⟨_, fd, F, He.glo_ok X G (c.fact 25 (f := .glo "_law_chain") rfl)⟩
  have F_law_bells : FnP K mg "_law_bells" s_law_bells := by
    obtain ⟨fd, F⟩ := c.def_ 26 (d := dd_law_bells) rfl
    exact ⟨_, fd, F, He.glo_ok X G (c.fact 26 (f := .glo "_law_bells") rfl)⟩
  have F_law_between : FnP K mg "_law_between" s_law_between := by
    obtain ⟨fd, F⟩ := c.def_ 27 (d := dd_law_between) rfl
    exact ⟨_, fd, F, He.glo_ok X G (c.fact 27 (f := .glo "_law_between") rfl)⟩
  have F_law_walked : FnP K mg "_law_walked" s_law_walked := by
    obtain ⟨fd, F⟩ := c.def_ 28 (d := dd_law_walked) rfl
    exact ⟨_, fd, F, He.glo_ok X G (c.fact 28 (f := .glo "_law_walked") rfl)⟩
  have F_law_ring_good : FnP K mg "_law_ring_good" s_law_ring_good := by
    obtain ⟨fd, F⟩ := c.def_ 29 (d := dd_law_ring_good) rfl
    exact ⟨_, fd, F, He.glo_ok X G (c.fact 29 (f := .glo "_law_ring_good") rfl)⟩
  have F_law : FnP K mg "law" s_law := by
    obtain ⟨fd, F⟩ := c.def_ 30 (d := dd_law) rfl
    exact ⟨_, fd, F, He.glo_ok X G (c.fact 30 (f := .glo "law") rfl)⟩
  obtain ⟨f', fd, FL, hm⟩ := F_law
  cases hfa.symm.trans hm
  have b := FunD.bindsA (ps := ["_law_script"]) FL fun _ _ _ _ _ _ us hl => match us, hl with | [_], _ => rfl
  refine ⟨fd, fun s v => b s [v] rfl, fun base _ _ => ?_⟩
  have c_flipped := cal_flipped (P := P) (w := w) (K := K) (mg := mg) (base := base) B  F_flipped
  have c_ways_round := cal_ways_round (P := P) (w := w) (K := K) (mg := mg) (base := base) B  F_ways_round
  have c_better := cal_better (P := P) (w := w) (K := K) (mg := mg) (base := base) B  F_better
  have c_added := cal_added (P := P) (w := w) (K := K) (mg := mg) (base := base) B  F_added
  have c_lesser := cal_lesser (P := P) (w := w) (K := K) (mg := mg) (base := base) B  F_lesser
  have c_copied := cal_copied (P := P) (w := w) (K := K) (mg := mg) (base := base) B  F_copied
  have c_halve := cal_halve (P := P) (w := w) (K := K) (mg := mg) (base := base) B  F_halve
  have c_law_cell := cal_law_cell (P := P) (w := w) (K := K) (mg := mg) (base := base) B  F_law_cell
  have c_law_whole := cal_law_whole (P := P) (w := w) (K := K) (mg := mg) (base := base) B  F_law_whole
  have c_law_big := cal_law_big (P := P) (w := w) (K := K) (mg := mg) (base := base) B  F_law_big
  have c_law_worth := cal_law_worth (P := P) (w := w) (K := K) (mg := mg) (base := base) B  F_law_worth
  have c_law_flip := cal_law_flip (P := P) (w := w) (K := K) (mg := mg) (base := base) B  F_law_flip
  have c_chains_from := cal_chains_from (P := P) (w := w) (K := K) (mg := mg) (base := base) B c_better c_flipped F_chains_from
  have c_wide := cal_wide (P := P) (w := w) (K := K) (mg := mg) (base := base) B c_flipped F_wide
  have c_led := cal_led (P := P) (w := w) (K := K) (mg := mg) (base := base) B c_flipped c_added c_lesser F_led
  have c_has_none := cal_has_none (P := P) (w := w) (K := K) (mg := mg) (base := base) B c_flipped F_has_none
  have c_strengthen := cal_strengthen (P := P) (w := w) (K := K) (mg := mg) (base := base) B c_added c_lesser F_strengthen
  have c_law_point := cal_law_point (P := P) (w := w) (K := K) (mg := mg) (base := base) B c_law_big c_law_cell F_law_point
  have c_law_side_like := cal_law_side_like (P := P) (w := w) (K := K) (mg := mg) (base := base) B c_law_whole F_law_side_like
  have c_law_cells := cal_law_cells (P := P) (w := w) (K := K) (mg := mg) (base := base) B c_law_cell F_law_cells
  have c_law_sides := cal_law_sides (P := P) (w := w) (K := K) (mg := mg) (base := base) B c_law_worth F_law_sides
  have c_law_chain := cal_law_chain (P := P) (w := w) (K := K) (mg := mg) (base := base) B c_law_flip c_law_worth F_law_chain
  have c_law_bells := cal_law_bells (P := P) (w := w) (K := K) (mg := mg) (base := base) B c_law_cell c_law_big c_law_flip F_law_bells
  have c_law_between := cal_law_between (P := P) (w := w) (K := K) (mg := mg) (base := base) B c_law_worth F_law_between
  have c_ring := cal_ring (P := P) (w := w) (K := K) (mg := mg) (base := base) B c_ways_round c_chains_from c_flipped F_ring
  have c_relinked := cal_relinked (P := P) (w := w) (K := K) (mg := mg) (base := base) B c_led c_flipped c_lesser c_added F_relinked
  have c_law_walked := cal_law_walked (P := P) (w := w) (K := K) (mg := mg) (base := base) B c_law_side_like c_law_flip F_law_walked
  have c_held := cal_held (P := P) (w := w) (K := K) (mg := mg) (base := base) B c_relinked c_halve c_has_none c_strengthen c_copied c_flipped F_held
  have c_law_ring_good := cal_law_ring_good (P := P) (w := w) (K := K) (mg := mg) (base := base) B c_law_walked c_law_flip F_law_ring_good
  have c_closed := cal_closed (P := P) (w := w) (K := K) (mg := mg) (base := base) B c_wide c_held F_closed
  exact fok_law (P := P) (w := w) (K := K) (mg := mg) (base := base) B c_law_point c_law_cells c_law_sides c_ring c_closed c_law_ring_good c_law_cell c_law_between c_law_bells c_law_chain FL
end E8
open PySem PySem.W PySem.Calls PyProof.Rows
theorem PySem.Challenge.cw_eightsides_k14_ring_walked_holds : PySem.Challenge.rw_eightsides_k14_ring_walked.Holds := by
  w_on; o_law
  refine HandSHeadRun.head_any (r := OpenLaw.row PySem.Challenge.rw_eightsides_k14_ring_walked) (q := view (OpenLaw.row PySem.Challenge.rw_eightsides_k14_ring_walked).prog [35]) (H := E8.hkL) (ob := E8.obL) (M := 4000) (loose := E8.looseL) (d := HandSHeadRun.topDef (OpenLaw.row PySem.Challenge.rw_eightsides_k14_ring_walked).prog 35) (kwd := []) E8.obL_eq
    (by kernel_rfl) (fun s => by kernel_rfl) E8.runL (by kernel_rfl) (by kernel_rfl) (by kernel_rfl) (by rfl) (by first | assumption | decide +kernel) (by decide +kernel) ⟨rfl, rfl, rfl, rfl, rfl, by decide +kernel⟩ ?hw ?hc
  case hw => w_witness2
  case hc =>
    refine L2.walk_ofE (l := PySem.Challenge.rw_eightsides_k14_ring_walked) (n := 63) (k := 6) (x := "_law_script") (CX := L2.CX0) rfl (by decide) (by kernel_rfl) ⟨rfl, by decide, by decide⟩ ?F (fun _ _ _ _ z => z)
    intro w mg fa h Y G hmg0
    obtain ⟨K, KX, c⟩ := Y
    have hmg : mg ("law" : PySem.Str) = some (.ref fa) := by
      have e : (HandSHeadRun.topDef (OpenLaw.row PySem.Challenge.rw_eightsides_k14_ring_walked).prog 35).name = ("law" : PySem.Str) := by kernel_rfl
      rw [← e]
      exact hmg0
    obtain ⟨fd, hb, hF⟩ := E8.factsL (P := (PySem.Challenge.rw_eightsides_k14_ring_walked).prog) (w := w) KX G hmg c
    exact ⟨K, fd, E8.spOf K 1 E8.φ_law, KX, hb, fun H a ns hl _ hS => E8.law_asks hl hS, hF⟩
