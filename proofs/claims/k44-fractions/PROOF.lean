import PyProof.Rows.All
import Wide.All
import OpenK.AllK
import Wide.FinOn
import HandS.ForMost
import HandS.ForExc
import HandS.Wide
import HandS.TupAny
import HandS.Style
import HandS.Deep
import HandS.IsInst
import HandS.CallSlots
import HandS.Defaults
import HandS.MakeKwOnly
import HandS.ExcIs
import HandS.ExcField
import KE.KExcSuper
import KE.KExcIs
import PySem.Challenge.RW_roomlooks_k44_fractions
set_option Elab.async false
set_option linter.all false
set_option maxRecDepth 100000
set_option maxHeartbeats 4000000
set_option autoImplicit false
/-! Mr: a layer of values without addresses over HandS: D, the data; Mu, the open lists; Rp, what stands for what -/
namespace Mr
open PySem PySem.Spec PyProof.Rows L2

inductive D where
  | non | bl (b : Bool) | int (i : Int) | str (x : Str)
  | tup (xs : List D) | lst (xs : List D)
  | rol (xs : List D)
  | loc (n : Nat)
  | ty (n : String)
  | ins (c : Str) (fs : List (Str × D))
  | dct (kvs : List (Key × D))

/-- the open lists, by number -/
abbrev Mu := List (List D)
abbrev Rho := List (Option D)

mutual
/-- all open lists that d names are older than n -/
def D.old (n : Nat) : D → Bool
  | .non => true
  | .bl _ => true
  | .int _ => true
  | .str _ => true
  | .tup xs => oldA n xs
  | .lst xs => oldA n xs
  | .rol xs => oldA n xs
  | .loc m => decide (m < n)
  | .ty _ => true
  | .ins _ fs => oldF n fs
  | .dct kvs => oldK n kvs
def oldA (n : Nat) : List D → Bool
  | [] => true
  | d :: r => d.old n && oldA n r
def oldF (n : Nat) : List (Str × D) → Bool
  | [] => true
  | (_, d) :: r => d.old n && oldF n r
def oldK (n : Nat) : List (Key × D) → Bool
  | [] => true
  | (_, d) :: r => d.old n && oldK n r
end

/-- the written part and the module's names -/
structure Ct where
  K : PySem.W.Frag
  mg : Str → Option Value

/-- a list that nobody changes: given from without, or of the written part -/
def SqF (K : PySem.W.Frag) (H : Hp) (a : Addr) (xs : List V) : Prop :=
  (∃ o, H a = some (.frz o (.lst xs))) ∨ ∃ (o : Obj) (its : Array Value) (n : Nat), K.lookup a = some o ∧ o.cls = .type "list" ∧ o.dict = none ∧ o.data = .seq its n ∧ its.size ≤ sizeLine ∧ Vals xs its.toList
theorem SqF.sq {K : PySem.W.Frag} {H : Hp} {a : Addr} {xs : List V} : SqF K H a xs → SqL K H a xs
  | .inl e => .inl (.inr e)
  | .inr e => .inr e
mutual
inductive Rp (G : Ct) (S : List Addr) (H : Hp) : V → D → Prop
  | non : Rp G S H .non .non
  | bl (b : Bool) : Rp G S H (.bl b) (.bl b)
  | int (i : Int) : Rp G S H (.int i) (.int i)
  | str (x : Str) : Rp G S H (.str x) (.str x)
  | ty (n : String) : Rp G S H (.ty n) (.ty n)
  | tup {a : Addr} {xs : List V} {ds : List D} : SqT G.K H a xs → RpA G S H xs ds → Rp G S H (.ref a) (.tup ds)
  | lst {a : Addr} {xs : List V} {ds : List D} : a ∉ S → H a = some (.lst xs) → RpA G S H xs ds → Rp G S H (.ref a) (.lst ds)
  | rol {a : Addr} {xs : List V} {ds : List D} : SqF G.K H a xs → RpA G S H xs ds → Rp G S H (.ref a) (.rol ds)
  | loc {n : Nat} {a : Addr} : S[n]? = some a → Rp G S H (.ref a) (.loc n)
  | ins {a C dx : Addr} {c : Str} {fs : List (Str × V)} {gs : List (Str × D)} : a ∉ S → G.mg c = some (.ref C) → H a = some (.ins C dx fs) → RpF G S H fs gs → Rp G S H (.ref a) (.ins c gs)
  | dct {a : Addr} {kvs : List (Key × V)} {gs : List (Key × D)} : a ∉ S → H a = some (.dK kvs) → RpK G S H kvs gs → Rp G S H (.ref a) (.dct gs)
inductive RpA (G : Ct) (S : List Addr) (H : Hp) : List V → List D → Prop
  | nil : RpA G S H [] []
  | cons {v : V} {vs : List V} {d : D} {ds : List D} : Rp G S H v d → RpA G S H vs ds → RpA G S H (v :: vs) (d :: ds)
inductive RpF (G : Ct) (S : List Addr) (H : Hp) : List (Str × V) → List (Str × D) → Prop
  | nil : RpF G S H [] []
  | cons {f : Str} {v : V} {vs : List (Str × V)} {d : D} {ds : List (Str × D)} : Rp G S H v d → RpF G S H vs ds → RpF G S H ((f, v) :: vs) ((f, d) :: ds)
inductive RpK (G : Ct) (S : List Addr) (H : Hp) : List (Key × V) → List (Key × D) → Prop
  | nil : RpK G S H [] []
  | cons {f : Key} {v : V} {vs : List (Key × V)} {d : D} {ds : List (Key × D)} : Rp G S H v d → RpK G S H vs ds → RpK G S H ((f, v) :: vs) ((f, d) :: ds)
end

/-- the open lists stand at S -/
structure StOk (G : Ct) (S : List Addr) (H : Hp) (m : Mu) : Prop where
  nd : S.Nodup
  len : S.length = m.length
  at_ : ∀ (n : Nat) (a : Addr) (c : List D), S[n]? = some a → m[n]? = some c → oldA n c = true ∧ ∃ xs, H a = some (.lst xs) ∧ RpA G S H xs c

/-- what may have changed: new open lists at the end; all but the open ones stands as it was -/
structure Aft (G : Ct) (S : List Addr) (H : Hp) (S' : List Addr) (H' : Hp) (m' : Mu) : Prop where
  more : ∃ T, S' = S ++ T ∧ ∀ a ∈ T, H a = none
  keep : ∀ a o, H a = some o → a ∉ S → H' a = some o
  ok : StOk G S' H' m'

section
variable {G : Ct} {S S' S'' : List Addr} {H H' H'' : Hp} {m m' m'' : Mu} {v : V} {d : D} {vs : List V} {ds : List D}

theorem StOk.opn (k : StOk G S H m) {a : Addr} (h : a ∈ S) : ∃ xs, H a = some (.lst xs) := by
  obtain ⟨n, hn⟩ := List.getElem?_of_mem h
  have hlt : n < S.length := (List.getElem?_eq_some_iff.mp hn).1
  have hc : m[n]? = some (m[n]'(k.len ▸ hlt)) := List.getElem?_eq_getElem _
  obtain ⟨_, xs, e, _⟩ := k.at_ n a _ hn hc
  exact ⟨xs, e⟩

theorem sqF_move {K : PySem.W.Frag} {a : Addr} {xs : List V} (op : ∀ a ∈ S, ∃ xs, H a = some (.lst xs)) (kp : ∀ a o, H a = some o → a ∉ S → H' a = some o) (h : SqF K H a xs) : SqF K H' a xs := by
  rcases h with ⟨o, h⟩ | h
  · exact .inl ⟨o, kp _ _ h fun z => by obtain ⟨ys, e⟩ := op _ z; rw [h] at e; cases e⟩
  · exact .inr h
theorem sqT_move {K : PySem.W.Frag} {a : Addr} {xs : List V} (op : ∀ a ∈ S, ∃ xs, H a = some (.lst xs)) (kp : ∀ a o, H a = some o → a ∉ S → H' a = some o) (h : SqT K H a xs) : SqT K H' a xs := by
  rcases h with (h | ⟨o, h⟩) | h
  · exact .inl (.inl (kp _ _ h fun z => by obtain ⟨ys, e⟩ := op _ z; rw [h] at e; cases e))
  · exact .inl (.inr ⟨o, kp _ _ h fun z => by obtain ⟨ys, e⟩ := op _ z; rw [h] at e; cases e⟩)
  · exact .inr h

mutual
theorem Rp.move {T : List Addr} (op : ∀ a ∈ S, ∃ xs, H a = some (.lst xs)) (nw : ∀ a ∈ T, H a = none) (kp : ∀ a o, H a = some o → a ∉ S → H' a = some o) :
    ∀ {v : V} {d : D}, Rp G S H v d → Rp G (S ++ T) H' v d
  | _, _, .non => .non
  | _, _, .bl b => .bl b
  | _, _, .int i => .int i
  | _, _, .str x => .str x
  | _, _, .ty n => .ty n
  | _, _, .tup h r => .tup (sqT_move op kp h) (RpA.move op nw kp r)
  | _, _, .lst n h r => .lst (fun z => (List.mem_append.mp z).elim n fun z => by rw [nw _ z] at h; cases h) (kp _ _ h n) (RpA.move op nw kp r)
  | _, _, .rol h r => .rol (sqF_move op kp h) (RpA.move op nw kp r)
  | _, _, .loc h => .loc (by rw [List.getElem?_append_left (List.getElem?_eq_some_iff.mp h).1]; exact h)
  | _, _, .ins n g h r => .ins (fun z => (List.mem_append.mp z).elim n fun z => by rw [nw _ z] at h; cases h) g (kp _ _ h n) (RpF.move op nw kp r)
  | _, _, .dct n h r => .dct (fun z => (List.mem_append.mp z).elim n fun z => by rw [nw _ z] at h; cases h) (kp _ _ h n) (RpK.move op nw kp r)
theorem RpA.move {T : List Addr} (op : ∀ a ∈ S, ∃ xs, H a = some (.lst xs)) (nw : ∀ a ∈ T, H a = none) (kp : ∀ a o, H a = some o → a ∉ S → H' a = some o) :
    ∀ {v : List V} {d : List D}, RpA G S H v d → RpA G (S ++ T) H' v d
  | _, _, .nil => .nil
  | _, _, .cons h r => .cons (Rp.move op nw kp h) (RpA.move op nw kp r)
theorem RpF.move {T : List Addr} (op : ∀ a ∈ S, ∃ xs, H a = some (.lst xs)) (nw : ∀ a ∈ T, H a = none) (kp : ∀ a o, H a = some o → a ∉ S → H' a = some o) :
    ∀ {v : List (Str × V)} {d : List (Str × D)}, RpF G S H v d → RpF G (S ++ T) H' v d
  | _, _, .nil => .nil
  | _, _, .cons h r => .cons (Rp.move op nw kp h) (RpF.move op nw kp r)
theorem RpK.move {T : List Addr} (op : ∀ a ∈ S, ∃ xs, H a = some (.lst xs)) (nw : ∀ a ∈ T, H a = none) (kp : ∀ a o, H a = some o → a ∉ S → H' a = some o) :
    ∀ {v : List (Key × V)} {d : List (Key × D)}, RpK G S H v d → RpK G (S ++ T) H' v d
  | _, _, .nil => .nil
  | _, _, .cons h r => .cons (Rp.move op nw kp h) (RpK.move op nw kp r)
end

theorem Rp.aft (k : StOk G S H m) (a : Aft G S H S' H' m') (r : Rp G S H v d) : Rp G S' H' v d := by
  obtain ⟨T, e, nw⟩ := a.more
  subst e
  exact r.move (fun _ => k.opn) nw a.keep
theorem RpA.aft (k : StOk G S H m) (a : Aft G S H S' H' m') (r : RpA G S H vs ds) : RpA G S' H' vs ds := by
  obtain ⟨T, e, nw⟩ := a.more
  subst e
  exact r.move (fun _ => k.opn) nw a.keep

theorem Aft.refl (k : StOk G S H m) : Aft G S H S H m := ⟨⟨[], by simp, fun _ z => nomatch z⟩, fun _ _ h _ => h, k⟩
theorem Aft.trans (a : Aft G S H S' H' m') (b : Aft G S' H' S'' H'' m'') : Aft G S H S'' H'' m'' := by
  obtain ⟨T, e, nw⟩ := a.more
  obtain ⟨T', e', nw'⟩ := b.more
  subst e
  subst e'
  refine ⟨⟨T ++ T', by simp, fun x hx => ?_⟩, fun x o h n => ?_, b.ok⟩
  · rcases List.mem_append.mp hx with h | h
    · exact nw x h
    · cases q : H x with
      | none => rfl
      | some o =>
        exfalso
        by_cases hS : x ∈ S
        · have nd := b.ok.nd
          rw [List.append_assoc] at nd
          exact (List.nodup_append.mp nd).2.2 x hS x (List.mem_append_right _ h) rfl
        · have := a.keep x o q hS
          rw [nw' x h] at this
          cases this
  · refine b.keep x o (a.keep x o h n) fun z => ?_
    rcases List.mem_append.mp z with z | z
    · exact n z
    · rw [nw x z] at h
      cases h
/-- a new object that is no open list -/
theorem Aft.new {p : Addr} {o : HO} (k : StOk G S H m) (hp : H p = none) : Aft G S H S (upd H p o) m := by
  have kp : ∀ a u, H a = some u → upd H p o a = some u := fun a u h => by rw [upd_ne (ne_of_none h hp)]; exact h
  refine ⟨⟨[], by simp, fun _ z => nomatch z⟩, fun a u h _ => kp a u h, k.nd, k.len, fun n a c h1 h2 => ?_⟩
  obtain ⟨b, xs, e, r⟩ := k.at_ n a c h1 h2
  refine ⟨b, xs, kp _ _ e, ?_⟩
  have := r.move (T := []) (fun _ => k.opn) (fun _ z => nomatch z) (fun a u h _ => kp a u h)
  rwa [List.append_nil] at this
theorem Aft.free (a : Aft G S H S' H' m') (k : StOk G S H m) {p : Addr} (h : H' p = none) : H p = none := by
  cases q : H p with
  | none => rfl
  | some o =>
    by_cases hS : p ∈ S
    · obtain ⟨T, e, _⟩ := a.more
      have : p ∈ S' := by rw [e]; exact List.mem_append_left _ hS
      obtain ⟨xs, z⟩ := a.ok.opn this
      rw [h] at z; cases z
    · have := a.keep p o q hS
      rw [h] at this; cases this

theorem RpA.length : ∀ {vs : List V} {ds : List D}, RpA G S H vs ds → vs.length = ds.length
  | _, _, .nil => rfl
  | _, _, .cons _ r => by rw [List.length_cons, List.length_cons, RpA.length r]
theorem RpA.get : ∀ {vs : List V} {ds : List D} {i : Nat} {d : D}, RpA G S H vs ds → ds[i]? = some d → ∃ v, vs[i]? = some v ∧ Rp G S H v d
  | _, _, _, _, .nil, h => by simp at h
  | _, _, 0, _, .cons r _, h => by simp at h; subst h; exact ⟨_, rfl, r⟩
  | _, _, i + 1, d, .cons _ t, h => by
    obtain ⟨v, e, r⟩ := RpA.get (i := i) (d := d) t (by simpa using h)
    exact ⟨v, by simpa using e, r⟩
theorem RpA.getV : ∀ {vs : List V} {ds : List D} {i : Nat} {v : V}, RpA G S H vs ds → vs[i]? = some v → ∃ d, ds[i]? = some d ∧ Rp G S H v d
  | _, _, _, _, .nil, h => by simp at h
  | _, _, 0, _, .cons r _, h => by simp at h; subst h; exact ⟨_, rfl, r⟩
  | _, _, i + 1, v, .cons _ t, h => by
    obtain ⟨d, e, r⟩ := RpA.getV (i := i) (v := v) t (by simpa using h)
    exact ⟨d, by simpa using e, r⟩
theorem RpA.append : ∀ {vs ws : List V} {ds es : List D}, RpA G S H vs ds → RpA G S H ws es → RpA G S H (vs ++ ws) (ds ++ es)
  | _, _, _, _, .nil, s => s
  | _, _, _, _, .cons r t, s => .cons r (RpA.append t s)
theorem RpA.take : ∀ {vs : List V} {ds : List D} (n : Nat), RpA G S H vs ds → RpA G S H (vs.take n) (ds.take n)
  | _, _, 0, _ => .nil
  | _, _, _ + 1, .nil => .nil
  | _, _, n + 1, .cons r t => .cons r (RpA.take n t)
theorem RpA.drop : ∀ {vs : List V} {ds : List D} (n : Nat), RpA G S H vs ds → RpA G S H (vs.drop n) (ds.drop n)
  | _, _, 0, r => r
  | _, _, _ + 1, .nil => .nil
  | _, _, n + 1, .cons _ t => RpA.drop n t
theorem RpA.set {v : V} {d : D} (r : Rp G S H v d) : ∀ {vs : List V} {ds : List D} (i : Nat), RpA G S H vs ds → RpA G S H (vs.set i v) (ds.set i d)
  | _, _, _, .nil => .nil
  | _, _, 0, .cons _ t => .cons r t
  | _, _, i + 1, .cons q t => .cons q (RpA.set r i t)
theorem RpA.reverse {vs : List V} {ds : List D} (h : RpA G S H vs ds) : RpA G S H vs.reverse ds.reverse := by
  induction vs generalizing ds with
  | nil => cases h; exact .nil
  | cons v vs ih =>
    cases h with
    | cons r t =>
      rw [List.reverse_cons, List.reverse_cons]
      exact (ih t).append (.cons r .nil)
theorem RpF.lookup : ∀ {fs : List (Str × V)} {gs : List (Str × D)} {f : Str} {d : D}, RpF G S H fs gs → gs.lookup f = some d → ∃ v, fs.lookup f = some v ∧ Rp G S H v d
  | _, _, _, _, .nil, h => by simp at h
  | (g, w) :: fs, (_, e) :: gs, f, d, .cons r t, h => by
    rw [List.lookup_cons] at h ⊢
    cases hb : f == g with
    | true =>
      rw [hb] at h
      simp only [Option.some.injEq] at h
      subst h
      exact ⟨w, rfl, r⟩
    | false =>
      rw [hb] at h
      exact RpF.lookup (f := f) (d := d) t h
end

/-! ### results -/
inductive Res (A : Type) where
  | ok (a : A) (m : Mu)
  | err (c : Str) (fs : List (Str × D)) (m : Mu)
  | bad
def Res.bind {A B : Type} (r : Res A) (f : A → Mu → Res B) : Res B := match r with
  | .ok a m => f a m
  | .err c fs m => .err c fs m
  | .bad => .bad
@[simp] theorem Res.bind_ok {A B : Type} (a : A) (m : Mu) (f : A → Mu → Res B) : (Res.ok a m).bind f = f a m := rfl
@[simp] theorem Res.bind_err {A B : Type} (c : Str) (fs : List (Str × D)) (m : Mu) (f : A → Mu → Res B) : (Res.err c fs m : Res A).bind f = .err c fs m := rfl
@[simp] theorem Res.bind_bad {A B : Type} (f : A → Mu → Res B) : (Res.bad : Res A).bind f = .bad := rfl

abbrev ME := Rho → Mu → Res D
abbrev MT := Rho → Mu → Res Bool
abbrev MA := Rho → Mu → Res (List D)

/-- what is wanted of an error -/
def ErrK (G : Ct) (S : List Addr) (H : Hp) (E : XK) (c : Str) (fs : List (Str × D)) (m : Mu) : Prop :=
  ∀ (C dx : Addr) (gs : List (Str × V)) (S' : List Addr) (H' : Hp), Aft G S H S' H' m → G.mg c = some (.ref C) → H' dx = some (.xd gs) → RpF G S' H' gs fs → E (.ref C) (some dx) H'
def OutG {A : Type} (G : Ct) (S : List Addr) (H : Hp) (E : XK) (r : Res A) (Q : A → List Addr → Hp → Mu → Prop) : Prop := match r with
  | .ok a m => ∀ S' H', Aft G S H S' H' m → Q a S' H' m
  | .err c fs m => ErrK G S H E c fs m
  | .bad => False
/-- what is wanted of a value -/
def OutE (G : Ct) (S : List Addr) (H : Hp) (E : XK) (r : Res D) (Q : VK) : Prop := OutG G S H E r fun d S' H' _ => ∀ v, Rp G S' H' v d → Q v H'
def OutT (G : Ct) (S : List Addr) (H : Hp) (E : XK) (r : Res Bool) (Q : Bool → Hp → Prop) : Prop := OutG G S H E r fun b _ H' _ => Q b H'
def OutA (G : Ct) (S : List Addr) (H : Hp) (E : XK) (r : Res (List D)) (Q : List V → Hp → Prop) : Prop := OutG G S H E r fun ds S' H' _ => ∀ vs, RpA G S' H' vs ds → Q vs H'

section
variable {G : Ct} {S S' : List Addr} {H H' : Hp} {m m' : Mu} {E : XK}
theorem OutG.base {A : Type} {r : Res A} {Q : A → List Addr → Hp → Mu → Prop} (a : Aft G S H S' H' m') (o : OutG G S H E r Q) : OutG G S' H' E r Q := by
  cases r with
  | ok x m => exact fun S2 H2 b => o S2 H2 (a.trans b)
  | err c fs m => exact fun C dx gs S2 H2 b => o C dx gs S2 H2 (a.trans b)
  | bad => exact o
theorem OutG.imp {A : Type} {r : Res A} {Q Q' : A → List Addr → Hp → Mu → Prop} (o : OutG G S H E r Q) (h : ∀ a S' H' m, Q a S' H' m → Q' a S' H' m) : OutG G S H E r Q' := by
  cases r with
  | ok x m => exact fun S2 H2 b => h _ _ _ _ (o S2 H2 b)
  | err c fs m => exact o
  | bad => exact o
/-- first r, then f -/
theorem OutG.bind {A B : Type} {r : Res A} {f : A → Mu → Res B} {Q : B → List Addr → Hp → Mu → Prop} (o : OutG G S H E (r.bind f) Q) :
    OutG G S H E r fun a S' H' m => StOk G S' H' m ∧ OutG G S' H' E (f a m) Q := by
  cases r with
  | ok x m => exact fun S2 H2 b => ⟨b.ok, OutG.base b o⟩
  | err c fs m => exact o
  | bad => exact o
theorem OutE.base {r : Res D} {Q : VK} (a : Aft G S H S' H' m') (o : OutE G S H E r Q) : OutE G S' H' E r Q := OutG.base a o
end

/-! ### the slots -/
structure Sim (G : Ct) (S : List Addr) (H : Hp) (s : L2.St) (r : Rho) (m : Mu) : Prop where
  ok : StOk G S H m
  len : r.length = s.length
  at_ : ∀ (i : Nat) (d : D), r[i]? = some (some d) → ∃ v, s[i]? = some (some v) ∧ Rp G S H v d
section
variable {G : Ct} {S S' : List Addr} {H H' : Hp} {m m' : Mu} {s : L2.St} {r : Rho}
theorem Sim.aft (x : Sim G S H s r m) (a : Aft G S H S' H' m') : Sim G S' H' s r m' :=
  ⟨a.ok, x.len, fun i d h => let ⟨v, e, q⟩ := x.at_ i d h; ⟨v, e, q.aft x.ok a⟩⟩
theorem Sim.set {v : V} {d : D} (x : Sim G S H s r m) (q : Rp G S H v d) (i : Nat) : Sim G S H (s.set i (some v)) (r.set i (some d)) m := by
  refine ⟨x.ok, by rw [List.length_set, List.length_set, x.len], fun j e h => ?_⟩
  by_cases hj : i = j
  · subst hj
    by_cases hl : i < r.length
    · rw [List.getElem?_set_self hl] at h
      simp only [Option.some.injEq] at h
      subst h
      exact ⟨v, by rw [List.getElem?_set_self (x.len ▸ hl)], q⟩
    · rw [List.getElem?_eq_none (by simpa using hl)] at h
      cases h
  · rw [List.getElem?_set_ne hj] at h ⊢
    exact x.at_ j e h
theorem Sim.forget (x : Sim G S H s r m) (i : Nat) (o : Option V) : Sim G S H (s.set i o) (r.set i none) m := by
  refine ⟨x.ok, by rw [List.length_set, List.length_set, x.len], fun j e h => ?_⟩
  by_cases hj : i = j
  · subst hj
    by_cases hl : i < r.length
    · rw [List.getElem?_set_self hl] at h
      simp at h
    · rw [List.getElem?_eq_none (by simpa using hl)] at h
      cases h
  · rw [List.getElem?_set_ne hj] at h ⊢
    exact x.at_ j e h
end

/-! ### readings -/
def LfE (G : Ct) (W : WX) (f : ME) : TE := fun s H Q => ∃ S r m, Sim G S H s r m ∧ OutE G S H (fun c d H' => W c d s H') (f r m) Q
def LfT (G : Ct) (W : WX) (f : MT) : TT := fun s H Q => ∃ S r m, Sim G S H s r m ∧ OutT G S H (fun c d H' => W c d s H') (f r m) Q
def LfA (G : Ct) (W : WX) (f : MA) : TA := fun s H Q => ∃ S r m, Sim G S H s r m ∧ OutA G S H (fun c d H' => W c d s H') (f r m) Q
abbrev Cx.ct (X : Cx) : Ct := ⟨X.K, X.mg⟩
abbrev IE (X : Cx) (W : WX) (e : Expr) (f : ME) : Prop := PE X e (LfE (Cx.ct X) W f)
abbrev IT (X : Cx) (W : WX) (e : Expr) (f : MT) : Prop := PT X e (LfT (Cx.ct X) W f)
abbrev IA (X : Cx) (W : WX) (es : List Expr) (f : MA) : Prop := PA X es (LfA (Cx.ct X) W f)

theorem pe_imp {X : Cx} {e : Expr} {t t' : TE} (h : PE X e t) (i : ∀ s H Q, t' s H Q → t s H Q) : PE X e t' := ⟨fun pins s σ H Q I q => h.run pins s σ H Q I (i _ _ _ q)⟩
theorem pt_imp {X : Cx} {e : Expr} {t t' : TT} (h : PT X e t) (i : ∀ s H Q, t' s H Q → t s H Q) : PT X e t' := ⟨fun pins s σ H Q I q => h.run pins s σ H Q I (i _ _ _ q)⟩
theorem pa_imp {X : Cx} {e : List Expr} {t t' : TA} (h : PA X e t) (i : ∀ s H Q, t' s H Q → t s H Q) : PA X e t' := ⟨fun pos pins s σ H Q I q => h.run pos pins s σ H Q I (i _ _ _ q)⟩

section
variable {G : Ct} {W : WX} {S : List Addr} {H : Hp} {s : L2.St} {r : Rho} {m : Mu}
/-- a reading begins with the part f -/
theorem lfe_of {A : Type} {f : ME} {g : D → Mu → Res A} {Q : A → List Addr → Hp → Mu → Prop} {R : VK} (x : Sim G S H s r m) (o : OutG G S H (fun c d H' => W c d s H') ((f r m).bind g) Q)
    (h : ∀ (d : D) (v : V) (S' : List Addr) (H' : Hp) (m' : Mu), Aft G S H S' H' m' → Sim G S' H' s r m' → Rp G S' H' v d → OutG G S' H' (fun c d H' => W c d s H') (g d m') Q → R v H') : LfE G W f s H R := by
  refine ⟨S, r, m, x, ?_⟩
  have o' := OutG.bind o
  cases e : f r m with
  | ok d m' =>
    rw [e] at o'
    exact fun S' H' a v q => h d v S' H' m' a (x.aft a) q (o' S' H' a).2
  | err c fs m' =>
    rw [e] at o'
    exact o'
  | bad =>
    rw [e] at o'
    exact o'
theorem lft_of {A : Type} {f : MT} {g : Bool → Mu → Res A} {Q : A → List Addr → Hp → Mu → Prop} {R : Bool → Hp → Prop} (x : Sim G S H s r m) (o : OutG G S H (fun c d H' => W c d s H') ((f r m).bind g) Q)
    (h : ∀ (b : Bool) (S' : List Addr) (H' : Hp) (m' : Mu), Aft G S H S' H' m' → Sim G S' H' s r m' → OutG G S' H' (fun c d H' => W c d s H') (g b m') Q → R b H') : LfT G W f s H R := by
  refine ⟨S, r, m, x, ?_⟩
  have o' := OutG.bind o
  cases e : f r m with
  | ok d m' =>
    rw [e] at o'
    exact fun S' H' a => h d S' H' m' a (x.aft a) (o' S' H' a).2
  | err c fs m' =>
    rw [e] at o'
    exact o'
  | bad =>
    rw [e] at o'
    exact o'
theorem lfa_of {A : Type} {f : MA} {g : List D → Mu → Res A} {Q : A → List Addr → Hp → Mu → Prop} {R : List V → Hp → Prop} (x : Sim G S H s r m) (o : OutG G S H (fun c d H' => W c d s H') ((f r m).bind g) Q)
    (h : ∀ (ds : List D) (vs : List V) (S' : List Addr) (H' : Hp) (m' : Mu), Aft G S H S' H' m' → Sim G S' H' s r m' → RpA G S' H' vs ds → OutG G S' H' (fun c d H' => W c d s H') (g ds m') Q → R vs H') : LfA G W f s H R := by
  refine ⟨S, r, m, x, ?_⟩
  have o' := OutG.bind o
  cases e : f r m with
  | ok d m' =>
    rw [e] at o'
    exact fun S' H' a v q => h d v S' H' m' a (x.aft a) q (o' S' H' a).2
  | err c fs m' =>
    rw [e] at o'
    exact o'
  | bad =>
    rw [e] at o'
    exact o'
end
end Mr

/-! Mr1: expressions: names, constants, operators, comparisons, truth, displays -/
namespace Mr
open PySem PySem.Spec PyProof.Rows L2

/-! ### names, constants -/
def iVar (i : Nat) : ME := fun r m => match r[i]? with
  | some (some d) => .ok d m
  | _ => .bad
def iK (d : D) : ME := fun _ m => .ok d m
/-- constants without an address -/
def D.flat : D → Bool
  | .non => true
  | .bl _ => true
  | .int _ => true
  | .str _ => true
  | .ty _ => true
  | _ => false
def flatV : D → V
  | .bl b => .bl b
  | .int i => .int i
  | .str x => .str x
  | .ty n => .ty n
  | _ => .non
theorem rp_flat {G : Ct} {S : List Addr} {H : Hp} : ∀ {d : D}, d.flat = true → Rp G S H (flatV d) d
  | .non, _ => .non
  | .bl b, _ => .bl b
  | .int i, _ => .int i
  | .str x, _ => .str x
  | .ty n, _ => .ty n
  | .tup _, h => by cases h
  | .lst _, h => by cases h
  | .rol _, h => by cases h
  | .loc _, h => by cases h
  | .ins _ _, h => by cases h
  | .dct _, h => by cases h
section
variable {X : Cx} {W : WX}
theorem ie_var {i : Nat} {e : Expr} (h : PE X e (tVar i)) : IE X W e (iVar i) := pe_imp h fun s H Q ⟨S, r, m, x, o⟩ => by
  unfold iVar at o
  split at o
  · rename_i d hd
    obtain ⟨v, e, q⟩ := x.at_ i d hd
    exact ⟨v, e, o S H (Aft.refl x.ok) v q⟩
  · exact o.elim
theorem ie_const {e : Expr} {d : D} (hd : d.flat = true) (h : PE X e (tC (flatV d))) : IE X W e (iK d) := pe_imp h fun s H Q ⟨S, r, m, x, o⟩ =>
  o S H (Aft.refl x.ok) _ (rp_flat hd)
/-- a value of the module's top -/
theorem ie_glob {e : Expr} {d : D} {v : V} (h : PE X e (tC v)) (hv : ∀ S H, Rp (Cx.ct X) S H v d) : IE X W e (iK d) := pe_imp h fun s H Q ⟨S, r, m, x, o⟩ =>
  o S H (Aft.refl x.ok) _ (hv S H)
end

/-! ### a list's, a tuple's items -/
def viewL (m : Mu) : D → Option (List D)
  | .lst ds => some ds
  | .loc n => m[n]?
  | _ => none
theorem rp_view {G : Ct} {S : List Addr} {H : Hp} {m : Mu} {v : V} {d : D} {ds : List D} (k : StOk G S H m) (r : Rp G S H v d) (h : viewL m d = some ds) : ∃ a xs, v = .ref a ∧ H a = some (.lst xs) ∧ RpA G S H xs ds := by
  cases r with
  | lst n e ra =>
    simp only [viewL, Option.some.injEq] at h
    subst h
    exact ⟨_, _, rfl, e, ra⟩
  | loc hn =>
    simp only [viewL] at h
    obtain ⟨_, xs, e, ra⟩ := k.at_ _ _ _ hn h
    exact ⟨_, xs, rfl, e, ra⟩
  | _ => simp [viewL] at h
/-- a list's or a tuple's -/
def viewS (m : Mu) : D → Option (List D)
  | .tup ds => some ds
  | .rol ds => some ds
  | d => viewL m d
theorem rp_seq {G : Ct} {S : List Addr} {H : Hp} {m : Mu} {v : V} {d : D} {ds : List D} (k : StOk G S H m) (r : Rp G S H v d) (h : viewS m d = some ds) : ∃ a xs, v = .ref a ∧ (SqL G.K H a xs ∨ SqT G.K H a xs) ∧ RpA G S H xs ds := by
  cases r with
  | tup e ra =>
    simp only [viewS, Option.some.injEq] at h
    subst h
    exact ⟨_, _, rfl, .inr e, ra⟩
  | rol e ra =>
    simp only [viewS, Option.some.injEq] at h
    subst h
    exact ⟨_, _, rfl, .inl e.sq, ra⟩
  | lst n e ra =>
    obtain ⟨a, xs, e1, e2, e3⟩ := rp_view k (.lst n e ra) h
    exact ⟨a, xs, e1, .inl (SqL.of e2), e3⟩
  | loc hn =>
    obtain ⟨a, xs, e1, e2, e3⟩ := rp_view k (.loc hn) h
    exact ⟨a, xs, e1, .inl (SqL.of e2), e3⟩
  | _ => simp [viewS, viewL] at h

/-- a list's, also one that is only read -/
def viewQ (m : Mu) : D → Option (List D)
  | .rol ds => some ds
  | d => viewL m d
theorem rp_viewQ {G : Ct} {S : List Addr} {H : Hp} {m : Mu} {v : V} {d : D} {ds : List D} (k : StOk G S H m) (r : Rp G S H v d) (h : viewQ m d = some ds) : ∃ a xs, v = .ref a ∧ SqL G.K H a xs ∧ RpA G S H xs ds := by
  have fin : viewL m d = some ds → ∃ a xs, v = .ref a ∧ SqL G.K H a xs ∧ RpA G S H xs ds := fun h => by
    obtain ⟨a, xs, e1, e2, e3⟩ := rp_view k r h
    exact ⟨a, xs, e1, SqL.of e2, e3⟩
  cases r with
  | rol e ra =>
    simp only [viewQ, Option.some.injEq] at h
    subst h
    exact ⟨_, _, rfl, e.sq, ra⟩
  | _ => exact fin h
/-! ### as data -/
mutual
def D.py : D → Option PyData
  | .non => some .none
  | .bl b => some (.bool b)
  | .int i => some (.int i)
  | .str x => some (.str x)
  | .tup xs => (pyA xs).map .tuple
  | .lst xs => (pyA xs).map .list
  | .rol xs => (pyA xs).map .list
  | .loc _ => none
  | .ty _ => none
  | .ins _ _ => none
  | .dct _ => none
def pyA : List D → Option (List PyData)
  | [] => some []
  | d :: r => d.py.bind fun p => (pyA r).map fun ps => p :: ps
end
mutual
theorem rp_py {G : Ct} {S : List Addr} {H : Hp} : ∀ {v : V} {d : D} {p : PyData}, Rp G S H v d → d.py = some p → Dp G.K H v p
  | _, _, _, .non, h => by simp only [D.py, Option.some.injEq] at h; subst h; exact .non
  | _, _, _, .bl b, h => by simp only [D.py, Option.some.injEq] at h; subst h; exact .bl b
  | _, _, _, .int i, h => by simp only [D.py, Option.some.injEq] at h; subst h; exact .int i
  | _, _, _, .str x, h => by simp only [D.py, Option.some.injEq] at h; subst h; exact .str x
  | _, _, _, .ty n, h => by simp [D.py] at h
  | _, _, _, .tup e ra, h => by
    simp only [D.py, Option.map_eq_some_iff] at h
    obtain ⟨ps, hp, rfl⟩ := h
    exact .tup e (rp_pyA ra hp)
  | _, _, _, .lst n e ra, h => by
    simp only [D.py, Option.map_eq_some_iff] at h
    obtain ⟨ps, hp, rfl⟩ := h
    exact .lst (SqL.of e) (rp_pyA ra hp)
  | _, _, _, .rol e ra, h => by
    simp only [D.py, Option.map_eq_some_iff] at h
    obtain ⟨ps, hp, rfl⟩ := h
    exact .lst e.sq (rp_pyA ra hp)
  | _, _, _, .loc _, h => by simp [D.py] at h
  | _, _, _, .ins _ _ _ _, h => by simp [D.py] at h
  | _, _, _, .dct _ _ _, h => by simp [D.py] at h
theorem rp_pyA {G : Ct} {S : List Addr} {H : Hp} : ∀ {v : List V} {d : List D} {p : List PyData}, RpA G S H v d → pyA d = some p → DpAll G.K H v p
  | _, _, _, .nil, h => by simp only [pyA, Option.some.injEq] at h; subst h; exact .nil
  | _, _, _, .cons r t, h => by
    simp only [pyA, Option.bind_eq_some_iff, Option.map_eq_some_iff] at h
    obtain ⟨p, hp, ps, hps, rfl⟩ := h
    exact .cons (rp_py r hp) (rp_pyA t hps)
end
/-- .. an open list's items as they stand -/
def pyM (m : Mu) : D → Option PyData
  | .loc n => (m[n]?).bind fun c => (pyA c).map .list
  | d => d.py
theorem rp_pyM {G : Ct} {S : List Addr} {H : Hp} {m : Mu} {v : V} {d : D} {p : PyData} (k : StOk G S H m) (r : Rp G S H v d) (h : pyM m d = some p) : Dp G.K H v p := by
  have r0 := r
  cases r with
  | loc hn =>
    simp only [pyM, Option.bind_eq_some_iff, Option.map_eq_some_iff] at h
    obtain ⟨c, hc, ps, hp, rfl⟩ := h
    obtain ⟨_, xs, e, ra⟩ := k.at_ _ _ _ hn hc
    exact .lst (SqL.of e) (rp_pyA ra hp)
  | _ => exact rp_py r0 h

/-! ### operators -/
abbrev D2 := D → D → Mu → Res D
def iOp (f : D2) (a b : ME) : ME := fun r m => (a r m).bind fun x m1 => (b r m1).bind fun y m2 => f x y m2
def LfO (G : Ct) (f : D2) : R2 := fun x y H Q => ∃ E S m dx dy, StOk G S H m ∧ Rp G S H x dx ∧ Rp G S H y dy ∧ OutE G S H E (f dx dy m) Q
section
variable {X : Cx} {W : WX} {a b : Expr} {fa fb : ME} {f : D2} {pos : Pos}
theorem lf_op {r : R2} (i : ∀ x y H Q, LfO (Cx.ct X) f x y H Q → r x y H Q) : ∀ s H Q, LfE (Cx.ct X) W (iOp f fa fb) s H Q → tOp r (LfE (Cx.ct X) W fa) (LfE (Cx.ct X) W fb) s H Q :=
  fun s H Q ⟨S, rr, m, x, o⟩ => lfe_of x o fun d v S1 H1 m1 a1 x1 q1 o1 => lfe_of x1 o1 fun d2 v2 S2 H2 m2 a2 x2 q2 o2 => i _ _ _ _ ⟨_, S2, m2, d, d2, x2.ok, q1.aft x1.ok a2, q2, o2⟩
theorem ie_op {op : Operator} (ho : OpR X (binaryOp op) (LfO (Cx.ct X) f)) (ha : IE X W a fa) (hb : IE X W b fb) : IE X W (.BinOp a op b pos) (iOp f fa fb) :=
  pe_imp (pe_op ho ha hb) (lf_op fun _ _ _ _ h => h)
theorem ie_cmp {op : CmpOp} (ho : OpR X (compareOp op) (LfO (Cx.ct X) f)) (ha : IE X W a fa) (hb : IE X W b fb) (hm : behindInMarks op b = false) : IE X W (.Compare a [op] [b] pos) (iOp f fa fb) :=
  pe_imp (pe_cmpR ho ha hb hm) (lf_op fun _ _ _ _ h => h)
def iTest (f : ME) : MT := fun r m => (f r m).bind fun d m' => match d with
  | .bl b => .ok b m'
  | _ => .bad
theorem lf_test {W : WX} {f : ME} : ∀ s H Q, LfT (Cx.ct X) W (iTest f) s H Q → tTest (LfE (Cx.ct X) W f) s H Q := fun s H Q ⟨S, rr, m, x, o⟩ => lfe_of x o fun d v S1 H1 m1 a1 x1 q1 o1 => by
  cases q1 with
  | bl b => exact ⟨b, rfl, o1 S1 H1 (Aft.refl x1.ok)⟩
  | _ => exact o1.elim
theorem it_cmp {op : CmpOp} (ho : OpR X (compareOp op) (LfO (Cx.ct X) f)) (ha : IE X W a fa) (hb : IE X W b fb) (hm : behindInMarks op b = false) : IT X W (.Compare a [op] [b] pos) (iTest (iOp f fa fb)) :=
  pt_imp (pt_cmpR ho ha hb hm) fun s H Q h => by
    obtain h' := lf_test s H Q h
    exact lf_op (fun _ _ _ _ h => h) _ _ _ h'
end

def rOk (d : D) (m : Mu) : Res D := .ok d m
theorem out_ok {G : Ct} {S : List Addr} {H : Hp} {m : Mu} {d : D} {v : V} {Q : VK} {E : XK} (k : StOk G S H m) (o : OutE G S H E (.ok d m) Q) (r : Rp G S H v d) : Q v H := o S H (Aft.refl k) v r
theorem out_tup {G : Ct} {S : List Addr} {H : Hp} {m : Mu} {ds : List D} {xs : List V} {Q : VK} {E : XK} {p : Addr} (k : StOk G S H m) (o : OutE G S H E (.ok (.tup ds) m) Q) (r : RpA G S H xs ds) (hp : H p = none) : Q (.ref p) (upd H p (.tup xs)) := by
  have a : Aft G S H S (upd H p (.tup xs)) m := Aft.new k hp
  exact o S _ a _ (.tup (SqT.of upd_same) (r.aft k a))
theorem not_opn {G : Ct} {S : List Addr} {H : Hp} {m : Mu} (k : StOk G S H m) {p : Addr} (hp : H p = none) : p ∉ S := fun z => by
  obtain ⟨xs, e⟩ := k.opn z
  rw [hp] at e; cases e
theorem out_lst {G : Ct} {S : List Addr} {H : Hp} {m : Mu} {ds : List D} {xs : List V} {Q : VK} {E : XK} {p : Addr} (k : StOk G S H m) (o : OutE G S H E (.ok (.lst ds) m) Q) (r : RpA G S H xs ds) (hp : H p = none) : Q (.ref p) (upd H p (.lst xs)) := by
  have a : Aft G S H S (upd H p (.lst xs)) m := Aft.new k hp
  exact o S _ a _ (.lst (not_opn k hp) upd_same (r.aft k a))

def intOp (f : Int → Int → D) : D2 := fun x y m => match x, y with
  | .int i, .int j => .ok (f i j) m
  | _, _ => .bad
def intOpC (C : Int → Int → Prop) [∀ i j, Decidable (C i j)] (f : Int → Int → D) : D2 := fun x y m => match x, y with
  | .int i, .int j => if C i j then .ok (f i j) m else .bad
  | _, _ => .bad
instance (i j : Int) : Decidable (CMulW i j) := inferInstanceAs (Decidable (_ < _))
instance (i j : Int) : Decidable (CDivW i j) := inferInstanceAs (Decidable (_ ∧ _))
instance (i j : Int) : Decidable (CPow i j) := inferInstanceAs (Decidable (_ ∧ _))
/-- + -/
def oAdd : D2 := fun x y m => match x, y with
  | .int i, .int j => .ok (.int (i + j)) m
  | .str i, .str j => if i.length + j.length ≤ sizeLine then .ok (.str (i ++ j)) m else .bad
  | .tup xs, .tup ys => if xs.length + ys.length ≤ sizeLine then .ok (.tup (xs ++ ys)) m else .bad
  | x, y => match viewL m x, viewL m y with
    | some xs, some ys => if xs.length + ys.length ≤ sizeLine then .ok (.lst (xs ++ ys)) m else .bad
    | _, _ => .bad
section
variable {X : Cx}
theorem op_intOp {f : Value → Value → Sem Value} {g : Int → Int → D} {C : Int → Int → Prop} (h : OpR X f (rI C fun i j => flatV (g i j))) (hc : ∀ i j, C i j) (hf : ∀ i j, (g i j).flat = true) : OpR X f (LfO (Cx.ct X) (intOp g)) := by
  rintro pins s σ H x y v u Q I rx ry ⟨E, S, m, dx, dy, k, r1, r2, o⟩
  cases r1 with
  | int i =>
    cases r2 with
    | int j => exact h pins s σ H _ _ v u Q I rx ry ⟨i, j, rfl, rfl, hc i j, out_ok k o (rp_flat (hf i j))⟩
    | _ => exact o.elim
  | _ => exact o.elim
theorem op_intOp0 {f : Value → Value → Sem Value} {g : Int → Int → D} (h : OpR X f (rI0 fun i j => flatV (g i j))) (hf : ∀ i j, (g i j).flat = true) : OpR X f (LfO (Cx.ct X) (intOp g)) := by
  rintro pins s σ H x y v u Q I rx ry ⟨E, S, m, dx, dy, k, r1, r2, o⟩
  cases r1 with
  | int i =>
    cases r2 with
    | int j => exact h pins s σ H _ _ v u Q I rx ry ⟨i, j, rfl, rfl, out_ok k o (rp_flat (hf i j))⟩
    | _ => exact o.elim
  | _ => exact o.elim
theorem op_intOpC {f : Value → Value → Sem Value} {g : Int → Int → D} {C : Int → Int → Prop} [∀ i j, Decidable (C i j)] (h : OpR X f (rI C fun i j => flatV (g i j))) (hf : ∀ i j, (g i j).flat = true) : OpR X f (LfO (Cx.ct X) (intOpC C g)) := by
  rintro pins s σ H x y v u Q I rx ry ⟨E, S, m, dx, dy, k, r1, r2, o⟩
  cases r1 with
  | int i =>
    cases r2 with
    | int j =>
      by_cases hc : C i j
      · exact h pins s σ H _ _ v u Q I rx ry ⟨i, j, rfl, rfl, hc, by simp only [intOpC, if_pos hc] at o; exact out_ok k o (rp_flat (hf i j))⟩
      · simp only [intOpC, if_neg hc] at o
        exact o.elim
    | _ => exact o.elim
  | _ => exact o.elim
def oSub : D2 := intOp fun i j => .int (i - j)
def oMul : D2 := intOpC CMulW fun i j => .int (i * j)
def oDiv : D2 := intOpC CDivW fun i j => .int (i / j)
/-- // by any small number but 0 -/
def oDivN : D2 := intOpC (fun i j => j ≠ 0 ∧ j.natAbs.log2 < 9000) fun i j => .int (i.fdiv j)
def oMod : D2 := intOpC (fun _ j => 0 < j) fun i j => .int (i % j)
def oPow : D2 := intOpC CPow fun i j => .int (i ^ j.toNat)
theorem or_sub : OpR X (binaryOp .Sub) (LfO (Cx.ct X) oSub) := op_intOp0 op_sub fun _ _ => rfl
theorem or_mul : OpR X (binaryOp .Mult) (LfO (Cx.ct X) oMul) := op_intOpC op_mulW fun _ _ => rfl
theorem or_div : OpR X (binaryOp .FloorDiv) (LfO (Cx.ct X) oDiv) := op_intOpC op_fdivW fun _ _ => rfl
theorem op_fdivNW : OpR X (binaryOp .FloorDiv) (rI (fun i j => j ≠ 0 ∧ j.natAbs.log2 < 9000) fun i j => .int (i.fdiv j)) := opI fun _ _ _ _ _ _ _ hc q => floordiv_int hc.1 q (.inl (PyProof.noPylong_of_log2 hc.2))
theorem or_divN : OpR X (binaryOp .FloorDiv) (LfO (Cx.ct X) oDivN) := op_intOpC op_fdivNW fun _ _ => rfl
theorem or_mod : OpR X (binaryOp .Mod) (LfO (Cx.ct X) oMod) := op_intOpC op_mod fun _ _ => rfl
theorem or_pow : OpR X (binaryOp .Pow) (LfO (Cx.ct X) oPow) := op_intOpC op_pow fun _ _ => rfl
theorem or_add : OpR X (binaryOp .Add) (LfO (Cx.ct X) oAdd) := by
  rintro pins s σ H x y v u Q I rx ry ⟨E, S, m, dx, dy, k, r1, r2, o⟩
  have lists : ∀ {xs ys : List D}, viewL m dx = some xs → viewL m dy = some ys → OutE (Cx.ct X) S H E (if xs.length + ys.length ≤ sizeLine then .ok (.lst (xs ++ ys)) m else .bad) Q → wpAny (model X.prog X.w) X.A (binaryOp .Add v u) (EP X pins σ Q) X.xe s := by
    intro xs ys h1 h2 o
    obtain ⟨a, vs, rfl, e1, q1⟩ := rp_view k r1 h1
    obtain ⟨b, ws, rfl, e2, q2⟩ := rp_view k r2 h2
    by_cases hz : xs.length + ys.length ≤ sizeLine
    · rw [if_pos hz] at o
      exact op_cat pins s σ H _ _ v u Q I rx ry ⟨a, b, vs, ws, rfl, rfl, e1, e2, by rw [q1.length, q2.length]; exact hz, fun p hp => out_lst k o (q1.append q2) hp⟩
    · rw [if_neg hz] at o
      exact o.elim
  cases dx with
  | int i =>
    cases dy with
    | int j =>
      cases r1; cases r2
      exact op_add pins s σ H _ _ v u Q I rx ry ⟨i, j, rfl, rfl, out_ok k o (.int _)⟩
    | _ => simp only [oAdd, viewL] at o; exact o.elim
  | str i =>
    cases dy with
    | str j =>
      cases r1; cases r2
      by_cases hz : i.length + j.length ≤ sizeLine
      · simp only [oAdd, if_pos hz] at o
        exact op_add_str pins s σ H _ _ v u Q I rx ry ⟨i, j, rfl, rfl, hz, out_ok k o (.str _)⟩
      · simp only [oAdd, if_neg hz] at o
        exact o.elim
    | _ => simp only [oAdd, viewL] at o; exact o.elim
  | tup xs =>
    cases dy with
    | tup ys =>
      cases r1 with
      | tup e1 q1 =>
        cases r2 with
        | tup e2 q2 =>
          rename_i a vs b ws
          by_cases hz : xs.length + ys.length ≤ sizeLine
          · simp only [oAdd, if_pos hz] at o
            refine op_catA pins s σ H _ _ v u Q I rx ry ⟨a, b, vs, ws, rfl, rfl, e1, e2, by rw [q1.length, q2.length]; exact hz, fun z => ?_, fun z z' => ?_, fun _ _ p hp => out_tup k o (q1.append q2) hp⟩
            · subst z
              cases q1
              exact out_ok k o (.tup e2 q2)
            · subst z'
              cases q2
              rw [List.append_nil] at o
              exact out_ok k o (.tup e1 q1)
          · simp only [oAdd, if_neg hz] at o
            exact o.elim
    | _ => simp only [oAdd, viewL] at o; exact o.elim
  | lst xs =>
    simp only [oAdd] at o
    split at o
    · rename_i h1 h2
      exact lists h1 h2 o
    · exact o.elim
  | loc n =>
    simp only [oAdd] at o
    split at o
    · rename_i h1 h2
      exact lists h1 h2 o
    · exact o.elim
  | _ => simp only [oAdd, viewL] at o; exact o.elim
end

/-! ### comparisons -/
def oLt : D2 := fun x y m => match x, y with
  | .int i, .int j => .ok (.bl (decide (i < j))) m
  | .str i, .str j => .ok (.bl (decide (i.cps.toList < j.cps.toList))) m
  | _, _ => .bad
def oLe : D2 := intOp fun i j => .bl (decide (i ≤ j))
def oGt : D2 := intOp fun i j => .bl (decide (j < i))
def oGe : D2 := intOp fun i j => .bl (decide (j ≤ i))
def eqD (m : Mu) (x y : D) : Option Bool := match pyM m x, pyM m y with
  | some p, some q => if SeqAt.shaped p = true ∧ SeqAt.shaped q = true then some (PyData.eqv p q) else none
  | _, _ => none
def oEq : D2 := fun x y m => match eqD m x y with
  | some b => .ok (.bl b) m
  | none => .bad
def oNe : D2 := fun x y m => match eqD m x y with
  | some b => .ok (.bl (!b)) m
  | none => .bad
def oIs : D2 := fun x y m => match x, y with
  | .bl a, .bl b => .ok (.bl (decide (a = b))) m
  | .non, .non => .ok (.bl true) m
  | .bl _, .non => .ok (.bl false) m
  | .int _, .non => .ok (.bl false) m
  | .str _, .non => .ok (.bl false) m
  | .tup _, .non => .ok (.bl false) m
  | .lst _, .non => .ok (.bl false) m
  | .loc _, .non => .ok (.bl false) m
  | .rol _, .non => .ok (.bl false) m
  | .ins _ _, .non => .ok (.bl false) m
  | .dct _, .non => .ok (.bl false) m
  | _, _ => .bad
def oIsNot : D2 := fun x y m => (oIs x y m).bind fun d m' => match d with
  | .bl b => .ok (.bl (!b)) m'
  | _ => .bad
/-- x in y: a list, a tuple of data; a text of one sign in a text -/
def inD (m : Mu) (x y : D) : Option Bool := match y with
  | .str s => match x with
    | .str t => some (!(Builtin.Str.occurrences s t 0 s.length 1).isEmpty)
    | _ => none
  | y => match pyM m x, pyM m y with
    | some p, some (.list qs) => if SeqAt.shaped p = true ∧ SeqAt.shaped (.list qs) = true then some (qs.any fun z => PyData.eqv z p) else none
    | some p, some (.tuple qs) => if SeqAt.shaped p = true ∧ SeqAt.shaped (.tuple qs) = true then some (qs.any fun z => PyData.eqv z p) else none
    | _, _ => none
def oIn : D2 := fun x y m => match inD m x y with
  | some b => .ok (.bl b) m
  | none => .bad
def oNotIn : D2 := fun x y m => match inD m x y with
  | some b => .ok (.bl (!b)) m
  | none => .bad
section
variable {X : Cx}
theorem or_lt : OpR X (compareOp .Lt) (LfO (Cx.ct X) oLt) := by
  rintro pins s σ H x y v u Q I rx ry ⟨E, S, m, dx, dy, k, r1, r2, o⟩
  cases r1 with
  | int i =>
    cases r2 with
    | int j => exact op_lt pins s σ H _ _ v u Q I rx ry ⟨i, j, rfl, rfl, out_ok k o (.bl _)⟩
    | _ => exact o.elim
  | str i =>
    cases r2 with
    | str j => exact op_lt_str pins s σ H _ _ v u Q I rx ry ⟨i, j, rfl, rfl, out_ok k o (.bl _)⟩
    | _ => exact o.elim
  | _ => exact o.elim
theorem or_le : OpR X (compareOp .LtE) (LfO (Cx.ct X) oLe) := op_intOp0 op_le fun _ _ => rfl
theorem or_gt : OpR X (compareOp .Gt) (LfO (Cx.ct X) oGt) := op_intOp0 op_gt fun _ _ => rfl
theorem or_ge : OpR X (compareOp .GtE) (LfO (Cx.ct X) oGe) := op_intOp0 op_ge fun _ _ => rfl
theorem eqD_some {m : Mu} {x y : D} {b : Bool} (h : eqD m x y = some b) : ∃ p q, pyM m x = some p ∧ pyM m y = some q ∧ SeqAt.shaped p = true ∧ SeqAt.shaped q = true ∧ b = PyData.eqv p q := by
  unfold eqD at h
  split at h
  · rename_i p q h1 h2
    split at h
    · rename_i hs
      exact ⟨p, q, h1, h2, hs.1, hs.2, (Option.some.inj h).symm⟩
    · cases h
  · cases h
theorem or_eq (hu : X.A.units + 64 < cLine) : OpR X (compareOp .Eq) (LfO (Cx.ct X) oEq) := by
  rintro pins s σ H x y v u Q I rx ry ⟨E, S, m, dx, dy, k, r1, r2, o⟩
  unfold oEq at o
  cases hb : eqD m dx dy with
  | none => rw [hb] at o; exact o.elim
  | some b =>
    rw [hb] at o
    obtain ⟨p, q, h1, h2, s1, s2, rfl⟩ := eqD_some hb
    exact op_eqD hu pins s σ H _ _ v u Q I rx ry ⟨p, q, rp_pyM k r1 h1, rp_pyM k r2 h2, s1, s2, out_ok k o (.bl _)⟩
theorem or_ne (hu : X.A.units + 64 < cLine) : OpR X (compareOp .NotEq) (LfO (Cx.ct X) oNe) := by
  rintro pins s σ H x y v u Q I rx ry ⟨E, S, m, dx, dy, k, r1, r2, o⟩
  unfold oNe at o
  cases hb : eqD m dx dy with
  | none => rw [hb] at o; exact o.elim
  | some b =>
    rw [hb] at o
    obtain ⟨p, q, h1, h2, s1, s2, rfl⟩ := eqD_some hb
    exact op_neD hu pins s σ H _ _ v u Q I rx ry ⟨p, q, rp_pyM k r1 h1, rp_pyM k r2 h2, s1, s2, out_ok k o (.bl _)⟩
theorem or_is : OpR X (compareOp .Is) (LfO (Cx.ct X) oIs) := by
  rintro pins s σ H x y v u Q I rx ry ⟨E, S, m, dx, dy, k, r1, r2, o⟩
  cases r2 with
  | bl b =>
    cases r1 with
    | bl a => exact op_isBl pins s σ H _ _ v u Q I rx ry ⟨a, b, rfl, rfl, out_ok k o (.bl _)⟩
    | _ => exact o.elim
  | non =>
    cases r1 <;> first
      | exact o.elim
      | exact op_isN pins s σ H _ _ v u Q I rx ry ⟨rfl, out_ok k o (.bl _)⟩
  | _ => cases r1 <;> exact o.elim
theorem or_isNot : OpR X (compareOp .IsNot) (LfO (Cx.ct X) oIsNot) := by
  rintro pins s σ H x y v u Q I rx ry ⟨E, S, m, dx, dy, k, r1, r2, o⟩
  cases r2 with
  | bl b =>
    cases r1 with
    | bl a => exact op_notBl pins s σ H _ _ v u Q I rx ry ⟨a, b, rfl, rfl, out_ok k o (.bl _)⟩
    | _ => exact o.elim
  | non =>
    cases r1 <;> first
      | exact o.elim
      | exact op_notN pins s σ H _ _ v u Q I rx ry ⟨rfl, out_ok k o (.bl _)⟩
  | _ => cases r1 <;> exact o.elim
theorem in_at {neg : Bool} {op : CmpOp} (hop : op = if neg then .NotIn else .In) (hu : X.A.units + 65 < cLine) : OpR X (compareOp op) (LfO (Cx.ct X) fun x y m => match inD m x y with | some b => .ok (.bl (if neg then !b else b)) m | none => .bad) := by
  rintro pins s σ H x y v u Q I rx ry ⟨E, S, m, dx, dy, k, r1, r2, o⟩
  replace o : OutE (Cx.ct X) S H E (match inD m dx dy with | some b => .ok (.bl (if neg then !b else b)) m | none => .bad) Q := o
  cases hb : inD m dx dy with
  | none => rw [hb] at o; exact o.elim
  | some b =>
    rw [hb] at o
    have data : ∀ {p : PyData}, pyM m dx = some p → (∀ qs, pyM m dy = some (.list qs) → SeqAt.shaped p = true → SeqAt.shaped (.list qs) = true → b = (qs.any fun z => PyData.eqv z p) → wpAny (model X.prog X.w) X.A (compareOp op v u) (EP X pins σ Q) X.xe s) ∧
        (∀ qs, pyM m dy = some (.tuple qs) → SeqAt.shaped p = true → SeqAt.shaped (.tuple qs) = true → b = (qs.any fun z => PyData.eqv z p) → wpAny (model X.prog X.w) X.A (compareOp op v u) (EP X pins σ Q) X.xe s) := by
      intro p hp
      have hd := rp_pyM k r1 hp
      obtain ⟨as, rr1⟩ := Dp.reads I p x v hd rx
      refine ⟨fun qs hq sp sq eb => ?_, fun qs hq sp sq eb => ?_⟩
      · subst eb
        obtain ⟨bs, rr2⟩ := Dp.reads I _ y u (rp_pyM k r2 hq) ry
        cases neg with
        | true => subst hop; exact SeqAt.notIn_list_reads rr2 rr1 (SeqAt.canLay_of_shaped sq) (SeqAt.canLay_of_shaped sp) (room_in_shaped sp hu) ⟨.bl _, H, I, rfl, out_ok k o (.bl _)⟩
        | false => subst hop; exact SeqAt.in_list_reads rr2 rr1 (SeqAt.canLay_of_shaped sq) (SeqAt.canLay_of_shaped sp) (room_in_shaped sp hu) ⟨.bl _, H, I, rfl, out_ok k o (.bl _)⟩
      · subst eb
        obtain ⟨bs, rr2⟩ := Dp.reads I _ y u (rp_pyM k r2 hq) ry
        cases neg with
        | true => subst hop; exact SeqAt.notIn_tuple_reads rr2 rr1 (SeqAt.canLay_of_shaped sq) (SeqAt.canLay_of_shaped sp) (room_in_shaped sp hu) ⟨.bl _, H, I, rfl, out_ok k o (.bl _)⟩
        | false => subst hop; exact SeqAt.in_tuple_reads rr2 rr1 (SeqAt.canLay_of_shaped sq) (SeqAt.canLay_of_shaped sp) (room_in_shaped sp hu) ⟨.bl _, H, I, rfl, out_ok k o (.bl _)⟩
    unfold inD at hb
    split at hb
    · rename_i t
      split at hb
      · rename_i t'
        cases r1
        cases r2
        cases hb
        cases neg with
        | true => subst hop; exact op_notin_str pins s σ H _ _ v u Q I rx ry ⟨_, _, rfl, rfl, out_ok k o (.bl _)⟩
        | false => subst hop; exact op_in_str pins s σ H _ _ v u Q I rx ry ⟨_, _, rfl, rfl, out_ok k o (.bl _)⟩
      · cases hb
    · split at hb
      · rename_i p qs h1 h2
        split at hb
        · rename_i hs
          exact (data h1).1 qs h2 hs.1 hs.2 (Option.some.inj hb).symm
        · cases hb
      · rename_i p qs h1 h2
        split at hb
        · rename_i hs
          exact (data h1).2 qs h2 hs.1 hs.2 (Option.some.inj hb).symm
        · cases hb
      · cases hb
theorem or_in (hu : X.A.units + 65 < cLine) : OpR X (compareOp .In) (LfO (Cx.ct X) oIn) := in_at (neg := false) rfl hu
theorem or_notIn (hu : X.A.units + 65 < cLine) : OpR X (compareOp .NotIn) (LfO (Cx.ct X) oNotIn) := in_at (neg := true) rfl hu
end
end Mr

/-! Mr2: tests, choices, displays, items, slices, calls -/
namespace Mr
open PySem PySem.Spec PyProof.Rows L2

/-! ### argument lists, displays -/
def iNil : MA := fun _ m => .ok [] m
def iCons (f : ME) (g : MA) : MA := fun r m => (f r m).bind fun d m1 => (g r m1).bind fun ds m2 => .ok (d :: ds) m2
def iTup (f : MA) : ME := fun r m => (f r m).bind fun ds m1 => if ds.length ≤ sizeLine then .ok (.tup ds) m1 else .bad
def iLst (f : MA) : ME := fun r m => (f r m).bind fun ds m1 => if ds.length ≤ sizeLine then .ok (.lst ds) m1 else .bad
/-- a new open list -/
def openL (ds : List D) (m : Mu) : Res D := if ds.length ≤ sizeLine ∧ oldA m.length ds = true then .ok (.loc m.length) (m ++ [ds]) else .bad
def iLstO (f : MA) : ME := fun r m => (f r m).bind openL
theorem Aft.push {G : Ct} {S : List Addr} {H : Hp} {m : Mu} {ds : List D} {xs : List V} {p : Addr} (k : StOk G S H m) (hp : H p = none) (r : RpA G S H xs ds) (ho : oldA m.length ds = true) : Aft G S H (S ++ [p]) (upd H p (.lst xs)) (m ++ [ds]) := by
  have kp : ∀ a u, H a = some u → upd H p (.lst xs) a = some u := fun a u h => by rw [upd_ne (ne_of_none h hp)]; exact h
  have nw : ∀ a ∈ [p], H a = none := fun a ha => by simp at ha; subst ha; exact hp
  have hn := not_opn k hp
  refine ⟨⟨[p], rfl, nw⟩, fun a u h _ => kp a u h, ⟨?_, by rw [List.length_append, List.length_append, k.len]; rfl, fun n a c h1 h2 => ?_⟩⟩
  · exact List.nodup_append.mpr ⟨k.nd, by simp, fun a ha b hb e => by simp at hb; subst hb; subst e; exact hn ha⟩
  · by_cases hlt : n < S.length
    · rw [List.getElem?_append_left hlt] at h1
      rw [List.getElem?_append_left (k.len ▸ hlt)] at h2
      obtain ⟨b, ys, e, q⟩ := k.at_ n a c h1 h2
      exact ⟨b, ys, kp _ _ e, q.move (fun _ => k.opn) nw (fun a u h _ => kp a u h)⟩
    · have hlt2 : ¬ n < m.length := k.len ▸ hlt
      rw [List.getElem?_append_right (by omega)] at h1
      rw [List.getElem?_append_right (by omega)] at h2
      have hz := k.len
      cases hi : n - S.length with
      | succ j => rw [hi] at h1; simp at h1
      | zero =>
        have hi2 : n - m.length = 0 := by omega
        rw [hi] at h1
        rw [hi2] at h2
        simp only [List.getElem?_cons_zero, Option.some.injEq] at h1 h2
        subst h1
        subst h2
        have en : n = m.length := by omega
        subst en
        exact ⟨ho, xs, upd_same, r.move (fun _ => k.opn) nw (fun a u h _ => kp a u h)⟩
theorem out_open {G : Ct} {S : List Addr} {H : Hp} {m : Mu} {ds : List D} {xs : List V} {Q : VK} {E : XK} {p : Addr} (k : StOk G S H m) (o : OutE G S H E (openL ds m) Q) (r : RpA G S H xs ds) (hp : H p = none) : Q (.ref p) (upd H p (.lst xs)) := by
  unfold openL at o
  by_cases hc : ds.length ≤ sizeLine ∧ oldA m.length ds = true
  · rw [if_pos hc] at o
    exact o _ _ (Aft.push k hp r hc.2) _ (.loc (by rw [← k.len]; simp))
  · rw [if_neg hc] at o
    exact o.elim
section
variable {X : Cx} {W : WX} {e : Expr} {es : List Expr} {f : ME} {g : MA} {pos : Pos}
theorem ia_nil : IA X W [] iNil := pa_imp pa_nil fun s H Q ⟨S, r, m, x, o⟩ => o S H (Aft.refl x.ok) [] .nil
theorem lf_cons {G : Ct} : ∀ s H Q, LfA G W (iCons f g) s H Q → tCons (LfE G W f) (LfA G W g) s H Q := fun s H Q ⟨S, r, m, x, o⟩ =>
  lfe_of x o fun d v S1 H1 m1 a1 x1 q1 o1 => lfa_of x1 o1 fun ds vs S2 H2 m2 a2 x2 q2 o2 => o2 S2 H2 (Aft.refl x2.ok) _ (.cons (q1.aft x1.ok a2) q2)
theorem ia_cons (ha : IE X W e f) (hr : IA X W es g) (hs : starEach (e :: es) X.env = (false, eval e X.env) :: starEach es X.env := by rfl) : IA X W (e :: es) (iCons f g) := pa_imp (pa_cons ha hr hs) lf_cons
theorem ie_tup {x1} (h : IA X W es g) : IE X W (.Tuple es x1 pos) (iTup g) := pe_imp (pe_tup h) fun s H Q ⟨S, r, m, x, o⟩ => lfa_of x o fun ds vs S1 H1 m1 a1 x1 q1 o1 => by
  by_cases hz : ds.length ≤ sizeLine
  · rw [if_pos hz] at o1
    exact ⟨by rw [q1.length]; exact hz, fun p hp => out_tup x1.ok o1 q1 hp⟩
  · rw [if_neg hz] at o1
    exact o1.elim
theorem ie_lst (h : IA X W es g) : IE X W (.List es pos) (iLst g) := pe_imp (pe_lst h) fun s H Q ⟨S, r, m, x, o⟩ => lfa_of x o fun ds vs S1 H1 m1 a1 x1 q1 o1 => by
  by_cases hz : ds.length ≤ sizeLine
  · rw [if_pos hz] at o1
    exact ⟨by rw [q1.length]; exact hz, fun p hp => out_lst x1.ok o1 q1 hp⟩
  · rw [if_neg hz] at o1
    exact o1.elim
theorem ie_lstO (h : IA X W es g) : IE X W (.List es pos) (iLstO g) := pe_imp (pe_lst h) fun s H Q ⟨S, r, m, x, o⟩ => lfa_of x o fun ds vs S1 H1 m1 a1 x1 q1 o1 => by
  refine ⟨?_, fun p hp => out_open x1.ok o1 q1 hp⟩
  by_cases hc : ds.length ≤ sizeLine ∧ oldA m1.length ds = true
  · rw [q1.length]; exact hc.1
  · unfold openL at o1
    rw [if_neg hc] at o1
    exact o1.elim
end

/-! ### tests -/
def iAnd (f g : MT) : MT := fun r m => (f r m).bind fun b m1 => if b = true then g r m1 else .ok false m1
def iOr (f g : MT) : MT := fun r m => (f r m).bind fun b m1 => if b = true then .ok true m1 else g r m1
def iNot (f : MT) : MT := fun r m => (f r m).bind fun b m1 => .ok (!b) m1
def truD (m : Mu) : D → Option Bool
  | .non => some false
  | .bl b => some b
  | .int i => some (i != 0)
  | .str y => if y.length ≤ sizeLine then some ((y.length : Int) != 0) else none
  | d => (viewS m d).map fun ds => !ds.isEmpty
def iTru (f : ME) : MT := fun r m => (f r m).bind fun d m1 => match truD m1 d with
  | some b => .ok b m1
  | none => .bad
def iAndV (f g : ME) : ME := fun r m => (f r m).bind fun d m1 => match d with
  | .bl b => if b = true then g r m1 else .ok (.bl false) m1
  | _ => .bad
def iOrV (f g : ME) : ME := fun r m => (f r m).bind fun d m1 => match d with
  | .bl b => if b = true then .ok (.bl true) m1 else g r m1
  | _ => .bad
def iNotV (f : ME) : ME := fun r m => (f r m).bind fun d m1 => match d with
  | .bl b => .ok (.bl (!b)) m1
  | _ => .bad
def iIf (t : MT) (f g : ME) : ME := fun r m => (t r m).bind fun b m1 => if b = true then f r m1 else g r m1
theorem empty_len {G : Ct} {S : List Addr} {H : Hp} {vs : List V} {ds : List D} (q : RpA G S H vs ds) : (!ds.isEmpty) = !vs.isEmpty := by
  cases q <;> rfl
theorem truD_ok {G : Ct} {S : List Addr} {H : Hp} {m : Mu} {v : V} {d : D} {b : Bool} (k : StOk G S H m) (r : Rp G S H v d) (h : truD m d = some b) : TruV G.K v H b := by
  cases r with
  | non => simp only [truD, Option.some.injEq] at h; subst h; exact rfl
  | bl c => simp only [truD, Option.some.injEq] at h; subst h; exact rfl
  | int i => simp only [truD, Option.some.injEq] at h; subst h; exact rfl
  | str y =>
    simp only [truD] at h
    split at h
    · rename_i hz
      simp only [Option.some.injEq] at h
      exact ⟨hz, h.symm⟩
    · cases h
  | ty n => simp [truD, viewS, viewL] at h
  | tup e q =>
    simp only [truD, viewS, Option.map_some, Option.some.injEq] at h
    subst h
    exact .inr (.inl ⟨_, e, empty_len q⟩)
  | lst n e q =>
    simp only [truD, viewS, viewL, Option.map_some, Option.some.injEq] at h
    subst h
    exact .inl ⟨_, SqL.of e, empty_len q⟩
  | rol e q =>
    simp only [truD, viewS, Option.map_some, Option.some.injEq] at h
    subst h
    exact .inl ⟨_, e.sq, empty_len q⟩
  | loc hn =>
    simp only [truD, viewS, viewL, Option.map_eq_some_iff] at h
    obtain ⟨ds, hd, rfl⟩ := h
    obtain ⟨_, xs, e, q⟩ := k.at_ _ _ _ hn hd
    exact .inl ⟨_, SqL.of e, empty_len q⟩
  | ins _ _ _ _ => simp [truD, viewS, viewL] at h
  | dct _ _ _ => simp [truD, viewS, viewL] at h
abbrev IW (X : Cx) (W : WX) (e : Expr) (f : MT) : Prop := PW X e (LfT (Cx.ct X) W f)
theorem pw_imp {X : Cx} {e : Expr} {t t' : TT} (h : PW X e t) (i : ∀ s H Q, t' s H Q → t s H Q) : PW X e t' := ⟨fun wh pins s σ H Q I q => h.run wh pins s σ H Q I (i _ _ _ q)⟩
section
variable {X : Cx} {W : WX} {a b : Expr} {rest : List Expr} {ft gt : MT} {f g : ME} {pos : Pos}
theorem it_val {e : Expr} (h : IE X W e f) (he : ∀ whole, isTrue e X.env whole = (do let v ← whole; standAt e.pos; holding [v] (truthy v)) := by intro _; rfl) : IT X W e (iTest f) :=
  pt_imp (pt_val h he) lf_test
theorem it_tru {e : Expr} (h : IE X W e f) (he : ∀ whole, isTrue e X.env whole = (do let v ← whole; standAt e.pos; holding [v] (truthy v)) := by intro _; rfl) : IT X W e (iTru f) :=
  pt_imp (pt_truth h he) fun s H Q ⟨S, r, m, x, o⟩ => lfe_of x o fun d v S1 H1 m1 a1 x1 q1 o1 => by
    cases hb : truD m1 d with
    | none => rw [hb] at o1; exact o1.elim
    | some b =>
      rw [hb] at o1
      exact ⟨b, truD_ok x1.ok q1 hb, o1 S1 H1 (Aft.refl x1.ok)⟩
theorem iw_and1 (ha : IT X W a ft) : IW X W (.BoolOp .And [a] pos) ft := pw_and1 ha
theorem iw_or1 (ha : IT X W a ft) : IW X W (.BoolOp .Or [a] pos) ft := pw_or1 ha
theorem iw_and (ha : IT X W a ft) (hb : IW X W (.BoolOp .And (b :: rest) pos) gt) : IW X W (.BoolOp .And (a :: b :: rest) pos) (iAnd ft gt) :=
  pw_imp (pw_and ha hb) fun s H Q ⟨S, r, m, x, o⟩ => lft_of x o fun c S1 H1 m1 a1 x1 o1 => by
    cases c with
    | true => exact ⟨S1, r, m1, x1, o1⟩
    | false => exact o1 S1 H1 (Aft.refl x1.ok)
theorem iw_or (ha : IT X W a ft) (hb : IW X W (.BoolOp .Or (b :: rest) pos) gt) : IW X W (.BoolOp .Or (a :: b :: rest) pos) (iOr ft gt) :=
  pw_imp (pw_or ha hb) fun s H Q ⟨S, r, m, x, o⟩ => lft_of x o fun c S1 H1 m1 a1 x1 o1 => by
    cases c with
    | true => exact o1 S1 H1 (Aft.refl x1.ok)
    | false => exact ⟨S1, r, m1, x1, o1⟩
theorem it_not (ha : IT X W a ft) : IT X W (.UnaryOp .Not a pos) (iNot ft) :=
  pt_imp (pt_not ha) fun s H Q ⟨S, r, m, x, o⟩ => lft_of x o fun c S1 H1 m1 a1 x1 o1 => o1 S1 H1 (Aft.refl x1.ok)
theorem ie_one {op} (h : IE X W a f) : IE X W (.BoolOp op [a] pos) f := pe_one h
theorem ie_and (ha : IE X W a f) (hb : IE X W (.BoolOp .And (b :: rest) pos) g) : IE X W (.BoolOp .And (a :: b :: rest) pos) (iAndV f g) :=
  pe_imp (pe_and ha hb) fun s H Q ⟨S, r, m, x, o⟩ => lfe_of x o fun d v S1 H1 m1 a1 x1 q1 o1 => by
    cases q1 with
    | bl c =>
      refine ⟨c, rfl, ?_⟩
      cases c with
      | true => exact ⟨S1, r, m1, x1, o1⟩
      | false => exact out_ok x1.ok o1 (.bl _)
    | _ => exact o1.elim
theorem ie_or (ha : IE X W a f) (hb : IE X W (.BoolOp .Or (b :: rest) pos) g) : IE X W (.BoolOp .Or (a :: b :: rest) pos) (iOrV f g) :=
  pe_imp (pe_or ha hb) fun s H Q ⟨S, r, m, x, o⟩ => lfe_of x o fun d v S1 H1 m1 a1 x1 q1 o1 => by
    cases q1 with
    | bl c =>
      refine ⟨c, rfl, ?_⟩
      cases c with
      | true => exact out_ok x1.ok o1 (.bl _)
      | false => exact ⟨S1, r, m1, x1, o1⟩
    | _ => exact o1.elim
theorem ie_not (ha : IE X W a f) : IE X W (.UnaryOp .Not a pos) (iNotV f) :=
  pe_imp (pe_not ha) fun s H Q ⟨S, r, m, x, o⟩ => lfe_of x o fun d v S1 H1 m1 a1 x1 q1 o1 => by
    cases q1 with
    | bl c => exact ⟨c, rfl, out_ok x1.ok o1 (.bl _)⟩
    | _ => exact o1.elim
theorem ie_if {c : Expr} (hc : IT X W c ft) (ha : IE X W a f) (hb : IE X W b g) : IE X W (.IfExp c a b pos) (iIf ft f g) :=
  pe_imp (pe_ifExp hc ha hb) fun s H Q ⟨S, r, m, x, o⟩ => lft_of x o fun c S1 H1 m1 a1 x1 o1 => by
    cases c with
    | true => exact ⟨S1, r, m1, x1, o1⟩
    | false => exact ⟨S1, r, m1, x1, o1⟩
/-- -e -/
def iNeg (f : ME) : ME := fun r m => (f r m).bind fun d m1 => match d with
  | .int i => .ok (.int (-i)) m1
  | _ => .bad
theorem ie_neg (ha : IE X W a f) : IE X W (.UnaryOp .USub a pos) (iNeg f) :=
  pe_imp (pe_un un_neg ha) fun s H Q ⟨S, r, m, x, o⟩ => lfe_of x o fun d v S1 H1 m1 a1 x1 q1 o1 => by
    cases q1 with
    | int i => exact ⟨i, rfl, out_ok x1.ok o1 (.int _)⟩
    | _ => exact o1.elim
end

/-! ### items, slices -/
def oIx : D2 := fun x y m => match y with
  | .int i => (match x with
    | .str s => if s.length ≤ sizeLine then (match atI s.cps.toList i with | some c => .ok (.str ⟨#[c]⟩) m | none => .bad) else .bad
    | x => (match viewS m x with
      | some ds => (match atI ds i with | some d => .ok d m | none => .bad)
      | none => .bad))
  | _ => .bad
theorem rp_atI {G : Ct} {S : List Addr} {H : Hp} {vs : List V} {ds : List D} {i : Int} {d : D} (q : RpA G S H vs ds) (h : atI ds i = some d) : ∃ v, atI vs i = some v ∧ Rp G S H v d := by
  unfold atI at h ⊢
  rw [q.length]
  cases hj : ixN ds.length i with
  | none => rw [hj] at h; cases h
  | some j =>
    rw [hj] at h
    exact q.get h
section
variable {X : Cx} {W : WX} {a b e : Expr} {f g : ME} {pos : Pos}
theorem ix_all : IxR X (LfO (Cx.ct X) oIx) := by
  rintro ve se pins s σ H x y v u Q I rx ry ⟨E, S, m, dx, dy, k, r1, r2, o⟩ hs
  cases r2 with
  | int i =>
    have seq : ∀ {ds : List D}, viewS m dx = some ds → OutE (Cx.ct X) S H E (match atI ds i with | some d => .ok d m | none => .bad) Q → wpAny (model X.prog X.w) X.A (subscriptTail ve se v u) (EP X pins σ Q) X.xe s := fun {ds} hv o => by
      obtain ⟨p, vs, e1, e2, q⟩ := rp_seq k r1 hv
      subst e1
      cases ha : atI ds i with
      | none => rw [ha] at o; exact o.elim
      | some d =>
        rw [ha] at o
        obtain ⟨w, hw, qw⟩ := rp_atI q ha
        rcases e2 with e2 | e2
        · exact ix_list ve se pins s σ H _ _ v u Q I rx ry ⟨p, vs, i, w, rfl, rfl, e2, hw, out_ok k o qw⟩ hs
        · exact ix_tup ve se pins s σ H _ _ v u Q I rx ry ⟨p, vs, i, w, rfl, rfl, e2, hw, out_ok k o qw⟩ hs
    unfold oIx at o
    simp only at o
    split at o
    · rename_i st
      split at o
      · rename_i hz
        cases r1
        cases hc : atI st.cps.toList i with
        | none => rw [hc] at o; exact o.elim
        | some c =>
          rw [hc] at o
          exact ix_str ve se pins s σ H _ _ v u Q I rx ry ⟨st, i, c, rfl, rfl, hz, hc, out_ok k o (.str _)⟩ hs
      · exact o.elim
    · split at o
      · rename_i ds hv
        exact seq hv o
      · exact o.elim
  | _ => exact o.elim
theorem ie_ix (ha : IE X W a f) (hb : IE X W b g) (hs : PlainIx b) : IE X W (.Subscript a b pos) (iOp oIx f g) := pe_imp (pe_ix ix_all ha hb hs) (lf_op fun _ _ _ _ h => h)
end

abbrev MO := Rho → Mu → Res (Option Int)
def LfP (G : Ct) (W : WX) (f : MO) : TO := fun s H Q => ∃ S r m, Sim G S H s r m ∧ OutG G S H (fun c d H' => W c d s H') (f r m) fun o _ H' _ => Q o H'
abbrev IO_ (X : Cx) (W : WX) (e : Option Expr) (f : MO) : Prop := PO X e (LfP (Cx.ct X) W f)
theorem po_imp {X : Cx} {e : Option Expr} {t t' : TO} (h : PO X e t) (i : ∀ s H Q, t' s H Q → t s H Q) : PO X e t' := ⟨fun pins s σ H Q I q => h.run pins s σ H Q I (i _ _ _ q)⟩
def iNoPart : MO := fun _ m => .ok none m
def iPart (f : ME) : MO := fun r m => (f r m).bind fun d m1 => match d with
  | .int i => .ok (some i) m1
  | _ => .bad
def cutD (xs : List D) (lo hi : Option Int) : List D := (xs.drop (HT.sIx xs.length 0 lo)).take (HT.sIx xs.length xs.length hi - HT.sIx xs.length 0 lo)
def slD (m : Mu) (lo hi : Option Int) (x : D) : Res D := match x with
  | .str z => if z.length ≤ sizeLine then .ok (.str (cutS z lo hi)) m else .bad
  | .tup ds => .ok (.tup (cutD ds lo hi)) m
  | x => match viewQ m x with
    | some ds => .ok (.lst (cutD ds lo hi)) m
    | none => .bad
def iSl (f : ME) (l h : MO) : ME := fun r m => (f r m).bind fun d m1 => (l r m1).bind fun lo m2 => (h r m2).bind fun hi m3 => slD m3 lo hi d
theorem lfp_of {G : Ct} {W : WX} {S : List Addr} {H : Hp} {s : L2.St} {r : Rho} {m : Mu} {A : Type} {f : MO} {g : Option Int → Mu → Res A} {Q : A → List Addr → Hp → Mu → Prop} {R : Option Int → Hp → Prop} (x : Sim G S H s r m) (o : OutG G S H (fun c d H' => W c d s H') ((f r m).bind g) Q)
    (h : ∀ (b : Option Int) (S' : List Addr) (H' : Hp) (m' : Mu), Aft G S H S' H' m' → Sim G S' H' s r m' → OutG G S' H' (fun c d H' => W c d s H') (g b m') Q → R b H') : LfP G W f s H R := by
  refine ⟨S, r, m, x, ?_⟩
  have o' := OutG.bind o
  cases e : f r m with
  | ok d m' =>
    rw [e] at o'
    exact fun S' H' a => h d S' H' m' a (x.aft a) (o' S' H' a).2
  | err c fs m' =>
    rw [e] at o'
    exact o'
  | bad =>
    rw [e] at o'
    exact o'
theorem rp_cut {G : Ct} {S : List Addr} {H : Hp} {vs : List V} {ds : List D} (q : RpA G S H vs ds) (lo hi : Option Int) : RpA G S H (cutV vs lo hi) (cutD ds lo hi) := by
  unfold cutV cutD
  rw [q.length]
  exact (q.drop _).take _
theorem cut_whole {xs : List V} {lo hi : Option Int} (h : HT.sIx xs.length 0 lo = 0 ∧ HT.sIx xs.length xs.length hi = xs.length) : cutV xs lo hi = xs := by
  unfold cutV
  rw [h.1, h.2]
  simp
section
variable {X : Cx} {W : WX} {a b e : Expr} {f g : ME} {lf hf : MO} {lo hi : Option Expr} {pos p2 : Pos}
theorem io_none : IO_ X W none iNoPart := po_imp po_none fun s H Q ⟨S, r, m, x, o⟩ => o S H (Aft.refl x.ok)
theorem io_some (h : IE X W e f) : IO_ X W (some e) (iPart f) := po_imp (po_some h) fun s H Q ⟨S, r, m, x, o⟩ => lfe_of x o fun d v S1 H1 m1 a1 x1 q1 o1 => by
  cases q1 with
  | int i => exact ⟨i, rfl, o1 S1 H1 (Aft.refl x1.ok)⟩
  | _ => exact o1.elim
def LfSl (G : Ct) : V → Option Int → Option Int → Hp → VK → Prop := fun x lo hi H Q => ∃ E S m d, StOk G S H m ∧ Rp G S H x d ∧ OutE G S H E (slD m lo hi d) Q
theorem sl_all : SlR X (LfSl (Cx.ct X)) := by
  rintro pins s σ H x v vl vu lo hi sl Q I rx hs pl pu ⟨E, S, m, d, k, r, o⟩
  have lst : ∀ {ds : List D}, viewQ m d = some ds → OutE (Cx.ct X) S H E (.ok (.lst (cutD ds lo hi)) m) Q → ∃ T id, typeLookup (.type T) "__getitem__" = pure (some (.builtin id)) ∧ s.TypeIs v T ∧ wpAny (model X.prog X.w) X.A (getItem v (.ref sl)) (EP X pins σ Q) X.xe s := fun {ds} hv o => by
    obtain ⟨p, vs, e1, e2, q⟩ := rp_viewQ k r hv
    subst e1
    exact sl_list pins s σ H _ v vl vu lo hi sl Q I rx hs pl pu ⟨p, vs, rfl, e2, fun p hp => out_lst k o (rp_cut q lo hi) hp⟩
  cases d with
  | str z =>
    cases r
    simp only [slD] at o
    split at o
    · rename_i hz
      exact sl_str pins s σ H _ v vl vu lo hi sl Q I rx hs pl pu ⟨z, rfl, hz, out_ok k o (.str _)⟩
    · exact o.elim
  | tup ds =>
    cases r with
    | tup e q =>
      refine sl_tupA pins s σ H _ v vl vu lo hi sl Q I rx hs pl pu ⟨_, _, rfl, e, fun w => ?_, fun w p hp => out_tup k o (rp_cut q lo hi) hp⟩
      have q' := rp_cut q lo hi
      rw [cut_whole w] at q'
      exact out_ok k o (.tup e q')
  | lst ds =>
    simp only [slD, viewQ, viewL] at o
    exact lst rfl o
  | rol ds =>
    simp only [slD, viewQ] at o
    exact lst rfl o
  | loc n =>
    simp only [slD] at o
    split at o
    · rename_i ds hv
      exact lst hv o
    · exact o.elim
  | _ => simp only [slD, viewQ, viewL] at o; exact o.elim
theorem ie_sl (he : IE X W e f) (hl : IO_ X W lo lf) (hh : IO_ X W hi hf) : IE X W (.Subscript e (.Slice lo hi none p2) pos) (iSl f lf hf) := pe_imp (pe_slice sl_all he hl hh) fun s H Q ⟨S, r, m, x, o⟩ =>
  lfe_of x o fun d v S1 H1 m1 a1 x1 q1 o1 => lfp_of x1 o1 fun l S2 H2 m2 a2 x2 o2 => lfp_of x2 o2 fun h S3 H3 m3 a3 x3 o3 => ⟨_, S3, m3, d, x3.ok, (q1.aft x1.ok a2).aft x2.ok a3, o3⟩
/-- xs[::-1] -/
def iRevL (f : ME) : ME := fun r m => (f r m).bind fun d m1 => match viewQ m1 d with
  | some ds => .ok (.lst ds.reverse) m1
  | none => .bad
theorem ie_revL {k : Nat} {p1 p3 p4 : Pos} (he : IE X W e f) : IE X W (.Subscript e (.Slice none none (some (.UnaryOp .USub (.Constant (.int 1) k p1) p4)) p3) pos) (iRevL f) :=
  pe_imp (pe_revL he) fun s H Q ⟨S, r, m, x, o⟩ => lfe_of x o fun d v S1 H1 m1 a1 x1 q1 o1 => by
    cases hv : viewQ m1 d with
    | none => rw [hv] at o1; exact o1.elim
    | some ds =>
      rw [hv] at o1
      obtain ⟨p, vs, e1, e2, q⟩ := rp_viewQ x1.ok q1 hv
      exact ⟨p, vs, e1, e2, fun p hp => out_lst x1.ok o1 q.reverse hp⟩
end

/-! ### calls -/
abbrev DA := List D → Mu → Res D
def LfC (G : Ct) (g : DA) : List V → Hp → VK → Prop := fun vs H Q => ∃ E S m ds, StOk G S H m ∧ RpA G S H vs ds ∧ OutE G S H E (g ds m) Q
def iCall (g : DA) (f : MA) : ME := fun r m => (f r m).bind g
section
variable {X : Cx} {W : WX} {e : Expr} {es : List Expr} {f : MA} {g : DA} {x : Str} {p pos : Pos} {id T : String}
theorem ie_callB (hc : CallR X (.builtin id) (LfC (Cx.ct X) g)) (hg : Gl X x) (hm : X.mg x = none) (hv : bootBuiltins x = some (.builtin id)) (ha : IA X W (e :: es) f) (hn : x ≠ "__name__" := by decide) (hdb : (x == ("__debug__" : Str)) = false := by decide)
    (he : starEach (e :: es) X.env = (false, eval e X.env) :: starEach es X.env := by rfl) (hpl : (backTo pos (starEach es X.env)).any (·.1) = false := by rfl) : IE X W (.Call (.Name x p) (e :: es) [] pos) (iCall g f) :=
  pe_imp (pe_callB hc hg hm hv ha hn hdb he hpl) fun s H Q ⟨S, r, m, x, o⟩ => lfa_of x o fun ds vs S1 H1 m1 a1 x1 q1 o1 => ⟨_, S1, m1, ds, x1.ok, q1, o1⟩
theorem ie_callTy (hc : CallR X (.type T) (LfC (Cx.ct X) g)) (hg : Gl X x) (hm : X.mg x = none) (hv : bootBuiltins x = some (.type T)) (ha : IA X W (e :: es) f) (hn : x ≠ "__name__" := by decide) (hdb : (x == ("__debug__" : Str)) = false := by decide)
    (he : starEach (e :: es) X.env = (false, eval e X.env) :: starEach es X.env := by rfl) (hpl : (backTo pos (starEach es X.env)).any (·.1) = false := by rfl) : IE X W (.Call (.Name x p) (e :: es) [] pos) (iCall g f) :=
  pe_imp (pe_callTy hc hg hm hv ha hn hdb he hpl) fun s H Q ⟨S, r, m, x, o⟩ => lfa_of x o fun ds vs S1 H1 m1 a1 x1 q1 o1 => ⟨_, S1, m1, ds, x1.ok, q1, o1⟩

/-- a def's promise: it hands back what g says -/
def SpI (G : Ct) (g : DA) : Sp := fun vs H Q E => ∃ S m ds, StOk G S H m ∧ RpA G S H vs ds ∧ OutE G S H E (g ds m) Q
variable {k : Nat} {fa : Addr} {fd : FuncData} {ps : List Str}
/-- f(..), every parameter written -/
theorem ie_fn (F : FnOk X.prog X.w X.K X.mg X.base (L2.CX X.prog X.w) k fa fd ps (SpI (Cx.ct X) g)) (hr : Room k X.A) (tk : Takes X W) (hg : Gl X x) (hm : X.mg x = some (.ref fa)) (hk : PySem.W.keepIn X.K (.ref fa) = true) (hb : Binds X.K fd ps [])
    (ha : IA X W (e :: es) f) (hdb : (x == ("__debug__" : Str)) = false := by decide) (he : starEach (e :: es) X.env = (false, eval e X.env) :: starEach es X.env := by rfl) (hpl : (backTo pos (starEach es X.env)).any (·.1) = false := by rfl) :
    IE X W (.Call (.Name x p) (e :: es) [] pos) (iCall g f) :=
  pe_imp (pe_callSD F hr hg hm hk hb .nil (fun σ => passAt tk σ) ha hdb he hpl) fun s H Q ⟨S, r, m, x, o⟩ => lfa_of x o fun ds vs S1 H1 m1 a1 x1 q1 o1 => ⟨S1, m1, ds, x1.ok, by rw [List.append_nil]; exact q1, o1⟩
end

/-- the keywords' values -/
abbrev IKw (X : Cx) (W : WX) (kws : List Keyword) (f : MA) : Prop := PK X kws (LfA (Cx.ct X) W f)
theorem pk_imp {X : Cx} {kws : List Keyword} {t t' : TA} (h : PK X kws t) (i : ∀ s H Q, t' s H Q → t s H Q) : PK X kws t' := ⟨fun pos pins s σ H Q I q => h.run pos pins s σ H Q I (i _ _ _ q)⟩
section
variable {X : Cx} {W : WX} {e : Expr} {kws : List Keyword} {f : ME} {h : MA} {nm : Option Str} {kpos : Pos}
theorem ik_nil : IKw X W [] iNil := pk_imp pk_nil fun s H Q ⟨S, r, m, x, o⟩ => o S H (Aft.refl x.ok) [] .nil
theorem ik_cons (ha : IE X W e f) (hr : IKw X W kws h) : IKw X W (⟨nm, e, kpos⟩ :: kws) (iCons f h) := pk_imp (pk_cons ha hr) lf_cons
end
/-- the values in another order -/
def picks {A : Type} (ix : List Nat) (xs : List A) : List A := ix.filterMap fun i => xs[i]?
theorem picks_vals {vs : List V} {us : List Value} (r : Vals vs us) : ∀ ix : List Nat, Vals (picks ix vs) (picks ix us)
  | [] => .nil
  | i :: ix => by
    have ih := picks_vals r ix
    unfold picks at ih ⊢
    rw [List.filterMap_cons, List.filterMap_cons]
    cases h : vs[i]? with
    | none => rw [r.none_of h]; exact ih
    | some v =>
      obtain ⟨u, hu, ru⟩ := r.get h
      rw [hu]
      exact .cons ru ih
theorem picks_rp {G : Ct} {S : List Addr} {H : Hp} {vs : List V} {ds : List D} (r : RpA G S H vs ds) : ∀ ix : List Nat, RpA G S H (picks ix vs) (picks ix ds)
  | [] => .nil
  | i :: ix => by
    have ih := picks_rp r ix
    unfold picks at ih ⊢
    rw [List.filterMap_cons, List.filterMap_cons]
    cases h : vs[i]? with
    | none =>
      have : ds[i]? = none := by
        rw [List.getElem?_eq_none_iff] at h ⊢
        rw [← r.length]; exact h
      rw [this]; exact ih
    | some v =>
      obtain ⟨u, hu, ru⟩ := r.getV h
      rw [hu]
      exact .cons ru ih
def iCallK (g : DA) (n k : Nat) (ix : List Nat) (f h : MA) : ME := fun r m => (f r m).bind fun ds m1 => (h r m1).bind fun es m2 => if ds.length = n ∧ es.length = k then g (picks ix (ds ++ es)) m2 else .bad
section
variable {X : Cx} {W : WX} {e : Expr} {es : List Expr} {kws : List Keyword} {f h : MA} {g : DA} {x : Str} {p pos : Pos}
variable {k n : Nat} {fa : Addr} {fd : FuncData} {ps ks : List Str} {E : L2.St → XK} {sp : Sp} {t tk : TA} {gg : List Value → List Value → List Value} {gV : List V → List V → List V}
def tCallNS (n m : Nat) (sp : Sp) (gV : List V → List V → List V) (E : L2.St → XK) (t tk : TA) : TE := fun σ H Q => t σ H fun vs H1 => tk σ H1 fun zs H2 => vs.length = n ∧ zs.length = m ∧ sp (gV vs zs) H2 Q (E σ)
theorem run_fnNS {pins : List (Addr × Obj)} {σ : L2.St} {H : Hp} {s : Shared} {Q : VK} {us ws : List Value} {vs zs : List V} (F : FnOk X.prog X.w X.K X.mg X.base (L2.CX X.prog X.w) k fa fd ps sp) (hr : Room k X.A) (hb : KBn X.K fd ps n ks gg gV) (hx : PassesAt (L2.CX X.prog X.w) X σ (E σ))
    (I : Inv X pins σ H s) (r : Vals vs us) (rz : Vals zs ws) (l1 : vs.length = n) (l2 : zs.length = ks.length) (h : sp (gV vs zs) H Q (E σ)) : wpAny (model X.prog X.w) X.A (call (.ref fa) us (ks.zip ws)) (EP X pins σ Q) X.xe s := by
  have r2 := hb.rel r rz
  refine wpAny_call (codeAny_mono (F.run X.A X.stack s H ⟨us, ks.zip ws⟩ (gg us ws) (gV vs zs) Q (E σ) hr I.env0 (hb.to s us ws I.kIn (r.length.symm.trans l1) (rz.length.symm.trans l2)) r2 h) fun r s' hq => ?_)
  cases r with
  | error e => exact hx pins H s e s' I hq
  | ok fl =>
    cases fl with
    | ret u => exact I.after hq
    | next => exact False.elim hq
    | brk => exact False.elim hq
    | cont => exact False.elim hq
theorem pe_callNS (F : FnOk X.prog X.w X.K X.mg X.base (L2.CX X.prog X.w) k fa fd ps sp) (hr : Room k X.A) (hg : Gl X x) (hm : X.mg x = some (.ref fa)) (hk : PySem.W.keepIn X.K (.ref fa) = true) (hb : KBn X.K fd ps n ks gg gV) (hx : ∀ σ, PassesAt (L2.CX X.prog X.w) X σ (E σ))
    (ha : PA X (e :: es) t) (hkw : PK X kws tk) (hall : (backToKw pos (keywordEach kws X.env)).all (·.1.isSome) = true := by rfl) (hks : (backToKw pos (keywordEach kws X.env)).filterMap (·.1) = ks := by rfl)
    (hdb : (x == ("__debug__" : Str)) = false := by decide) (he : starEach (e :: es) X.env = (false, eval e X.env) :: starEach es X.env := by rfl)
    (hpl : ((backTo pos (starEach (e :: es) X.env)).any (·.1) || (backToKw pos (keywordEach kws X.env)).any (·.1.isNone)) = false := by rfl) :
    PE X (.Call (.Name x p) (e :: es) kws pos) (tCallNS n ks.length sp gV E t tk) := by
  refine ⟨fun pins s σ H Q I h => ?_⟩
  refine wpAny_Call_Name_kw (ld_glob I hg hm ?_ hdb)
  refine PySem.W.callWith_KW (h₀ := X.base) I.ok.mod.kin hk hall (thn (ha.run pos pins s σ H _ I h) fun us s1 ⟨vs, H1, I1, r, q⟩ => ?_) hpl he
  refine thn (hkw.run pos pins s1 σ H1 _ I1 q) fun ws s2 ⟨zs, H2, I2, rz, l1, l2, q2⟩ => ⟨I2.kIn, ?_⟩
  rw [hks]
  exact run_fnNS F hr hb (hx σ) I2 r rz l1 l2 q2
theorem pe_callNS0 (F : FnOk X.prog X.w X.K X.mg X.base (L2.CX X.prog X.w) k fa fd ps sp) (hr : Room k X.A) (hg : Gl X x) (hm : X.mg x = some (.ref fa)) (hk : PySem.W.keepIn X.K (.ref fa) = true) (hb : KBn X.K fd ps 0 ks gg gV) (hx : ∀ σ, PassesAt (L2.CX X.prog X.w) X σ (E σ))
    (hkw : PK X kws tk) (hall : (backToKw pos (keywordEach kws X.env)).all (·.1.isSome) = true := by rfl) (hks : (backToKw pos (keywordEach kws X.env)).filterMap (·.1) = ks := by rfl)
    (hdb : (x == ("__debug__" : Str)) = false := by decide)
    (hpl : ((backTo pos (starEach [] X.env)).any (·.1) || (backToKw pos (keywordEach kws X.env)).any (·.1.isNone)) = false := by rfl) :
    PE X (.Call (.Name x p) [] kws pos) (tCallNS 0 ks.length sp gV E tNil tk) := by
  refine ⟨fun pins s σ H Q I h => ?_⟩
  refine wpAny_Call_Name_kw (ld_glob I hg hm ?_ hdb)
  refine PySem.W.callWith_KW0 (h₀ := X.base) I.ok.mod.kin hk hall ?_ hpl
  refine thn (hkw.run pos pins s σ H _ I h) fun ws s2 ⟨zs, H2, I2, rz, l1, l2, q2⟩ => ⟨I2.kIn, ?_⟩
  rw [hks]
  exact run_fnNS (us := []) (vs := []) F hr hb (hx σ) I2 .nil rz l1 l2 q2
abbrev KIx (K : PySem.W.Frag) (fd : FuncData) (ps : List Str) (n : Nat) (ks : List Str) (ix : List Nat) : Prop := KBn K fd ps n ks (fun us ws => picks ix (us ++ ws)) (fun vs zs => picks ix (vs ++ zs))
theorem kix_of {K : PySem.W.Frag} {ix : List Nat} (h : ∀ (us ws : List Value), us.length = n → ws.length = ks.length → bindArgs fd ⟨us, ks.zip ws⟩ = pure (ps.zip (picks ix (us ++ ws)))) : KIx K fd ps n ks ix :=
  ⟨fun s us ws _ h1 h2 => .of_eq (h us ws h1 h2), fun r1 r2 => picks_vals (r1.append r2) ix⟩
theorem ie_fnK {ix : List Nat} (F : FnOk X.prog X.w X.K X.mg X.base (L2.CX X.prog X.w) k fa fd ps (SpI (Cx.ct X) g)) (hr : Room k X.A) (tk : Takes X W) (hg : Gl X x) (hm : X.mg x = some (.ref fa)) (hk : PySem.W.keepIn X.K (.ref fa) = true) (hb : KIx X.K fd ps n ks ix)
    (ha : IA X W (e :: es) f) (hkw : IKw X W kws h) (hall : (backToKw pos (keywordEach kws X.env)).all (·.1.isSome) = true := by rfl) (hks : (backToKw pos (keywordEach kws X.env)).filterMap (·.1) = ks := by rfl)
    (hdb : (x == ("__debug__" : Str)) = false := by decide) (he : starEach (e :: es) X.env = (false, eval e X.env) :: starEach es X.env := by rfl)
    (hpl : ((backTo pos (starEach (e :: es) X.env)).any (·.1) || (backToKw pos (keywordEach kws X.env)).any (·.1.isNone)) = false := by rfl) :
    IE X W (.Call (.Name x p) (e :: es) kws pos) (iCallK g n ks.length ix f h) :=
  pe_imp (pe_callNS F hr hg hm hk hb (fun σ => passAt tk σ) ha hkw hall hks hdb he hpl) fun s H Q ⟨S, r, m, x, o⟩ => lfa_of x o fun ds vs S1 H1 m1 a1 x1 q1 o1 => lfa_of x1 o1 fun es zs S2 H2 m2 a2 x2 q2 o2 => by
    by_cases hc : ds.length = n ∧ es.length = ks.length
    · rw [if_pos hc] at o2
      exact ⟨by rw [q1.length]; exact hc.1, by rw [q2.length]; exact hc.2, S2, m2, _, x2.ok, picks_rp ((q1.aft x1.ok a2).append q2) ix, o2⟩
    · rw [if_neg hc] at o2
      exact o2.elim
theorem ie_fnK0 {ix : List Nat} (F : FnOk X.prog X.w X.K X.mg X.base (L2.CX X.prog X.w) k fa fd ps (SpI (Cx.ct X) g)) (hr : Room k X.A) (tk : Takes X W) (hg : Gl X x) (hm : X.mg x = some (.ref fa)) (hk : PySem.W.keepIn X.K (.ref fa) = true) (hb : KIx X.K fd ps 0 ks ix)
    (hkw : IKw X W kws h) (hall : (backToKw pos (keywordEach kws X.env)).all (·.1.isSome) = true := by rfl) (hks : (backToKw pos (keywordEach kws X.env)).filterMap (·.1) = ks := by rfl)
    (hdb : (x == ("__debug__" : Str)) = false := by decide)
    (hpl : ((backTo pos (starEach [] X.env)).any (·.1) || (backToKw pos (keywordEach kws X.env)).any (·.1.isNone)) = false := by rfl) :
    IE X W (.Call (.Name x p) [] kws pos) (iCallK g 0 ks.length ix iNil h) :=
  pe_imp (pe_callNS0 F hr hg hm hk hb (fun σ => passAt tk σ) hkw hall hks hdb hpl) fun s H Q ⟨S, r, m, x, o⟩ => by
    show LfA _ _ _ _ _ _
    refine lfa_of (f := h) (g := fun es m2 => if ([] : List D).length = 0 ∧ es.length = ks.length then g (picks ix ([] ++ es)) m2 else .bad) x o fun es zs S2 H2 m2 a2 x2 q2 o2 => ?_
    by_cases hc : ([] : List D).length = 0 ∧ es.length = ks.length
    · rw [if_pos hc] at o2
      exact ⟨rfl, by rw [q2.length]; exact hc.2, S2, m2, _, x2.ok, picks_rp ((RpA.nil).append q2) ix, o2⟩
    · rw [if_neg hc] at o2
      exact o2.elim
end
end Mr

/-! Mr3: built-ins by name, comprehensions -/
namespace Mr
open PySem PySem.Spec PyProof.Rows L2

/-! ### built-ins -/
def pAbs : DA := fun ds m => match ds with
  | [.int i] => .ok (.int (if i < 0 then -i else i)) m
  | _ => .bad
def pMax2 : DA := fun ds m => match ds with
  | [.int i, .int j] => .ok (.int (if j > i then j else i)) m
  | _ => .bad
def pMin2 : DA := fun ds m => match ds with
  | [.int i, .int j] => .ok (.int (if j < i then j else i)) m
  | _ => .bad
def pInt : DA := fun ds m => match ds with
  | [.int i] => .ok (.int i) m
  | [.bl b] => .ok (.int (if b then 1 else 0)) m
  | _ => .bad
def lenD (m : Mu) : D → Option Nat
  | .str s => if s.length ≤ sizeLine then some s.length else none
  | d => (viewS m d).map List.length
def pLen : DA := fun ds m => match ds with
  | [d] => match lenD m d with
    | some n => .ok (.int n) m
    | none => .bad
  | _ => .bad
def pTuple : DA := fun ds m => match ds with
  | [.tup xs] => .ok (.tup xs) m
  | [d] => match viewQ m d with
    | some xs => .ok (.tup xs) m
    | none => .bad
  | _ => .bad
def pList : DA := fun ds m => match ds with
  | [d] => match viewS m d with
    | some xs => .ok (.lst xs) m
    | none => .bad
  | _ => .bad
/-- list(..), open -/
def pListO : DA := fun ds m => match ds with
  | [d] => match viewS m d with
    | some xs => openL xs m
    | none => .bad
  | _ => .bad
def blsOf : List D → Option (List Bool)
  | [] => some []
  | .bl b :: r => (blsOf r).map fun bs => b :: bs
  | _ :: _ => none
def intsOf : List D → Option (List Int)
  | [] => some []
  | .int i :: r => (intsOf r).map fun bs => i :: bs
  | _ :: _ => none
def strsOf : List D → Option (List Str)
  | [] => some []
  | .str i :: r => (strsOf r).map fun bs => i :: bs
  | _ :: _ => none
def pAll : DA := fun ds m => match ds with
  | [d] => match (viewQ m d).bind blsOf with
    | some bs => .ok (.bl (bs.all id)) m
    | none => .bad
  | _ => .bad
def pAny : DA := fun ds m => match ds with
  | [d] => match (viewQ m d).bind blsOf with
    | some bs => .ok (.bl (bs.any id)) m
    | none => .bad
  | _ => .bad
def pSum : DA := fun ds m => match ds with
  | [d] => match (viewQ m d).bind intsOf with
    | some ns => .ok (.int ns.sum) m
    | none => .bad
  | _ => .bad
theorem rp_bls {G : Ct} {S : List Addr} {H : Hp} : ∀ {vs : List V} {ds : List D} {bs : List Bool}, RpA G S H vs ds → blsOf ds = some bs → vs = bs.map V.bl
  | _, _, _, .nil, h => by simp only [blsOf, Option.some.injEq] at h; subst h; rfl
  | _, _, _, .cons (d := d) r t, h => by
    cases r with
    | bl b =>
      simp only [blsOf, Option.map_eq_some_iff] at h
      obtain ⟨cs, hc, rfl⟩ := h
      rw [rp_bls t hc]; rfl
    | _ => simp [blsOf] at h
theorem rp_ints {G : Ct} {S : List Addr} {H : Hp} : ∀ {vs : List V} {ds : List D} {bs : List Int}, RpA G S H vs ds → intsOf ds = some bs → vs = bs.map V.int
  | _, _, _, .nil, h => by simp only [intsOf, Option.some.injEq] at h; subst h; rfl
  | _, _, _, .cons (d := d) r t, h => by
    cases r with
    | int b =>
      simp only [intsOf, Option.map_eq_some_iff] at h
      obtain ⟨cs, hc, rfl⟩ := h
      rw [rp_ints t hc]; rfl
    | _ => simp [intsOf] at h
theorem rp_strs {G : Ct} {S : List Addr} {H : Hp} : ∀ {vs : List V} {ds : List D} {bs : List Str}, RpA G S H vs ds → strsOf ds = some bs → vs = bs.map V.str
  | _, _, _, .nil, h => by simp only [strsOf, Option.some.injEq] at h; subst h; rfl
  | _, _, _, .cons (d := d) r t, h => by
    cases r with
    | str b =>
      simp only [strsOf, Option.map_eq_some_iff] at h
      obtain ⟨cs, hc, rfl⟩ := h
      rw [rp_strs t hc]; rfl
    | _ => simp [strsOf] at h
theorem rpa_one {G : Ct} {S : List Addr} {H : Hp} {vs : List V} {d : D} (q : RpA G S H vs [d]) : ∃ v, vs = [v] ∧ Rp G S H v d := by
  cases q with
  | cons r t => cases t; exact ⟨_, rfl, r⟩
theorem rpa_two {G : Ct} {S : List Addr} {H : Hp} {vs : List V} {d e : D} (q : RpA G S H vs [d, e]) : ∃ v w, vs = [v, w] ∧ Rp G S H v d ∧ Rp G S H w e := by
  cases q with
  | cons r t =>
    obtain ⟨w, rfl, r2⟩ := rpa_one t
    exact ⟨_, _, rfl, r, r2⟩
section
variable {X : Cx}
theorem cr_abs : CallR X (.builtin "abs") (LfC (Cx.ct X) pAbs) := by
  rintro pins s σ H xs us Q I rv ⟨E, S, m, ds, k, q, o⟩
  unfold pAbs at o
  split at o
  · obtain ⟨v, rfl, r⟩ := rpa_one q
    cases r
    exact call_abs pins s σ H _ us Q I rv ⟨_, rfl, out_ok k o (.int _)⟩
  · exact o.elim
theorem cr_max2 (hc : X.calm = true) : CallR X (.builtin "max") (LfC (Cx.ct X) pMax2) := by
  rintro pins s σ H xs us Q I rv ⟨E, S, m, ds, k, q, o⟩
  unfold pMax2 at o
  split at o
  · obtain ⟨v, w, rfl, r, r2⟩ := rpa_two q
    cases r
    cases r2
    exact call_max2 hc pins s σ H _ us Q I rv ⟨_, _, rfl, out_ok k o (.int _)⟩
  · exact o.elim
theorem cr_min2 (hc : X.calm = true) : CallR X (.builtin "min") (LfC (Cx.ct X) pMin2) := by
  rintro pins s σ H xs us Q I rv ⟨E, S, m, ds, k, q, o⟩
  unfold pMin2 at o
  split at o
  · obtain ⟨v, w, rfl, r, r2⟩ := rpa_two q
    cases r
    cases r2
    exact call_min2 hc pins s σ H _ us Q I rv ⟨_, _, rfl, out_ok k o (.int _)⟩
  · exact o.elim
theorem cr_int : CallR X (.type "int") (LfC (Cx.ct X) pInt) := by
  rintro pins s σ H xs us Q I rv ⟨E, S, m, ds, k, q, o⟩
  unfold pInt at o
  split at o
  · obtain ⟨v, rfl, r⟩ := rpa_one q
    cases r
    exact call_int1 pins s σ H _ us Q I rv (.inl ⟨_, rfl, out_ok k o (.int _)⟩)
  · obtain ⟨v, rfl, r⟩ := rpa_one q
    cases r
    exact call_int1 pins s σ H _ us Q I rv (.inr ⟨_, rfl, out_ok k o (.int _)⟩)
  · exact o.elim
theorem cr_len : CallR X (.builtin "len") (LfC (Cx.ct X) pLen) := by
  rintro pins s σ H xs us Q I rv ⟨E, S, m, ds, k, q, o⟩
  unfold pLen at o
  split at o
  · rename_i d
    obtain ⟨v, rfl, r⟩ := rpa_one q
    split at o
    · rename_i n hn
      have seq : ∀ {ys : List D}, viewS m d = some ys → n = ys.length → wpAny (model X.prog X.w) X.A (call (.builtin "len") us) (EP X pins σ Q) X.xe s := fun {ys} hv e => by
        obtain ⟨p, ws, e1, e2, qq⟩ := rp_seq k r hv
        subst e1
        subst e
        refine call_len pins s σ H _ us Q I rv ⟨_, ys.length, rfl, ?_, out_ok k o (.int _)⟩
        rcases e2 with e2 | e2
        · exact .inl ⟨ws, e2, qq.length.symm⟩
        · exact .inr ⟨ws, e2, qq.length.symm⟩
      cases r with
      | str z =>
        simp only [lenD] at hn
        split at hn
        · rename_i hz
          cases hn
          exact call_len pins s σ H _ us Q I rv ⟨_, _, rfl, ⟨hz, rfl⟩, out_ok k o (.int _)⟩
        · cases hn
      | tup e qq => simp only [lenD, viewS, Option.map_some, Option.some.injEq] at hn; exact seq rfl hn.symm
      | lst na e qq => simp only [lenD, viewS, viewL, Option.map_some, Option.some.injEq] at hn; exact seq rfl hn.symm
      | rol e qq => simp only [lenD, viewS, Option.map_some, Option.some.injEq] at hn; exact seq rfl hn.symm
      | loc h =>
        simp only [lenD, Option.map_eq_some_iff] at hn
        obtain ⟨ys, hy, e⟩ := hn
        exact seq hy e.symm
      | _ => simp [lenD, viewS, viewL] at hn
    · exact o.elim
  · exact o.elim
theorem cr_tuple : CallR X (.type "tuple") (LfC (Cx.ct X) pTuple) := by
  rintro pins s σ H xs us Q I rv ⟨E, S, m, ds, k, q, o⟩
  unfold pTuple at o
  split at o
  · obtain ⟨v, rfl, r⟩ := rpa_one q
    cases r with
    | tup e qq => exact call_tuple_of pins s σ H _ us Q I rv ⟨_, _, rfl, .inr ⟨e, out_ok k o (.tup e qq)⟩⟩
  · obtain ⟨v, rfl, r⟩ := rpa_one q
    split at o
    · rename_i ys hv
      obtain ⟨p, ws, e1, e2, qq⟩ := rp_viewQ k r hv
      subst e1
      exact call_tuple_of pins s σ H _ us Q I rv ⟨_, _, rfl, .inl ⟨e2, fun l hl => out_tup k o qq hl⟩⟩
    · exact o.elim
  · exact o.elim
theorem cr_list : CallR X (.type "list") (LfC (Cx.ct X) pList) := by
  rintro pins s σ H xs us Q I rv ⟨E, S, m, ds, k, q, o⟩
  unfold pList at o
  split at o
  · obtain ⟨v, rfl, r⟩ := rpa_one q
    split at o
    · rename_i ys hv
      obtain ⟨p, ws, e1, e2, qq⟩ := rp_seq k r hv
      subst e1
      exact call_list_of pins s σ H _ us Q I rv ⟨_, _, rfl, e2, fun l hl => out_lst k o qq hl⟩
    · exact o.elim
  · exact o.elim
theorem cr_listO : CallR X (.type "list") (LfC (Cx.ct X) pListO) := by
  rintro pins s σ H xs us Q I rv ⟨E, S, m, ds, k, q, o⟩
  unfold pListO at o
  split at o
  · obtain ⟨v, rfl, r⟩ := rpa_one q
    split at o
    · rename_i ys hv
      obtain ⟨p, ws, e1, e2, qq⟩ := rp_seq k r hv
      subst e1
      exact call_list_of pins s σ H _ us Q I rv ⟨_, _, rfl, e2, fun l hl => out_open k o qq hl⟩
    · exact o.elim
  · exact o.elim
theorem cr_all' (hc : X.calm = true) : CallR X (.builtin "all") (LfC (Cx.ct X) pAll) := by
  rintro pins s σ H xs us Q I rv ⟨E, S, m, ds, k, q, o⟩
  unfold pAll at o
  split at o
  · obtain ⟨v, rfl, r⟩ := rpa_one q
    split at o
    · rename_i bs hb
      obtain ⟨ys, hv, hb⟩ := Option.bind_eq_some_iff.mp hb
      obtain ⟨p, ws, e1, e2, qq⟩ := rp_viewQ k r hv
      subst e1
      exact cr_all hc pins s σ H _ us Q I rv ⟨_, bs, rfl, by rw [← rp_bls qq hb]; exact e2, out_ok k o (.bl _)⟩
    · exact o.elim
  · exact o.elim
theorem cr_any' (hc : X.calm = true) : CallR X (.builtin "any") (LfC (Cx.ct X) pAny) := by
  rintro pins s σ H xs us Q I rv ⟨E, S, m, ds, k, q, o⟩
  unfold pAny at o
  split at o
  · obtain ⟨v, rfl, r⟩ := rpa_one q
    split at o
    · rename_i bs hb
      obtain ⟨ys, hv, hb⟩ := Option.bind_eq_some_iff.mp hb
      obtain ⟨p, ws, e1, e2, qq⟩ := rp_viewQ k r hv
      subst e1
      exact cr_any hc pins s σ H _ us Q I rv ⟨_, bs, rfl, by rw [← rp_bls qq hb]; exact e2, out_ok k o (.bl _)⟩
    · exact o.elim
  · exact o.elim
theorem cr_sum' (hc : X.calm = true) : CallR X (.builtin "sum") (LfC (Cx.ct X) pSum) := by
  rintro pins s σ H xs us Q I rv ⟨E, S, m, ds, k, q, o⟩
  unfold pSum at o
  split at o
  · obtain ⟨v, rfl, r⟩ := rpa_one q
    split at o
    · rename_i bs hb
      obtain ⟨ys, hv, hb⟩ := Option.bind_eq_some_iff.mp hb
      obtain ⟨p, ws, e1, e2, qq⟩ := rp_viewQ k r hv
      subst e1
      exact cr_sum hc pins s σ H _ us Q I rv ⟨_, bs, rfl, by rw [← rp_ints qq hb]; exact e2, out_ok k o (.int _)⟩
    · exact o.elim
  · exact o.elim

/-! isinstance against a built-in class -/
def tyName : D → Option String
  | .non => some "NoneType"
  | .bl _ => some "bool"
  | .int _ => some "int"
  | .str _ => some "str"
  | .tup _ => some "tuple"
  | .lst _ => some "list"
  | .rol _ => some "list"
  | .loc _ => some "list"
  | .dct _ => some "dict"
  | _ => none
def pIsi : DA := fun ds m => match ds with
  | [d, .ty c] => match (tyName d).bind fun t => kitB t c with
    | some b => .ok (.bl b) m
    | none => .bad
  | _ => .bad
theorem rp_tyX {G : Ct} {S : List Addr} {H : Hp} {m : Mu} {v : V} {d : D} {t : String} (k : StOk G S H m) (r : Rp G S H v d) (h : tyName d = some t) : TyX G.K H v (.type t) := by
  cases r with
  | non => cases h; exact .base .non
  | bl b => cases h; exact .base (.bl b)
  | int b => cases h; exact .base (.int b)
  | str b => cases h; exact .base (.str b)
  | ty n => cases h
  | tup e q =>
    cases h
    rcases e with (e | ⟨o, e⟩) | ⟨o, its, n, e, c, _⟩
    · exact .base (.tup e)
    · exact .fTuple e
    · exact .kTuple e c
  | lst na e q => cases h; exact .base (.lst e)
  | rol e q =>
    cases h
    rcases e with ⟨o, e⟩ | ⟨o, its, n, e, c, _⟩
    · exact .base (.frz e)
    · exact .kList e c
  | loc hn =>
    cases h
    obtain ⟨xs, e⟩ := k.opn (List.mem_of_getElem? hn)
    exact .base (.lst e)
  | ins _ _ _ _ => cases h
  | dct na e q => cases h; exact .base (.dK e)
theorem cr_isi : CallR X (.builtin "isinstance") (LfC (Cx.ct X) pIsi) := by
  rintro pins s σ H xs us Q I rv ⟨E, S, m, ds, k, q, o⟩
  unfold pIsi at o
  split at o
  · obtain ⟨v, w, rfl, r, r2⟩ := rpa_two q
    cases r2
    split at o
    · rename_i b hb
      obtain ⟨t, ht, hk⟩ := Option.bind_eq_some_iff.mp hb
      exact call_isi pins s σ H _ us Q I rv ⟨_, _, .type t, _, b, rfl, .ty _, rp_tyX k r ht, kit_ty hk, out_ok k o (.bl _)⟩
    · exact o.elim
  · exact o.elim
end
end Mr

/-! Mr4: targets, what is walked, statements, loops, comprehensions, defs -/
namespace Mr
open PySem PySem.Spec PyProof.Rows L2

/-! ### statements' results -/
inductive SRes where
  | nx (r : Rho) (m : Mu)
  | rt (d : D) (m : Mu)
  | bk (r : Rho) (m : Mu)
  | ct (r : Rho) (m : Mu)
  | err (c : Str) (fs : List (Str × D)) (r : Rho) (m : Mu)
  | bad
abbrev MS := Rho → Mu → SRes
def SRes.bind (x : SRes) (f : Rho → Mu → SRes) : SRes := match x with
  | .nx r m => f r m
  | x => x
@[simp] theorem SRes.bind_nx (r : Rho) (m : Mu) (f : Rho → Mu → SRes) : (SRes.nx r m).bind f = f r m := rfl
@[simp] theorem SRes.bind_rt (d : D) (m : Mu) (f : Rho → Mu → SRes) : (SRes.rt d m).bind f = .rt d m := rfl
@[simp] theorem SRes.bind_bk (r : Rho) (m : Mu) (f : Rho → Mu → SRes) : (SRes.bk r m).bind f = .bk r m := rfl
@[simp] theorem SRes.bind_ct (r : Rho) (m : Mu) (f : Rho → Mu → SRes) : (SRes.ct r m).bind f = .ct r m := rfl
@[simp] theorem SRes.bind_err (c : Str) (fs : List (Str × D)) (r : Rho) (m : Mu) (f : Rho → Mu → SRes) : (SRes.err c fs r m).bind f = .err c fs r m := rfl
@[simp] theorem SRes.bind_bad (f : Rho → Mu → SRes) : SRes.bad.bind f = .bad := rfl
/-- an expression's result, then a statement's -/
def Res.thenS {A : Type} (x : Res A) (r : Rho) (f : A → Mu → SRes) : SRes := match x with
  | .ok a m => f a m
  | .err c fs m => .err c fs r m
  | .bad => .bad
@[simp] theorem Res.thenS_ok {A : Type} (a : A) (m : Mu) (r : Rho) (f : A → Mu → SRes) : (Res.ok a m).thenS r f = f a m := rfl
@[simp] theorem Res.thenS_err {A : Type} (c : Str) (fs : List (Str × D)) (m : Mu) (r : Rho) (f : A → Mu → SRes) : (Res.err c fs m : Res A).thenS r f = .err c fs r m := rfl
@[simp] theorem Res.thenS_bad {A : Type} (r : Rho) (f : A → Mu → SRes) : (Res.bad : Res A).thenS r f = .bad := rfl

def OutS (G : Ct) (S : List Addr) (H : Hp) (W : WX) (x : SRes) (Dn : Ends) : Prop := match x with
  | .nx r m => ∀ s S' H', Aft G S H S' H' m → Sim G S' H' s r m → Dn.nx s H'
  | .rt d m => ∀ v S' H', Aft G S H S' H' m → Rp G S' H' v d → Dn.rt v H'
  | .bk r m => ∀ s S' H', Aft G S H S' H' m → Sim G S' H' s r m → Dn.bk s H'
  | .ct r m => ∀ s S' H', Aft G S H S' H' m → Sim G S' H' s r m → Dn.ct s H'
  | .err c fs r m => ∀ (C dx : Addr) (gs : List (Str × V)) s S' H', Aft G S H S' H' m → Sim G S' H' s r m → G.mg c = some (.ref C) → H' dx = some (.xd gs) → RpF G S' H' gs fs → W (.ref C) (some dx) s H'
  | .bad => False
def LfS (G : Ct) (W : WX) (f : MS) : TS := fun Dn s H => ∃ S r m, Sim G S H s r m ∧ OutS G S H W (f r m) Dn
abbrev IS (X : Cx) (W : WX) (st : Stmt) (f : MS) : Prop := PS X st (LfS (Cx.ct X) W f)
abbrev ISs (X : Cx) (W : WX) (st : List Stmt) (f : MS) : Prop := PSs X st (LfS (Cx.ct X) W f)
theorem ps_imp {X : Cx} {e : Stmt} {t t' : TS} (h : PS X e t) (i : ∀ Dn s H, t' Dn s H → t Dn s H) : PS X e t' := ⟨fun pins s σ H Dn I q => h.run pins s σ H Dn I (i _ _ _ q)⟩
theorem pss_imp {X : Cx} {e : List Stmt} {t t' : TS} (h : PSs X e t) (i : ∀ Dn s H, t' Dn s H → t Dn s H) : PSs X e t' := ⟨fun pins s σ H Dn I q => h.run pins s σ H Dn I (i _ _ _ q)⟩

section
variable {G : Ct} {W : WX} {S S' : List Addr} {H H' : Hp} {s : L2.St} {r : Rho} {m m' : Mu} {Dn : Ends}
theorem OutS.base {x : SRes} (a : Aft G S H S' H' m') (o : OutS G S H W x Dn) : OutS G S' H' W x Dn := by
  cases x with
  | nx r m => exact fun s S2 H2 b => o s S2 H2 (a.trans b)
  | rt d m => exact fun v S2 H2 b => o v S2 H2 (a.trans b)
  | bk r m => exact fun s S2 H2 b => o s S2 H2 (a.trans b)
  | ct r m => exact fun s S2 H2 b => o s S2 H2 (a.trans b)
  | err c fs r m => exact fun C dx gs s S2 H2 b => o C dx gs s S2 H2 (a.trans b)
  | bad => exact o
theorem OutS.bind {x : SRes} {f : Rho → Mu → SRes} (o : OutS G S H W (x.bind f) Dn) : OutS G S H W x { Dn with nx := fun s H' => ∃ S' r m, Sim G S' H' s r m ∧ OutS G S' H' W (f r m) Dn } := by
  cases x with
  | nx r m => exact fun s S2 H2 b sm => ⟨S2, r, m, sm, OutS.base b o⟩
  | _ => exact o
/-- a statement begins with an expression -/
theorem lfe_ofS {f : ME} {g : D → Mu → SRes} {R : VK} (x : Sim G S H s r m) (o : OutS G S H W ((f r m).thenS r g) Dn)
    (h : ∀ (d : D) (v : V) (S' : List Addr) (H' : Hp) (m' : Mu), Aft G S H S' H' m' → Sim G S' H' s r m' → Rp G S' H' v d → OutS G S' H' W (g d m') Dn → R v H') : LfE G W f s H R := by
  refine ⟨S, r, m, x, ?_⟩
  cases e : f r m with
  | ok d m' =>
    rw [e] at o
    exact fun S' H' a v q => h d v S' H' m' a (x.aft a) q (OutS.base a o)
  | err c fs m' =>
    rw [e] at o
    exact fun C dx gs S' H' a h1 h2 h3 => o C dx gs s S' H' a (x.aft a) h1 h2 h3
  | bad =>
    rw [e] at o
    exact o
theorem lft_ofS {f : MT} {g : Bool → Mu → SRes} {R : Bool → Hp → Prop} (x : Sim G S H s r m) (o : OutS G S H W ((f r m).thenS r g) Dn)
    (h : ∀ (b : Bool) (S' : List Addr) (H' : Hp) (m' : Mu), Aft G S H S' H' m' → Sim G S' H' s r m' → OutS G S' H' W (g b m') Dn → R b H') : LfT G W f s H R := by
  refine ⟨S, r, m, x, ?_⟩
  cases e : f r m with
  | ok d m' =>
    rw [e] at o
    exact fun S' H' a => h d S' H' m' a (x.aft a) (OutS.base a o)
  | err c fs m' =>
    rw [e] at o
    exact fun C dx gs S' H' a h1 h2 h3 => o C dx gs s S' H' a (x.aft a) h1 h2 h3
  | bad =>
    rw [e] at o
    exact o
theorem lfa_ofS {f : MA} {g : List D → Mu → SRes} {R : List V → Hp → Prop} (x : Sim G S H s r m) (o : OutS G S H W ((f r m).thenS r g) Dn)
    (h : ∀ (ds : List D) (vs : List V) (S' : List Addr) (H' : Hp) (m' : Mu), Aft G S H S' H' m' → Sim G S' H' s r m' → RpA G S' H' vs ds → OutS G S' H' W (g ds m') Dn → R vs H') : LfA G W f s H R := by
  refine ⟨S, r, m, x, ?_⟩
  cases e : f r m with
  | ok d m' =>
    rw [e] at o
    exact fun S' H' a v q => h d v S' H' m' a (x.aft a) q (OutS.base a o)
  | err c fs m' =>
    rw [e] at o
    exact fun C dx gs S' H' a h1 h2 h3 => o C dx gs s S' H' a (x.aft a) h1 h2 h3
  | bad =>
    rw [e] at o
    exact o
end

/-! ### targets -/
abbrev MG := D → Rho → Mu → Option (Rho × Mu)
/-- .. may set the slots ts, and no other ones -/
def OutGt (G : Ct) (ts : List Nat) (S : List Addr) (H : Hp) (s : L2.St) (x : Option (Rho × Mu)) (Q : L2.St → Hp → Prop) : Prop := match x with
  | some (r, m) => ∀ s' S' H', s'.length = s.length → (∀ j, j ∉ ts → s'[j]? = s[j]?) → Aft G S H S' H' m → Sim G S' H' s' r m → Q s' H'
  | none => False
def LfG (G : Ct) (ts : List Nat) (g : MG) : TG := fun v s H Q => ∃ S r m d, Sim G S H s r m ∧ Rp G S H v d ∧ OutGt G ts S H s (g d r m) Q
def LfGs (G : Ct) (ts : List Nat) (g : List D → Rho → Mu → Option (Rho × Mu)) : TGs := fun vs s H Q => ∃ S r m ds, Sim G S H s r m ∧ RpA G S H vs ds ∧ OutGt G ts S H s (g ds r m) Q
abbrev IG (X : Cx) (ts : List Nat) (tg : Expr) (g : MG) : Prop := PG X tg (LfG (Cx.ct X) ts g)
abbrev IGs (X : Cx) (ts : List Nat) (tg : List Expr) (g : List D → Rho → Mu → Option (Rho × Mu)) : Prop := PGs X tg (LfGs (Cx.ct X) ts g)
theorem pg_imp {X : Cx} {e : Expr} {t t' : TG} (h : PG X e t) (i : ∀ v s H Q, t' v s H Q → t v s H Q) : PG X e t' := ⟨fun pins s σ H v u Q I r q => h.run pins s σ H v u Q I r (i _ _ _ _ q)⟩
theorem pgs_imp {X : Cx} {e : List Expr} {t t' : TGs} (h : PGs X e t) (i : ∀ v s H Q, t' v s H Q → t v s H Q) : PGs X e t' := ⟨fun pins s σ H v u Q I r q => h.run pins s σ H v u Q I r (i _ _ _ _ q)⟩
def gNm (i : Nat) : MG := fun d r m => some (r.set i (some d), m)
def gsNil : List D → Rho → Mu → Option (Rho × Mu) := fun ds r m => match ds with
  | [] => some (r, m)
  | _ => none
def gsCons (g : MG) (h : List D → Rho → Mu → Option (Rho × Mu)) : List D → Rho → Mu → Option (Rho × Mu) := fun ds r m => match ds with
  | d :: ds => (g d r m).bind fun x => h ds x.1 x.2
  | [] => none
def gTp (n : Nat) (h : List D → Rho → Mu → Option (Rho × Mu)) : MG := fun d r m => match d with
  | .tup ds => if ds.length = n then h ds r m else none
  | _ => none
section
variable {X : Cx} {pos : Pos}
theorem ig_name {i : Nat} {tg : Expr} (h : PG X tg (gName i)) : IG X [i] tg (gNm i) := pg_imp h fun v s H Q ⟨S, r, m, d, x, q, o⟩ =>
  o _ S H (by rw [List.length_set]) (fun j hj => List.getElem?_set_ne (fun e => hj (by simp [e]))) (Aft.refl x.ok) (x.set q i)
theorem igs_nil : IGs X [] [] gsNil := pgs_imp pgs_nil fun vs s H Q ⟨S, r, m, ds, x, q, o⟩ => by
  cases q with
  | nil => exact ⟨rfl, o s S H rfl (fun _ _ => rfl) (Aft.refl x.ok) x⟩
  | cons _ _ => exact o.elim
theorem igs_cons {e : Expr} {es : List Expr} {g : MG} {h : List D → Rho → Mu → Option (Rho × Mu)} {ts us : List Nat} (h1 : IG X ts e g) (h2 : IGs X us es h)
    (hs : (assignEach (e :: es) X.env).map (·.2) = assign e X.env :: (assignEach es X.env).map (·.2) := by rfl) : IGs X (ts ++ us) (e :: es) (gsCons g h) := pgs_imp (pgs_cons h1 h2 hs) fun vs s H Q ⟨S, r, m, ds, x, q, o⟩ => by
  cases q with
  | nil => exact o.elim
  | @cons v vs d ds qd qs =>
    refine ⟨v, vs, rfl, S, r, m, d, x, qd, ?_⟩
    cases e : g d r m with
    | none => simp only [gsCons, e, Option.bind_none] at o; exact o.elim
    | some y =>
      obtain ⟨r1, m1⟩ := y
      simp only [gsCons, e, Option.bind_some] at o
      intro s1 S1 H1 l1 k1 a1 x1
      refine ⟨S1, r1, m1, ds, x1, qs.aft x.ok a1, ?_⟩
      cases e2 : h ds r1 m1 with
      | none => rw [e2] at o; exact o.elim
      | some z =>
        obtain ⟨r2, m2⟩ := z
        rw [e2] at o
        exact fun s2 S2 H2 l2 k2 a2 x2 => o s2 S2 H2 (l2.trans l1) (fun j hj => (k2 j fun z => hj (List.mem_append_right _ z)).trans (k1 j fun z => hj (List.mem_append_left _ z))) (a1.trans a2) x2
theorem ig_tup {es : List Expr} {k n : Nat} {h : List D → Rho → Mu → Option (Rho × Mu)} {ts : List Nat} (hc : X.calm = true) (h1 : IGs X ts es h)
    (hn : (assignEach es X.env).length = n := by rfl) (hst : (assignEach es X.env).findIdx? (·.1) = none := by rfl) : IG X ts (.Tuple es k pos) (gTp n h) := pg_imp (pg_tup hc h1 hn hst) fun v s H Q ⟨S, r, m, d, x, q, o⟩ => by
  cases q with
  | @tup a xs ds e qs =>
    by_cases hl : ds.length = n
    · simp only [gTp, if_pos hl] at o
      exact ⟨a, xs, rfl, e, qs.length.trans hl, S, r, m, ds, x, qs, o⟩
    · simp only [gTp, if_neg hl] at o
      exact o.elim
  | _ => exact o.elim
/-- o[i] = d, o an open list -/
def putAt (n : Nat) (i : Int) (d : D) (m : Mu) : Option Mu := match m[n]? with
  | some c => match ixN c.length i with
    | some j => if d.old n = true then some (m.set n (c.set j d)) else none
    | none => none
  | none => none
def gSubL (fo fi : ME) : MG := fun d r m => match fo r m with
  | .ok (.loc n) m1 => match fi r m1 with
    | .ok (.int i) m2 => (putAt n i d m2).map fun m3 => (r, m3)
    | _ => none
  | _ => none
theorem oldA_set : ∀ {n : Nat} {c : List D} {d : D} (j : Nat), oldA n c = true → d.old n = true → oldA n (c.set j d) = true
  | _, [], _, _, _, _ => rfl
  | n, e :: c, d, 0, h, hd => by
    simp only [oldA, Bool.and_eq_true] at h
    simp only [List.set_cons_zero, oldA, Bool.and_eq_true]
    exact ⟨hd, h.2⟩
  | n, e :: c, d, j + 1, h, hd => by
    simp only [oldA, Bool.and_eq_true] at h
    simp only [List.set_cons_succ, oldA, Bool.and_eq_true]
    exact ⟨h.1, oldA_set j h.2 hd⟩
theorem oldA_app : ∀ {n : Nat} {c e : List D}, oldA n c = true → oldA n e = true → oldA n (c ++ e) = true
  | _, [], _, _, h => h
  | n, d :: c, e, h, h2 => by
    simp only [oldA, Bool.and_eq_true] at h
    simp only [List.cons_append, oldA, Bool.and_eq_true]
    exact ⟨h.1, oldA_app h.2 h2⟩
/-- an open list changes -/
theorem Aft.put {G : Ct} {S : List Addr} {H : Hp} {m : Mu} {n : Nat} {a : Addr} {c : List D} {xs : List V} (k : StOk G S H m) (hn : S[n]? = some a) (r : RpA G S H xs c) (ho : oldA n c = true) : Aft G S H S (upd H a (.lst xs)) (m.set n c) := by
  have ha : a ∈ S := List.mem_of_getElem? hn
  have kp : ∀ b u, H b = some u → b ∉ S → upd H a (.lst xs) b = some u := fun b u h z => by rw [upd_ne (fun e => z (by rw [e]; exact ha))]; exact h
  have mv : ∀ {ys : List V} {e : List D}, RpA G S H ys e → RpA G S (upd H a (.lst xs)) ys e := fun q => by
    have := q.move (T := []) (fun _ => k.opn) (fun _ z => nomatch z) kp
    rwa [List.append_nil] at this
  refine ⟨⟨[], by simp, fun _ z => nomatch z⟩, kp, k.nd, by rw [List.length_set]; exact k.len, fun j b e h1 h2 => ?_⟩
  by_cases hj : j = n
  · subst hj
    have hlt : j < m.length := by rw [← k.len]; exact (List.getElem?_eq_some_iff.mp hn).1
    rw [List.getElem?_set_self hlt] at h2
    cases h2
    rw [hn] at h1
    cases h1
    exact ⟨ho, xs, upd_same, mv r⟩
  · rw [List.getElem?_set_ne (Ne.symm hj)] at h2
    obtain ⟨b1, ys, e1, q1⟩ := k.at_ j b e h1 h2
    have hb : b ≠ a := fun z => by
      subst z
      exact hj (nodup_ix' k.nd h1 hn)
    exact ⟨b1, ys, by rw [upd_ne hb]; exact e1, mv q1⟩
where
  nodup_ix' {S : List Addr} (hN : S.Nodup) {i j : Nat} {x : Addr} (a : S[i]? = some x) (b : S[j]? = some x) : i = j := by
    obtain ⟨h1, e1⟩ := List.getElem?_eq_some_iff.mp a
    obtain ⟨h2, e2⟩ := List.getElem?_eq_some_iff.mp b
    exact (List.getElem_inj hN).mp (e1.trans e2.symm)
theorem ig_sub {o i : Expr} {fo fi : ME} (ho : IE X (fun _ _ _ _ => False) o fo) (hi : IE X (fun _ _ _ _ => False) i fi)
    (ha : ∀ v, assign (.Subscript o i pos) X.env v = (do
      let ov ← holding [v] (eval o X.env)
      let iv ← holding [v, ov] (eval i X.env)
      standAt pos
      holding [v, ov, iv] (setItem ov iv v)
      release [v, ov, iv] []) := by intro _; rfl) : IG X [] (.Subscript o i pos) (gSubL fo fi) := pg_imp (pg_sub ho hi set_list ha) fun v s H Q ⟨S, r, m, d, x, q, oo⟩ => by
  refine ⟨S, r, m, x, ?_⟩
  unfold gSubL at oo
  cases e1 : fo r m with
  | err c fs m1 => rw [e1] at oo; exact oo.elim
  | bad => rw [e1] at oo; exact oo.elim
  | ok d1 m1 =>
    rw [e1] at oo
    cases d1 with
    | loc n =>
      intro S1 H1 a1 w qw
      simp only at oo
      refine ⟨S1, r, m1, x.aft a1, ?_⟩
      cases e2 : fi r m1 with
      | err c fs m1 => rw [e2] at oo; exact oo.elim
      | bad => rw [e2] at oo; exact oo.elim
      | ok d2 m2 =>
        rw [e2] at oo
        cases d2 with
        | int j =>
          intro S2 H2 a2 w2 qw2
          simp only at oo
          have x2 := (x.aft a1).aft a2
          cases qw2
          have qw' := qw.aft a1.ok a2
          cases qw' with
          | @loc _ a hn =>
            unfold putAt at oo
            cases hc : m2[n]? with
            | none => simp only [hc] at oo; exact oo.elim
            | some c =>
              simp only [hc] at oo
              cases hj : ixN c.length j with
              | none => simp only [hj] at oo; exact oo.elim
              | some l =>
                simp only [hj] at oo
                by_cases hd : d.old n = true
                · simp only [if_pos hd, Option.map_some] at oo
                  obtain ⟨hold, xs, e3, qx⟩ := x2.ok.at_ n a c hn hc
                  have q2 := (q.aft x.ok a1).aft a1.ok a2
                  refine ⟨a, xs, j, l, rfl, rfl, e3, by rw [qx.length]; exact hj, ?_⟩
                  have a3 := Aft.put x2.ok hn (qx.set q2 l) (oldA_set l hold hd)
                  exact oo s S2 _ rfl (fun _ _ => rfl) ((a1.trans a2).trans a3) (x2.aft a3)
                · simp only [if_neg hd] at oo
                  exact oo.elim
        | _ => exact oo.elim
    | _ => exact oo.elim
end

/-! ### what a loop walks -/
/-- the list that is walked, where it is an open one -/
def okSrc (src : Option Nat) (ds : List D) (m : Mu) : Prop := match src with
  | none => True
  | some n => m[n]? = some ds
structure Walks (G : Ct) (J : It) (S0 : List Addr) (H0 : Hp) (src : Option Nat) (ds : List D) : Prop where
  go : ∀ S H m, Aft G S0 H0 S H m → okSrc src ds m → ∀ i d, ds[i]? = some d → J.go i H ∧ ∀ x H', J.yld i H x H' → Aft G S H S H' m ∧ Rp G S H' x d
  stop : ∀ S H m, Aft G S0 H0 S H m → okSrc src ds m → J.stop ds.length H
abbrev MI := Rho → Mu → Res (List D × Option Nat)
def LfI (G : Ct) (W : WX) (f : MI) : TI := fun s H R => ∃ S r m, Sim G S H s r m ∧ OutG G S H (fun c d H' => W c d s H') (f r m) fun p S' H' _ => ∀ J, Walks G J S' H' p.2 p.1 → R J H'
abbrev II (X : Cx) (W : WX) (tg it : Expr) (f : MI) : Prop := PI X tg it (LfI (Cx.ct X) W f)
theorem pi_imp {X : Cx} {tg e : Expr} {t t' : TI} (h : PI X tg e t) (i : ∀ s H R, t' s H R → t s H R) : PI X tg e t' := ⟨fun pins s σ H R I q => h.run pins s σ H R I (i _ _ _ q)⟩
def iItL (f : ME) : MI := fun r m => (f r m).bind fun d m1 => match d with
  | .lst ds => .ok (ds, none) m1
  | .rol ds => .ok (ds, none) m1
  | .loc n => match m1[n]? with
    | some ds => .ok (ds, some n) m1
    | none => .bad
  | _ => .bad
def iItT (f : ME) : MI := fun r m => (f r m).bind fun d m1 => match d with
  | .tup ds => .ok (ds, none) m1
  | _ => .bad
def rangeD (lo : Int) (n : Nat) : List D := (List.range n).map fun (i : Nat) => .int (lo + i)
def iItR1 (f : MA) : MI := fun r m => (f r m).bind fun ds m1 => match ds with
  | [.int j] => if -(2 ^ 62) ≤ j ∧ j < 2 ^ 62 then .ok (rangeD 0 j.toNat, none) m1 else .bad
  | _ => .bad
def iItR2 (f : MA) : MI := fun r m => (f r m).bind fun ds m1 => match ds with
  | [.int i, .int j] => if -(2 ^ 62) ≤ i ∧ i < 2 ^ 62 ∧ -(2 ^ 62) ≤ j ∧ j < 2 ^ 62 then .ok (rangeD i (j - i).toNat, none) m1 else .bad
  | _ => .bad
def signsD (x : Str) : List D := x.cps.toList.map fun c => .str ⟨#[c]⟩
def iItS (f : ME) : MI := fun r m => (f r m).bind fun d m1 => match d with
  | .str x => .ok (signsD x, none) m1
  | _ => .bad
theorem lfi_of {G : Ct} {W : WX} {S : List Addr} {H : Hp} {s : L2.St} {r : Rho} {m : Mu} {f : MI} {R : It → Hp → Prop} {A : Type} {g : List D × Option Nat → Mu → Res A} {Q : A → List Addr → Hp → Mu → Prop} (x : Sim G S H s r m) (o : OutG G S H (fun c d H' => W c d s H') ((f r m).bind g) Q)
    (h : ∀ p S' H' m', Aft G S H S' H' m' → Sim G S' H' s r m' → OutG G S' H' (fun c d H' => W c d s H') (g p m') Q → ∀ J, Walks G J S' H' p.2 p.1 → R J H') : LfI G W f s H R := by
  refine ⟨S, r, m, x, ?_⟩
  cases e : f r m with
  | ok p m' =>
    rw [e] at o
    exact fun S' H' a => h p S' H' m' a (x.aft a) (OutG.base a o)
  | err c fs m' =>
    rw [e] at o
    exact o
  | bad =>
    rw [e] at o
    exact o
theorem lfi_ofS {G : Ct} {W : WX} {S : List Addr} {H : Hp} {s : L2.St} {r : Rho} {m : Mu} {f : MI} {R : It → Hp → Prop} {g : List D × Option Nat → Mu → SRes} {Dn : Ends} (x : Sim G S H s r m) (o : OutS G S H W ((f r m).thenS r g) Dn)
    (h : ∀ p S' H' m', Aft G S H S' H' m' → Sim G S' H' s r m' → OutS G S' H' W (g p m') Dn → ∀ J, Walks G J S' H' p.2 p.1 → R J H') : LfI G W f s H R := by
  refine ⟨S, r, m, x, ?_⟩
  cases e : f r m with
  | ok p m' =>
    rw [e] at o
    exact fun S' H' a => h p S' H' m' a (x.aft a) (OutS.base a o)
  | err c fs m' =>
    rw [e] at o
    exact fun C dx gs S' H' a h1 h2 h3 => o C dx gs s S' H' a (x.aft a) h1 h2 h3
  | bad =>
    rw [e] at o
    exact o
theorem walks_range (G : Ct) (S : List Addr) (H : Hp) (lo : Int) (n : Nat) : Walks G (Itr lo n) S H none (rangeD lo n) := by
  refine ⟨fun S1 H1 m1 a _ i d hi => ?_, fun S1 H1 m1 a _ => ?_⟩
  · unfold rangeD at hi
    rw [List.getElem?_map, Option.map_eq_some_iff] at hi
    obtain ⟨j, hj, e⟩ := hi
    obtain ⟨h1, h2⟩ := List.getElem?_eq_some_iff.mp hj
    rw [List.getElem_range] at h2
    rw [List.length_range] at h1
    subst h2
    refine ⟨h1, fun x H' y => ?_⟩
    obtain ⟨e1, e2⟩ := y
    subst e1 e2 e
    exact ⟨Aft.refl a.ok, .int _⟩
  · show n ≤ _
    unfold rangeD
    rw [List.length_map, List.length_range]
    exact Nat.le_refl _
section
variable {X : Cx} {W : WX} {tg e a b : Expr} {f : ME} {fa : MA} {p pos : Pos}
theorem ii_list (he : IE X W e f) : II X W tg e (iItL f) := pi_imp (pi_list he) fun s H R ⟨S, r, m, x, o⟩ => lfe_of x o fun d v S1 H1 m1 a1 x1 q1 o1 => by
  cases q1 with
  | @lst a xs ds na e1 qs =>
    refine ⟨a, rfl, ⟨xs, SqL.of e1⟩, ?_⟩
    refine o1 S1 H1 (Aft.refl x1.ok) _ ⟨fun S2 H2 m2 a2 _ i d hd => ?_, fun S2 H2 m2 a2 _ => ⟨xs, SqL.of (a2.keep _ _ e1 na), by rw [qs.length]; exact Nat.le_refl _⟩⟩
    have e2 := a2.keep _ _ e1 na
    have qs2 := qs.aft x1.ok a2
    obtain ⟨w, hw, qw⟩ := qs2.get hd
    refine ⟨⟨xs, w, SqL.of e2, hw⟩, fun y H' hy => ?_⟩
    obtain ⟨e3, hy⟩ := hy
    subst e3
    have := hy xs (SqL.of e2)
    rw [hw] at this
    cases this
    exact ⟨Aft.refl a2.ok, qw⟩
  | @rol a xs ds e1 qs =>
    refine ⟨a, rfl, ⟨xs, e1.sq⟩, ?_⟩
    have st : ∀ {S2 H2 m2}, Aft (Cx.ct X) S1 H1 S2 H2 m2 → SqL X.K H2 a xs := fun {S2 H2 m2} a2 => (sqF_move (fun _ => x1.ok.opn) a2.keep e1).sq
    refine o1 S1 H1 (Aft.refl x1.ok) _ ⟨fun S2 H2 m2 a2 _ i d hd => ?_, fun S2 H2 m2 a2 _ => ⟨xs, st a2, by rw [qs.length]; exact Nat.le_refl _⟩⟩
    have qs2 := qs.aft x1.ok a2
    obtain ⟨w, hw, qw⟩ := qs2.get hd
    refine ⟨⟨xs, w, st a2, hw⟩, fun y H' hy => ?_⟩
    obtain ⟨e3, hy⟩ := hy
    subst e3
    have := hy xs (st a2)
    rw [hw] at this
    cases this
    exact ⟨Aft.refl a2.ok, qw⟩
  | @loc n a hn =>
    simp only at o1
    cases hc : m1[n]? with
    | none => rw [hc] at o1; exact o1.elim
    | some ds =>
      rw [hc] at o1
      obtain ⟨_, xs, e1, qs⟩ := x1.ok.at_ n a ds hn hc
      refine ⟨a, rfl, ⟨xs, SqL.of e1⟩, ?_⟩
      have at2 : ∀ {S2 H2 m2}, Aft (Cx.ct X) S1 H1 S2 H2 m2 → okSrc (some n) ds m2 → ∃ ys, H2 a = some (.lst ys) ∧ RpA (Cx.ct X) S2 H2 ys ds := fun {S2 H2 m2} a2 ok => by
        obtain ⟨T, eT, _⟩ := a2.more
        have hn2 : S2[n]? = some a := by rw [eT, List.getElem?_append_left (List.getElem?_eq_some_iff.mp hn).1]; exact hn
        obtain ⟨_, ys, e2, q2⟩ := a2.ok.at_ n a ds hn2 ok
        exact ⟨ys, e2, q2⟩
      refine o1 S1 H1 (Aft.refl x1.ok) _ ⟨fun S2 H2 m2 a2 ok i d hd => ?_, fun S2 H2 m2 a2 ok => ?_⟩
      · obtain ⟨ys, e2, q2⟩ := at2 a2 ok
        obtain ⟨w, hw, qw⟩ := q2.get hd
        refine ⟨⟨ys, w, SqL.of e2, hw⟩, fun y H' hy => ?_⟩
        obtain ⟨e3, hy⟩ := hy
        subst e3
        have := hy ys (SqL.of e2)
        rw [hw] at this
        cases this
        exact ⟨Aft.refl a2.ok, qw⟩
      · obtain ⟨ys, e2, q2⟩ := at2 a2 ok
        exact ⟨ys, SqL.of e2, by rw [q2.length]; exact Nat.le_refl _⟩
  | _ => exact o1.elim
theorem ii_tup (he : IE X W e f) : II X W tg e (iItT f) := pi_imp (pi_tup he) fun s H R ⟨S, r, m, x, o⟩ => lfe_of x o fun d v S1 H1 m1 a1 x1 q1 o1 => by
  cases q1 with
  | @tup a xs ds e1 qs =>
    refine ⟨a, rfl, ⟨xs, e1⟩, ?_⟩
    refine o1 S1 H1 (Aft.refl x1.ok) _ ⟨fun S2 H2 m2 a2 _ i d hd => ?_, fun S2 H2 m2 a2 _ => ?_⟩
    · have e2 := sqT_move (fun _ => x1.ok.opn) a2.keep e1
      have qs2 := qs.aft x1.ok a2
      obtain ⟨w, hw, qw⟩ := qs2.get hd
      refine ⟨⟨xs, w, e2, hw⟩, fun y H' hy => ?_⟩
      obtain ⟨e3, hy⟩ := hy
      subst e3
      have := hy xs e2
      rw [hw] at this
      cases this
      exact ⟨Aft.refl a2.ok, qw⟩
    · exact ⟨xs, sqT_move (fun _ => x1.ok.opn) a2.keep e1, by rw [qs.length]; exact Nat.le_refl _⟩
  | _ => exact o1.elim
theorem ii_range1 (hg : Gl X "range") (hm : X.mg "range" = none) (ha : IA X W [a] fa) (hs : starEach [a] X.env = [(false, eval a X.env)] := by rfl) : II X W tg (.Call (.Name "range" p) [a] [] pos) (iItR1 fa) :=
  pi_imp (pi_range1 hg hm ha hs) fun s H R ⟨S, r, m, x, o⟩ => lfa_of x o fun ds vs S1 H1 m1 a1 x1 q1 o1 => by
    split at o1
    · rename_i j
      obtain ⟨w, rfl, qw⟩ := rpa_one q1
      cases qw
      split at o1
      · rename_i hj
        exact ⟨j, rfl, hj.1, hj.2, o1 S1 H1 (Aft.refl x1.ok) _ (walks_range ..)⟩
      · exact o1.elim
    · exact o1.elim
theorem ii_range2 (hg : Gl X "range") (hm : X.mg "range" = none) (ha : IA X W [a, b] fa) (hs : starEach [a, b] X.env = [(false, eval a X.env), (false, eval b X.env)] := by rfl) (hs2 : starEach [b] X.env = [(false, eval b X.env)] := by rfl) : II X W tg (.Call (.Name "range" p) [a, b] [] pos) (iItR2 fa) :=
  pi_imp (pi_range2 hg hm ha hs hs2) fun s H R ⟨S, r, m, x, o⟩ => lfa_of x o fun ds vs S1 H1 m1 a1 x1 q1 o1 => by
    split at o1
    · rename_i i j
      obtain ⟨w, w2, rfl, qw, qw2⟩ := rpa_two q1
      cases qw
      cases qw2
      split at o1
      · rename_i hj
        exact ⟨i, j, rfl, hj, o1 S1 H1 (Aft.refl x1.ok) _ (walks_range ..)⟩
      · exact o1.elim
    · exact o1.elim
theorem ii_str (he : IE X W e f) : II X W tg e (iItS f) := pi_imp (pi_str he) fun s H R ⟨S, r, m, x, o⟩ => lfe_of x o fun d v S1 H1 m1 a1 x1 q1 o1 => by
  cases q1 with
  | str z =>
    refine ⟨z, rfl, ?_⟩
    refine o1 S1 H1 (Aft.refl x1.ok) _ ⟨fun S2 H2 m2 a2 _ i d hd => ?_, fun S2 H2 m2 a2 _ => ?_⟩
    · unfold signsD at hd
      rw [List.getElem?_map, Option.map_eq_some_iff] at hd
      obtain ⟨c, hc, e⟩ := hd
      rw [Array.getElem?_toList] at hc
      refine ⟨(Array.getElem?_eq_some_iff.mp hc).1, fun y H' hy => ?_⟩
      obtain ⟨e3, c', hc', e4⟩ := hy
      rw [hc] at hc'
      cases hc'
      subst e3 e4 e
      exact ⟨Aft.refl a2.ok, .str _⟩
    · show _ ≤ _
      unfold signsD
      rw [List.length_map, Array.length_toList]
      exact Nat.le_refl _
  | _ => exact o1.elim
end
end Mr

/-! Mr5: statements, loops, comprehensions, defs -/
namespace Mr
open PySem PySem.Spec PyProof.Rows L2

/-! ### statements -/
def sNil : MS := fun r m => .nx r m
def sSeq (f g : MS) : MS := fun r m => (f r m).bind g
def sAsg (f : ME) (g : MG) : MS := fun r m => (f r m).thenS r fun d m1 => match g d r m1 with
  | some x => .nx x.1 x.2
  | none => .bad
def sExpr (f : ME) : MS := fun r m => (f r m).thenS r fun _ m1 => .nx r m1
def sRet (f : ME) : MS := fun r m => (f r m).thenS r fun d m1 => .rt d m1
def sRetN : MS := fun _ m => .rt .non m
def sBreak : MS := fun r m => .bk r m
def sCont : MS := fun r m => .ct r m
def sBad : MS := fun _ _ => .bad
def sIf (t : MT) (f g : MS) : MS := fun r m => (t r m).thenS r fun b m1 => if b = true then f r m1 else g r m1
def sPar (i j : Nat) (f : MA) : MS := fun r m => (f r m).thenS r fun ds m1 => match ds with
  | [d, e] => .nx ((r.set i (some d)).set j (some e)) m1
  | _ => .bad
def sPar3 (i j l : Nat) (f : MA) : MS := fun r m => (f r m).thenS r fun ds m1 => match ds with
  | [d, e, c] => .nx (((r.set i (some d)).set j (some e)).set l (some c)) m1
  | _ => .bad
section
variable {X : Cx} {W : WX} {st : Stmt} {rest : List Stmt} {f g : MS} {fe : ME} {pos : Pos}
theorem iss_nil : ISs X W [] sNil := pss_imp pss_nil fun Dn s H ⟨S, r, m, x, o⟩ => o s S H (Aft.refl x.ok) x
theorem iss_cons (h1 : IS X W st f) (h2 : ISs X W rest g) : ISs X W (st :: rest) (sSeq f g) := pss_imp (pss_cons h1 h2) fun Dn s H ⟨S, r, m, x, o⟩ => ⟨S, r, m, x, OutS.bind o⟩
theorem iss_one (h1 : IS X W st f) : ISs X W [st] f := pss_one h1
theorem is_pass : IS X W (.Pass pos) sNil := ps_imp ps_pass fun Dn s H ⟨S, r, m, x, o⟩ => o s S H (Aft.refl x.ok) x
theorem is_break : IS X W (.Break pos) sBreak := ps_imp ps_break fun Dn s H ⟨S, r, m, x, o⟩ => o s S H (Aft.refl x.ok) x
theorem is_cont : IS X W (.Continue pos) sCont := ps_imp ps_continue fun Dn s H ⟨S, r, m, x, o⟩ => o s S H (Aft.refl x.ok) x
theorem is_bad : IS X W st sBad := ps_imp ps_never fun Dn s H ⟨S, r, m, x, o⟩ => o
theorem is_doc {x : Str} {j : Nat} {p p' : Pos} : IS X W (.Expr (.Constant (.str x) j p) p') sNil := ps_imp ps_doc fun Dn s H ⟨S, r, m, x, o⟩ => o s S H (Aft.refl x.ok) x
theorem is_expr {e : Expr} (he : IE X W e fe) (hs : swapsWith e none pos.line X.env = pure false := by rfl) : IS X W (.Expr e pos) (sExpr fe) := ps_imp (ps_expr he hs) fun Dn s H ⟨S, r, m, x, o⟩ =>
  lfe_ofS x o fun d v S1 H1 m1 a1 x1 q1 o1 => o1 s S1 H1 (Aft.refl x1.ok) x1
theorem is_ret {e : Expr} (he : IE X W e fe) : IS X W (.Return (some e) pos) (sRet fe) := ps_imp (ps_ret he) fun Dn s H ⟨S, r, m, x, o⟩ =>
  lfe_ofS x o fun d v S1 H1 m1 a1 x1 q1 o1 => o1 v S1 H1 (Aft.refl x1.ok) q1
theorem is_retN : IS X W (.Return none pos) sRetN := ps_imp ps_retN fun Dn s H ⟨S, r, m, x, o⟩ => o _ S H (Aft.refl x.ok) .non
theorem is_if {c : Expr} {a b : List Stmt} {t : MT} (hc : IT X W c t) (ha : ISs X W a f) (hb : ISs X W b g) : IS X W (.If c a b pos) (sIf t f g) := ps_imp (ps_if hc ha hb) fun Dn s H ⟨S, r, m, x, o⟩ =>
  lft_ofS x o fun b S1 H1 m1 a1 x1 o1 => by
    cases b with
    | true => exact ⟨S1, r, m1, x1, o1⟩
    | false => exact ⟨S1, r, m1, x1, o1⟩
theorem is_set {i : Nat} (h : PS X st (tAsg (LfE (Cx.ct X) W fe) (gName i))) : IS X W st (sAsg fe (gNm i)) := ps_imp h fun Dn s H ⟨S, r, m, x, o⟩ =>
  lfe_ofS x o fun d v S1 H1 m1 a1 x1 q1 o1 => o1 _ S1 H1 (Aft.refl x1.ok) (x1.set q1 i)
theorem is_asg {gg : MG} {ts : List Nat} (h : PS X st (tAsg (LfE (Cx.ct X) W fe) (LfG (Cx.ct X) ts gg))) : IS X W st (sAsg fe gg) := ps_imp h fun Dn s H ⟨S, r, m, x, o⟩ =>
  lfe_ofS x o fun d v S1 H1 m1 a1 x1 q1 o1 => ⟨S1, r, m1, d, x1, q1, by
    cases e : gg d r m1 with
    | none => rw [e] at o1; exact o1.elim
    | some y =>
      rw [e] at o1
      exact fun s' S' H' _ _ a2 x2 => o1 s' S' H' a2 x2⟩
theorem is_par {i j : Nat} {fa : MA} (h : PS X st (tPar i j (LfA (Cx.ct X) W fa))) : IS X W st (sPar i j fa) := ps_imp h fun Dn s H ⟨S, r, m, x, o⟩ =>
  lfa_ofS x o fun ds vs S1 H1 m1 a1 x1 q1 o1 => by
    split at o1
    · obtain ⟨v, w, rfl, qv, qw⟩ := rpa_two q1
      exact ⟨v, w, rfl, o1 _ S1 H1 (Aft.refl x1.ok) ((x1.set qv i).set qw j)⟩
    · exact o1.elim
theorem is_par3 {i j l : Nat} {fa : MA} (h : PS X st (tPar3 i j l (LfA (Cx.ct X) W fa))) : IS X W st (sPar3 i j l fa) := ps_imp h fun Dn s H ⟨S, r, m, x, o⟩ =>
  lfa_ofS x o fun ds vs S1 H1 m1 a1 x1 q1 o1 => by
    split at o1
    · cases q1 with
      | cons qu q1 =>
        obtain ⟨v, w, rfl, qv, qw⟩ := rpa_two q1
        exact ⟨_, v, w, rfl, o1 _ S1 H1 (Aft.refl x1.ok) (((x1.set qu i).set qv j).set qw l)⟩
    · exact o1.elim
end

/-! ### for -/
open Classical in
noncomputable def forD (src : Option Nat) (all : List D) (g : MG) (b : MS) : List D → MS
  | [], r, m => if okSrc src all m then .nx r m else .bad
  | d :: ds, r, m => if okSrc src all m then (match g d r m with
    | none => .bad
    | some x => match b x.1 x.2 with
      | .nx r2 m2 => forD src all g b ds r2 m2
      | .ct r2 m2 => forD src all g b ds r2 m2
      | .bk r2 m2 => .nx r2 m2
      | .rt d m2 => .rt d m2
      | .err c fs r2 m2 => .err c fs r2 m2
      | .bad => .bad) else .bad
noncomputable def sFor (it : MI) (g : MG) (b : MS) : MS := fun r m => (it r m).thenS r fun p m1 => forD p.2 p.1 g b p.1 r m1
section
variable {X : Cx} {W : WX} {st : Stmt} {it : MI} {g : MG} {b : MS} {ts : List Nat}
theorem is_for (h : PS X st (tFor (LfI (Cx.ct X) W it) (LfG (Cx.ct X) ts g) (LfS (Cx.ct X) W b))) : IS X W st (sFor it g b) := ps_imp h fun Dn s H ⟨S, r, m, x, o⟩ =>
  lfi_ofS x o fun p S1 H1 m1 a1 x1 o1 J wk => by
    obtain ⟨ds, src⟩ := p
    refine ⟨fun i k s' H' => k = ds.length - i ∧ i ≤ ds.length ∧ ∃ S' r' m', Aft (Cx.ct X) S1 H1 S' H' m' ∧ Sim (Cx.ct X) S' H' s' r' m' ∧ OutS (Cx.ct X) S' H' W (forD src ds g b (ds.drop i) r' m') Dn, ⟨ds.length, by simp, Nat.zero_le _, S1, r, m1, Aft.refl x1.ok, x1, o1⟩, ?_⟩
    rintro i k s2 H2 ⟨rfl, hi, S2, r2, m2, a2, x2, o2⟩
    by_cases hlt : i < ds.length
    · right
      rw [List.drop_eq_getElem_cons hlt] at o2
      have hd : ds[i]? = some ds[i] := List.getElem?_eq_getElem hlt
      simp only [forD] at o2
      split at o2
      · rename_i ok
        obtain ⟨go, yl⟩ := wk.go S2 H2 m2 a2 ok i _ hd
        refine ⟨go, fun s' H' => ∃ S' r' m', Aft (Cx.ct X) S1 H1 S' H' m' ∧ Sim (Cx.ct X) S' H' s' r' m' ∧ OutS (Cx.ct X) S' H' W (forD src ds g b (ds.drop (i + 1)) r' m') Dn, fun s' H' n => ⟨ds.length - (i + 1), by omega, rfl, hlt, n⟩, fun v H3 y => ?_⟩
        obtain ⟨a3, qv⟩ := yl v H3 y
        refine ⟨S2, r2, m2, ds[i], x2.aft a3, qv, ?_⟩
        cases eg : g ds[i] r2 m2 with
        | none => rw [eg] at o2; exact o2.elim
        | some z =>
          obtain ⟨r4, m4⟩ := z
          rw [eg] at o2
          intro s4 S4 H4 _ _ a4 x4
          refine ⟨S4, r4, m4, x4, ?_⟩
          have a14 := (a2.trans a3).trans a4
          have o4 := OutS.base (a3.trans a4) o2
          simp only at o4
          cases eb : b r4 m4 with
          | nx r5 m5 => rw [eb] at o4; exact fun s5 S5 H5 a5 x5 => ⟨S5, r5, m5, a14.trans a5, x5, OutS.base a5 o4⟩
          | ct r5 m5 => rw [eb] at o4; exact fun s5 S5 H5 a5 x5 => ⟨S5, r5, m5, a14.trans a5, x5, OutS.base a5 o4⟩
          | bk r5 m5 => rw [eb] at o4; exact fun s5 S5 H5 a5 x5 => o4 s5 S5 H5 a5 x5
          | rt d m5 => rw [eb] at o4; exact o4
          | err c fs r5 m5 => rw [eb] at o4; exact o4
          | bad => rw [eb] at o4; exact o4
      · exact o2.elim
    · left
      have e : i = ds.length := by omega
      subst e
      rw [List.drop_length] at o2
      simp only [forD] at o2
      split at o2
      · rename_i ok
        exact ⟨wk.stop S2 H2 m2 a2 ok, o2 s2 S2 H2 (Aft.refl x2.ok) x2⟩
      · exact o2.elim
end

/-! ### while -/
def whileN (t : MT) (b : MS) : Nat → MS
  | 0 => fun _ _ => .bad
  | n + 1 => fun r m => (t r m).thenS r fun c m1 => if c = true then (match b r m1 with
    | .nx r2 m2 => whileN t b n r2 m2
    | .ct r2 m2 => whileN t b n r2 m2
    | .bk r2 m2 => .nx r2 m2
    | .rt d m2 => .rt d m2
    | .err c fs r2 m2 => .err c fs r2 m2
    | .bad => .bad) else .nx r m1
theorem whileN_succ {t : MT} {b : MS} : ∀ {n : Nat} {r : Rho} {m : Mu}, whileN t b n r m ≠ .bad → whileN t b (n + 1) r m = whileN t b n r m
  | 0, r, m, h => (h rfl).elim
  | n + 1, r, m, h => by
    have ih := @whileN_succ t b n
    show (t r m).thenS r _ = (t r m).thenS r _
    have h' : (t r m).thenS r (fun c m1 => if c = true then (match b r m1 with
      | .nx r2 m2 => whileN t b n r2 m2
      | .ct r2 m2 => whileN t b n r2 m2
      | .bk r2 m2 => .nx r2 m2
      | .rt d m2 => .rt d m2
      | .err c fs r2 m2 => .err c fs r2 m2
      | .bad => .bad) else .nx r m1) ≠ .bad := h
    cases e : t r m with
    | ok c m1 =>
      rw [e] at h'
      simp only [Res.thenS_ok] at h' ⊢
      cases c with
      | false => rfl
      | true =>
        simp only [if_true] at h' ⊢
        cases eb : b r m1 with
        | nx r2 m2 => rw [eb] at h'; exact ih h'
        | ct r2 m2 => rw [eb] at h'; exact ih h'
        | _ => rfl
    | err c fs m1 => rfl
    | bad => rfl
theorem whileN_le {t : MT} {b : MS} {n k : Nat} {r : Rho} {m : Mu} (h : whileN t b n r m ≠ .bad) (hk : n ≤ k) : whileN t b k r m = whileN t b n r m := by
  induction k with
  | zero => have : n = 0 := by omega
            subst this; rfl
  | succ k ih =>
    by_cases hn : n = k + 1
    · subst hn; rfl
    · have e := ih (by omega)
      rw [← e]
      exact whileN_succ (by rw [e]; exact h)
open Classical in
noncomputable def sWhile (t : MT) (b : MS) : MS := fun r m => if h : ∃ n, whileN t b n r m ≠ .bad then whileN t b h.choose r m else .bad
theorem sWhile_of {t : MT} {b : MS} {n : Nat} {r : Rho} {m : Mu} (h : whileN t b n r m ≠ .bad) : sWhile t b r m = whileN t b n r m := by
  unfold sWhile
  have hx : ∃ n, whileN t b n r m ≠ .bad := ⟨n, h⟩
  rw [dif_pos hx]
  rcases Nat.le_total hx.choose n with hl | hl
  · exact (whileN_le hx.choose_spec hl).symm
  · exact whileN_le h hl
theorem sWhile_bad {t : MT} {b : MS} {r : Rho} {m : Mu} (h : ∀ n, whileN t b n r m = .bad) : sWhile t b r m = .bad := by
  unfold sWhile
  rw [dif_neg fun ⟨n, hn⟩ => hn (h n)]
/-- one turn -/
theorem sWhile_eq (t : MT) (b : MS) (r : Rho) (m : Mu) : sWhile t b r m = (t r m).thenS r fun c m1 => if c = true then (match b r m1 with
    | .nx r2 m2 => sWhile t b r2 m2
    | .ct r2 m2 => sWhile t b r2 m2
    | .bk r2 m2 => .nx r2 m2
    | .rt d m2 => .rt d m2
    | .err c fs r2 m2 => .err c fs r2 m2
    | .bad => .bad) else .nx r m1 := by
  have one : ∀ n, whileN t b (n + 1) r m = (t r m).thenS r fun c m1 => if c = true then (match b r m1 with
    | .nx r2 m2 => whileN t b n r2 m2
    | .ct r2 m2 => whileN t b n r2 m2
    | .bk r2 m2 => .nx r2 m2
    | .rt d m2 => .rt d m2
    | .err c fs r2 m2 => .err c fs r2 m2
    | .bad => .bad) else .nx r m1 := fun n => rfl
  have go : ∀ r2 m2, (∀ n, whileN t b (n + 1) r m = whileN t b n r2 m2) → sWhile t b r m = sWhile t b r2 m2 := fun r2 m2 h => by
    by_cases hx : ∃ n, whileN t b n r2 m2 ≠ .bad
    · obtain ⟨n, hn⟩ := hx
      rw [sWhile_of hn, sWhile_of (n := n + 1) (by rw [h]; exact hn), h]
    · have hb : ∀ n, whileN t b n r2 m2 = .bad := fun n => Classical.byContradiction fun z => hx ⟨n, z⟩
      rw [sWhile_bad hb, sWhile_bad fun n => ?_]
      cases n with
      | zero => rfl
      | succ n => rw [h, hb]
  have st : ∀ x, (∀ n, whileN t b (n + 1) r m = x) → sWhile t b r m = x := fun x h => by
    by_cases hx : x = .bad
    · subst hx
      refine sWhile_bad fun n => ?_
      cases n with
      | zero => rfl
      | succ n => exact h n
    · rw [sWhile_of (n := 1) (by rw [h]; exact hx), h]
  cases e : t r m with
  | ok c m1 =>
    simp only [Res.thenS_ok]
    cases c with
    | false => exact st _ fun n => by rw [one, e]; rfl
    | true =>
      simp only [if_true]
      cases eb : b r m1 with
      | nx r2 m2 => exact go r2 m2 fun n => by rw [one, e]; simp only [Res.thenS_ok, if_true, eb]
      | ct r2 m2 => exact go r2 m2 fun n => by rw [one, e]; simp only [Res.thenS_ok, if_true, eb]
      | bk r2 m2 => exact st _ fun n => by rw [one, e]; simp only [Res.thenS_ok, if_true, eb]
      | rt d m2 => exact st _ fun n => by rw [one, e]; simp only [Res.thenS_ok, if_true, eb]
      | err c fs r2 m2 => exact st _ fun n => by rw [one, e]; simp only [Res.thenS_ok, if_true, eb]
      | bad => exact st _ fun n => by rw [one, e]; simp only [Res.thenS_ok, if_true, eb]
  | err c fs m1 => exact st _ fun n => by rw [one, e]; rfl
  | bad => exact st _ fun n => by rw [one, e]; rfl
theorem is_while {X : Cx} {W : WX} {st : Stmt} {t : MT} {b : MS} (h : PS X st (tWhile (LfT (Cx.ct X) W t) (LfS (Cx.ct X) W b))) : IS X W st (sWhile t b) := ps_imp h fun Dn s H ⟨S, r, m, x, o⟩ => by
  by_cases hx : ∃ n, whileN t b n r m ≠ .bad
  · obtain ⟨n, hn⟩ := hx
    rw [sWhile_of hn] at o
    refine ⟨fun n s H => ∃ S r m, Sim (Cx.ct X) S H s r m ∧ OutS (Cx.ct X) S H W (whileN t b n r m) Dn, ⟨n, S, r, m, x, o⟩, ?_⟩
    rintro n s1 H1 ⟨S1, r1, m1, x1, o1⟩
    cases n with
    | zero => exact (show False from o1).elim
    | succ n =>
      refine lft_ofS x1 o1 fun c S2 H2 m2 a2 x2 o2 => ?_
      cases c with
      | false => exact o2 s1 S2 H2 (Aft.refl x2.ok) x2
      | true =>
        simp only [if_true] at o2 ⊢
        refine ⟨fun s H => ∃ S r m, Sim (Cx.ct X) S H s r m ∧ OutS (Cx.ct X) S H W (whileN t b n r m) Dn, fun s' H' q => ⟨n, Nat.lt_succ_self _, q⟩, S2, r1, m2, x2, ?_⟩
        cases eb : b r1 m2 with
        | nx r5 m5 => rw [eb] at o2; exact fun s5 S5 H5 a5 x5 => ⟨S5, r5, m5, x5, OutS.base a5 o2⟩
        | ct r5 m5 => rw [eb] at o2; exact fun s5 S5 H5 a5 x5 => ⟨S5, r5, m5, x5, OutS.base a5 o2⟩
        | bk r5 m5 => rw [eb] at o2; exact fun s5 S5 H5 a5 x5 => o2 s5 S5 H5 a5 x5
        | rt d m5 => rw [eb] at o2; exact o2
        | err c fs r5 m5 => rw [eb] at o2; exact o2
        | bad => rw [eb] at o2; exact o2
  · rw [sWhile_bad fun n => Classical.byContradiction fun z => hx ⟨n, z⟩] at o
    exact o.elim

/-! ### leaving out new open lists -/
mutual
theorem Rp.less {G : Ct} {S T : List Addr} {H : Hp} : ∀ {v : V} {d : D}, Rp G (S ++ T) H v d → d.old S.length = true → Rp G S H v d
  | _, _, .non, _ => .non
  | _, _, .bl b, _ => .bl b
  | _, _, .int i, _ => .int i
  | _, _, .str x, _ => .str x
  | _, _, .ty n, _ => .ty n
  | _, _, .tup h r, ho => .tup h (RpA.less r (by simpa only [D.old] using ho))
  | _, _, .lst n h r, ho => .lst (fun z => n (List.mem_append_left _ z)) h (RpA.less r (by simpa only [D.old] using ho))
  | _, _, .rol h r, ho => .rol h (RpA.less r (by simpa only [D.old] using ho))
  | _, _, .loc h, ho => .loc (by
      simp only [D.old, decide_eq_true_eq] at ho
      rw [List.getElem?_append_left ho] at h
      exact h)
  | _, _, .ins n g h r, ho => .ins (fun z => n (List.mem_append_left _ z)) g h (RpF.less r (by simpa only [D.old] using ho))
  | _, _, .dct n h r, ho => .dct (fun z => n (List.mem_append_left _ z)) h (RpK.less r (by simpa only [D.old] using ho))
theorem RpA.less {G : Ct} {S T : List Addr} {H : Hp} : ∀ {v : List V} {d : List D}, RpA G (S ++ T) H v d → oldA S.length d = true → RpA G S H v d
  | _, _, .nil, _ => .nil
  | _, _, .cons h r, ho => by
    simp only [oldA, Bool.and_eq_true] at ho
    exact .cons (Rp.less h ho.1) (RpA.less r ho.2)
theorem RpF.less {G : Ct} {S T : List Addr} {H : Hp} : ∀ {v : List (Str × V)} {d : List (Str × D)}, RpF G (S ++ T) H v d → oldF S.length d = true → RpF G S H v d
  | _, _, .nil, _ => .nil
  | _, _, .cons h r, ho => by
    simp only [oldF, Bool.and_eq_true] at ho
    exact .cons (Rp.less h ho.1) (RpF.less r ho.2)
theorem RpK.less {G : Ct} {S T : List Addr} {H : Hp} : ∀ {v : List (Key × V)} {d : List (Key × D)}, RpK G (S ++ T) H v d → oldK S.length d = true → RpK G S H v d
  | _, _, .nil, _ => .nil
  | _, _, .cons h r, ho => by
    simp only [oldK, Bool.and_eq_true] at ho
    exact .cons (Rp.less h ho.1) (RpK.less r ho.2)
end
mutual
theorem D.old_mono {n k : Nat} (h : n ≤ k) : ∀ {d : D}, d.old n = true → d.old k = true
  | .non, _ => rfl
  | .bl _, _ => rfl
  | .int _, _ => rfl
  | .str _, _ => rfl
  | .ty _, _ => rfl
  | .loc m, q => by simp only [D.old, decide_eq_true_eq] at q ⊢; omega
  | .tup xs, q => by simp only [D.old] at q ⊢; exact oldA_mono h q
  | .lst xs, q => by simp only [D.old] at q ⊢; exact oldA_mono h q
  | .rol xs, q => by simp only [D.old] at q ⊢; exact oldA_mono h q
  | .ins _ fs, q => by simp only [D.old] at q ⊢; exact oldF_mono h q
  | .dct fs, q => by simp only [D.old] at q ⊢; exact oldK_mono h q
theorem oldA_mono {n k : Nat} (h : n ≤ k) : ∀ {d : List D}, oldA n d = true → oldA k d = true
  | [], _ => rfl
  | d :: ds, q => by
    simp only [oldA, Bool.and_eq_true] at q ⊢
    exact ⟨D.old_mono h q.1, oldA_mono h q.2⟩
theorem oldF_mono {n k : Nat} (h : n ≤ k) : ∀ {d : List (Str × D)}, oldF n d = true → oldF k d = true
  | [], _ => rfl
  | (_, d) :: ds, q => by
    simp only [oldF, Bool.and_eq_true] at q ⊢
    exact ⟨D.old_mono h q.1, oldF_mono h q.2⟩
theorem oldK_mono {n k : Nat} (h : n ≤ k) : ∀ {d : List (Key × D)}, oldK n d = true → oldK k d = true
  | [], _ => rfl
  | (_, d) :: ds, q => by
    simp only [oldK, Bool.and_eq_true] at q ⊢
    exact ⟨D.old_mono h q.1, oldK_mono h q.2⟩
end
theorem StOk.less {G : Ct} {S T : List Addr} {H : Hp} {m : Mu} (k : StOk G (S ++ T) H m) : StOk G S H (m.take S.length) := by
  have hl := k.len
  rw [List.length_append] at hl
  refine ⟨(List.nodup_append.mp k.nd).1, by rw [List.length_take]; omega, fun n a c h1 h2 => ?_⟩
  have hn : n < S.length := (List.getElem?_eq_some_iff.mp h1).1
  rw [List.getElem?_take_of_lt hn] at h2
  obtain ⟨b, xs, e, q⟩ := k.at_ n a c (by rw [List.getElem?_append_left hn]; exact h1) h2
  exact ⟨b, xs, e, q.less (oldA_mono (Nat.le_of_lt hn) b)⟩
theorem Aft.less {G : Ct} {S T : List Addr} {H H' : Hp} {m : Mu} (a : Aft G S H (S ++ T) H' m) : Aft G S H S H' (m.take S.length) :=
  ⟨⟨[], by simp, fun _ z => nomatch z⟩, a.keep, a.ok.less⟩

/-! ### comprehensions -/
def Res.safe {A : Type} (x : Res A) : Res A := match x with
  | .err _ _ _ => .bad
  | x => x
@[simp] theorem Res.safe_ok {A : Type} (a : A) (m : Mu) : (Res.ok a m).safe = .ok a m := rfl
@[simp] theorem Res.safe_err {A : Type} (c : Str) (fs : List (Str × D)) (m : Mu) : (Res.err c fs m : Res A).safe = .bad := rfl
@[simp] theorem Res.safe_bad {A : Type} : (Res.bad : Res A).safe = .bad := rfl
abbrev W0 : WX := fun _ _ _ _ => False
section
variable {G : Ct} {W : WX} {S : List Addr} {H : Hp} {s : L2.St} {r : Rho} {m : Mu} {E : XK}
theorem lfe_ofB {A : Type} {f : ME} {g : D → Mu → Res A} {Q : A → List Addr → Hp → Mu → Prop} {R : VK} (x : Sim G S H s r m) (o : OutG G S H E ((f r m).safe.bind g) Q)
    (h : ∀ (d : D) (v : V) (S' : List Addr) (H' : Hp) (m' : Mu), Aft G S H S' H' m' → Sim G S' H' s r m' → Rp G S' H' v d → OutG G S' H' E (g d m') Q → R v H') : LfE G W f s H R := by
  refine ⟨S, r, m, x, ?_⟩
  cases e : f r m with
  | ok d m' =>
    rw [e] at o
    exact fun S' H' a v q => h d v S' H' m' a (x.aft a) q (OutG.base a o)
  | err c fs m' => rw [e] at o; exact o.elim
  | bad => rw [e] at o; exact o.elim
theorem lft_ofB {A : Type} {f : MT} {g : Bool → Mu → Res A} {Q : A → List Addr → Hp → Mu → Prop} {R : Bool → Hp → Prop} (x : Sim G S H s r m) (o : OutG G S H E ((f r m).safe.bind g) Q)
    (h : ∀ (b : Bool) (S' : List Addr) (H' : Hp) (m' : Mu), Aft G S H S' H' m' → Sim G S' H' s r m' → OutG G S' H' E (g b m') Q → R b H') : LfT G W f s H R := by
  refine ⟨S, r, m, x, ?_⟩
  cases e : f r m with
  | ok d m' =>
    rw [e] at o
    exact fun S' H' a => h d S' H' m' a (x.aft a) (OutG.base a o)
  | err c fs m' => rw [e] at o; exact o.elim
  | bad => rw [e] at o; exact o.elim
end
def wipeR (r : Rho) : List Nat → Rho
  | [] => r
  | v :: vs => (wipeR r vs).set v none
theorem Sim.wipe {G : Ct} {S : List Addr} {H : Hp} {s : L2.St} {r : Rho} {m : Mu} (x : Sim G S H s r m) : ∀ vs : List Nat, Sim G S H (wipe s vs) (wipeR r vs) m
  | [] => x
  | v :: vs => (x.wipe vs).forget v none
theorem wipe_same {s s' : L2.St} : ∀ {vs : List Nat}, s'.length = s.length → (∀ j, j ∉ vs → s'[j]? = s[j]?) → wipe s' vs = wipe s vs := fun {vs} hl h => by
  have at_ : ∀ (s : L2.St) (vs : List Nat) (j : Nat), (wipe s vs)[j]? = if j ∈ vs then (if j < s.length then some none else none) else s[j]? := by
    intro s vs j
    induction vs with
    | nil => simp [wipe]
    | cons v vs ih =>
      unfold wipe
      by_cases hj : v = j
      · subst hj
        rw [if_pos List.mem_cons_self]
        by_cases hlt : v < s.length
        · rw [if_pos hlt, List.getElem?_set_self (by rw [wipe_length]; exact hlt)]
        · rw [if_neg hlt, List.getElem?_eq_none (by rw [List.length_set, wipe_length]; omega)]
      · rw [List.getElem?_set_ne hj, ih]
        by_cases hm : j ∈ vs
        · rw [if_pos hm, if_pos (List.mem_cons_of_mem _ hm)]
        · rw [if_neg hm, if_neg (fun z => (List.mem_cons.mp z).elim (fun e => hj e.symm) hm)]
  refine List.ext_getElem? fun j => ?_
  rw [at_, at_, hl]
  by_cases hm : j ∈ vs
  · rw [if_pos hm, if_pos hm]
  · rw [if_neg hm, if_neg hm, h j hm]
theorem wipe_wipe (s : L2.St) (vs : List Nat) : wipe (wipe s vs) vs = wipe s vs := wipe_same (wipe_length s vs) fun j hj => wipe_out hj
open Classical in
/-- the turns of a comprehension: the new list is the open list n -/
noncomputable def lcD (src : Option Nat) (all : List D) (g : MG) (t : MT) (e : ME) (r : Rho) (n : Nat) : List D → Mu → Res Unit
  | [], m => if okSrc src all m then .ok () m else .bad
  | d :: ds, m => if okSrc src all m then (match g d r m with
    | none => .bad
    | some x => (t x.1 x.2).safe.bind fun b m2 => if b = true then (e x.1 m2).safe.bind fun y m3 => (match m3[n]? with
        | some c => if c.length < sizeLine ∧ y.old n = true then lcD src all g t e r n ds (m3.set n (c ++ [y])) else .bad
        | none => .bad)
      else lcD src all g t e r n ds m2) else .bad
/-- the new list is closed -/
def lcEnd (n : Nat) (m : Mu) : Res D := match m[n]? with
  | some c => if m.length = n + 1 then .ok (.lst c) (m.take n) else .bad
  | none => .bad
noncomputable def iLc (it : MI) (vs : List Nat) (g : MG) (t : MT) (e : ME) : ME := fun r m => (it r m).bind fun p m1 =>
  (lcD p.2 p.1 g t e (wipeR r vs) m1.length p.1 (m1 ++ [[]])).bind fun _ m2 => lcEnd m1.length m2
def tYesM : MT := fun _ m => .ok true m
theorem tYes_of {X : Cx} {W : WX} : ∀ s H Q, LfT (Cx.ct X) W tYesM s H Q → tYes s H Q := fun s H Q ⟨S, r, m, x, o⟩ => o S H (Aft.refl x.ok)
theorem lf_lc {X : Cx} {W W1 : WX} {it : MI} {vs ts : List Nat} {g : MG} {t : MT} {e : ME} (hts : ∀ i ∈ ts, i ∈ vs) : ∀ s H Q, LfE (Cx.ct X) W (iLc it vs g t e) s H Q →
    tLc (LfI (Cx.ct X) W it) (LfG (Cx.ct X) ts g) (LfT (Cx.ct X) W1 t) (LfE (Cx.ct X) W1 e) vs s H Q := fun s H Q ⟨S, r, m, x, o⟩ => lfi_of x o fun p S1 H1 m1 a1 x1 o1 J wk Dl hD => by
  obtain ⟨ds, src⟩ := p
  simp only at o1 wk
  have aP : Aft (Cx.ct X) S1 H1 (S1 ++ [Dl]) (upd H1 Dl (.lst [])) (m1 ++ [[]]) := Aft.push x1.ok hD .nil rfl
  have xP : Sim (Cx.ct X) (S1 ++ [Dl]) (upd H1 Dl (.lst [])) (wipe s vs) (wipeR r vs) (m1 ++ [[]]) := (x1.aft aP).wipe vs
  have oP : OutG (Cx.ct X) (S1 ++ [Dl]) (upd H1 Dl (.lst [])) (fun c d H' => W c d s H') (lcD src ds g t e (wipeR r vs) m1.length ds (m1 ++ [[]])) fun _ S' H' m' => Aft (Cx.ct X) S1 H1 S' H' m' → Q (.ref Dl) H' := by
    have o2 := OutG.bind o1
    cases ee : lcD src ds g t e (wipeR r vs) m1.length ds (m1 ++ [[]]) with
    | err c fs m2 =>
      rw [ee] at o2
      exact fun C dx gs S2 H2 b => o2 C dx gs S2 H2 (aP.trans b)
    | bad => rw [ee] at o2; exact o2
    | ok u m2 =>
      rw [ee] at o1
      intro S' H' a' aa
      have o3 : OutE (Cx.ct X) S1 H1 (fun c d H' => W c d s H') (lcEnd m1.length m2) Q := o1
      unfold lcEnd at o3
      split at o3
      · rename_i c hc
        split at o3
        · rename_i hl
          obtain ⟨T, eT, _⟩ := a'.more
          have hT : T = [] := by
            have h1 := a'.ok.len
            rw [eT, List.length_append, List.length_append, List.length_singleton, x1.ok.len] at h1
            exact List.eq_nil_of_length_eq_zero (by omega)
          subst hT
          rw [List.append_nil] at eT
          subst eT
          have hDn : (S1 ++ [Dl])[m1.length]? = some Dl := by rw [← x1.ok.len]; simp
          obtain ⟨ho, xs, e1, q⟩ := a'.ok.at_ m1.length Dl c hDn hc
          have aL := aa.less
          rw [x1.ok.len] at aL
          refine o3 S1 H' aL _ (.lst (not_opn x1.ok hD) e1 (q.less (by rw [x1.ok.len]; exact ho)))
        · exact o3.elim
      · exact o3.elim
  refine ⟨fun i k H' => k = ds.length - i ∧ i ≤ ds.length ∧ ∃ S' m', Aft (Cx.ct X) (S1 ++ [Dl]) (upd H1 Dl (.lst [])) S' H' m' ∧ OutG (Cx.ct X) S' H' (fun c d H' => W c d s H') (lcD src ds g t e (wipeR r vs) m1.length (ds.drop i) m') fun _ S' H' m' => Aft (Cx.ct X) S1 H1 S' H' m' → Q (.ref Dl) H', ⟨ds.length, by simp, Nat.zero_le _, _, _, Aft.refl xP.ok, oP⟩, ?_⟩
  rintro i k H2 ⟨rfl, hi, S2, m2, a2, o2⟩
  have a12 := aP.trans a2
  by_cases hlt : i < ds.length
  · right
    rw [List.drop_eq_getElem_cons hlt] at o2
    have hd : ds[i]? = some ds[i] := List.getElem?_eq_getElem hlt
    simp only [lcD] at o2
    split at o2
    · rename_i ok
      obtain ⟨go, yl⟩ := wk.go S2 H2 m2 a12 ok i _ hd
      refine ⟨go, fun H' => ∃ S' m', Aft (Cx.ct X) (S1 ++ [Dl]) (upd H1 Dl (.lst [])) S' H' m' ∧ OutG (Cx.ct X) S' H' (fun c d H' => W c d s H') (lcD src ds g t e (wipeR r vs) m1.length (ds.drop (i + 1)) m') fun _ S' H' m' => Aft (Cx.ct X) S1 H1 S' H' m' → Q (.ref Dl) H', fun H' n => ⟨ds.length - (i + 1), by omega, rfl, hlt, n⟩, fun v H3 y => ?_⟩
      obtain ⟨a3, qv⟩ := yl v H3 y
      refine ⟨S2, wipeR r vs, m2, ds[i], (xP.aft a2).aft a3, qv, ?_⟩
      cases eg : g ds[i] (wipeR r vs) m2 with
      | none => rw [eg] at o2; exact o2.elim
      | some z =>
        obtain ⟨r4, m4⟩ := z
        rw [eg] at o2
        intro s4 S4 H4 hl4 hk4 a4 x4
        refine ⟨by rw [← wipe_wipe s vs]; exact wipe_same hl4 fun j hj => hk4 j fun z => hj (hts j z), ?_⟩
        have a24 := (a2.trans a3).trans a4
        have o4 := OutG.base (a3.trans a4) o2
        simp only at o4
        refine lft_ofB x4 o4 fun b S5 H5 m5 a5 x5 o5 => ?_
        cases b with
        | false => exact ⟨S5, m5, a24.trans a5, o5⟩
        | true =>
          refine lfe_ofB x5 o5 fun d v6 S6 H6 m6 a6 x6 q6 o6 => ?_
          have a26 := (a24.trans a5).trans a6
          obtain ⟨T, eT, _⟩ := a26.more
          have hDn : S6[m1.length]? = some Dl := by
            rw [eT, ← x1.ok.len]
            simp
          split at o6
          · rename_i c hc
            obtain ⟨ho, xs, e1, q⟩ := x6.ok.at_ m1.length Dl c hDn hc
            split at o6
            · rename_i hcc
              have aq := Aft.put x6.ok hDn (q.append (.cons q6 .nil)) (oldA_app ho (by simp [oldA, hcc.2]))
              exact ⟨xs, e1, by rw [q.length]; exact hcc.1, S6, _, a26.trans aq, OutG.base aq o6⟩
            · exact o6.elim
          · exact o6.elim
    · exact o2.elim
  · left
    have ei : i = ds.length := by omega
    subst ei
    rw [List.drop_length] at o2
    simp only [lcD] at o2
    split at o2
    · rename_i ok
      exact ⟨wk.stop S2 H2 m2 a12 ok, o2 S2 H2 (Aft.refl a2.ok) a12⟩
    · exact o2.elim

/-! ### defs -/
/-- what is handed back: an open list of the def's own is closed -/
def giveD (n : Nat) (d : D) (m : Mu) : Res D := if d.old n = true then .ok d (m.take n) else match d with
  | .loc k => match m[k]? with
    | some c => if oldA n c = true then .ok (.lst c) (m.take n) else .bad
    | none => .bad
  | _ => .bad
def enter (k : Nat) (ds : List D) : Rho := ds.map some ++ List.replicate (k - ds.length) none
/-- a def of n parameters, k names: its new open lists are closed or left -/
def clo (n k : Nat) (b : MS) : DA := fun ds m => if ds.length = n then (match b (enter k ds) m with
  | .rt d m1 => giveD m.length d m1
  | .nx _ m1 => .ok .non (m1.take m.length)
  | .err c fs _ m1 => if oldF m.length fs = true then .err c fs (m1.take m.length) else .bad
  | _ => .bad) else .bad
/-- .. its new open lists stay open -/
def opn (n k : Nat) (b : MS) : DA := fun ds m => if ds.length = n then (match b (enter k ds) m with
  | .rt d m1 => .ok d m1
  | .nx _ m1 => .ok .non m1
  | _ => .bad) else .bad
theorem sim_enter {G : Ct} {S : List Addr} {H : Hp} {m : Mu} {vs : List V} {ds : List D} {N : List Str} (k : StOk G S H m) (q : RpA G S H vs ds) : Sim G S H (L2.start N vs) (enter N.length ds) m := by
  refine ⟨k, ?_, fun i d h => ?_⟩
  · unfold enter L2.start
    rw [List.length_append, List.length_append, List.length_map, List.length_map, List.length_replicate, List.length_replicate, q.length]
  · unfold enter at h
    unfold L2.start
    by_cases hi : i < ds.length
    · rw [List.getElem?_append_left (by rw [List.length_map]; exact hi), List.getElem?_map, Option.map_eq_some_iff] at h
      obtain ⟨e, he, hh⟩ := h
      cases hh
      obtain ⟨v, hv, r⟩ := q.get he
      exact ⟨v, by rw [List.getElem?_append_left (by rw [List.length_map, q.length]; exact hi), List.getElem?_map, hv]; rfl, r⟩
    · rw [List.getElem?_append_right (by rw [List.length_map]; omega)] at h
      have := List.mem_of_getElem? h
      have := (List.mem_replicate.mp this).2
      cases this
theorem out_give {G : Ct} {S S' : List Addr} {H H' : Hp} {m m1 : Mu} {d : D} {v : V} {E : XK} {Q : VK} (k : StOk G S H m) (a : Aft G S H S' H' m1) (r : Rp G S' H' v d) (o : OutE G S H E (giveD m.length d m1) Q) : Q v H' := by
  obtain ⟨T, e, _⟩ := a.more
  subst e
  unfold giveD at o
  have aL := a.less
  rw [k.len] at aL
  split at o
  · rename_i ho
    exact o S H' aL v (r.less (by rw [k.len]; exact ho))
  · cases r with
    | @loc n b hn =>
      rename_i ho
      simp only at o
      split at o
      · rename_i c hc
        split at o
        · rename_i hoc
          obtain ⟨_, xs, e1, q⟩ := a.ok.at_ _ _ c hn hc
          refine o S H' aL _ (.lst (fun z => ?_) e1 (q.less (by rw [k.len]; exact hoc)))
          obtain ⟨j, hj⟩ := List.getElem?_of_mem z
          have hjl := (List.getElem?_eq_some_iff.mp hj).1
          have hj2 : (S ++ T)[j]? = some b := by rw [List.getElem?_append_left hjl]; exact hj
          have := Aft.put.nodup_ix' a.ok.nd hn hj2
          simp only [D.old, decide_eq_true_eq] at ho
          rw [k.len] at hjl
          omega
        · exact o.elim
      · exact o.elim
    | _ => exact o.elim
theorem RpF.less' {G : Ct} {S T : List Addr} {H : Hp} {v : List (Str × V)} {d : List (Str × D)} (r : RpF G (S ++ T) H v d) (h : oldF S.length d = true) : RpF G S H v d := r.less h
section
variable {P : Program} {w : World} {K : PySem.W.Frag} {mg : Str → Option Value} {base : Heap} {x qual : Str} {st : Stmt} {f : Addr} {fd : FuncData} {N ps : List Str} {k : Nat} {b : MS}
theorem def_clo (F : Fun K x qual st f fd) (Sc : FnScope N ps (defScope st))
    (hb : ∀ (cdv : Value) (A : Around) (outer : List Env) (s : Shared) (H : Hp) (E : XK), Room k (A.deeper (envOfC qual (defScope st) s.heap.objs.size f cdv)) → Takes (cxOf (L2.CX P w) P w K mg base N qual (defScope st) f cdv A outer s H E) (fun c d _ H => E c d H) →
      ISs (cxOf (L2.CX P w) P w K mg base N qual (defScope st) f cdv A outer s H E) (fun c d _ H => E c d H) (defBody st) b) :
    FnOk P w K mg base (L2.CX P w) (k + 1) f fd ps (SpI ⟨K, mg⟩ (clo ps.length N.length b)) := by
  refine F.okX Sc (fun vs H Q E h => ?_) (fun cdv A outer s H vs Q E hr h => ?_)
  · obtain ⟨S, m, ds, kk, q, o⟩ := h
    unfold clo at o
    split at o
    · rename_i hl
      rw [q.length]; exact hl
    · exact o.elim
  · obtain ⟨S, m, ds, kk, q, o⟩ := h
    have tk : Takes (cxOf (L2.CX P w) P w K mg base N qual (defScope st) f cdv A outer s H E) (fun c d _ H => E c d H) := takes_of rfl rfl rfl rfl
    refine ⟨_, hb cdv A outer s H E hr tk, ?_⟩
    refine ⟨S, enter N.length ds, m, sim_enter kk q, ?_⟩
    unfold clo at o
    split at o
    · cases e : b (enter N.length ds) m with
      | rt d m1 =>
        rw [e] at o
        exact fun v S' H' a r => out_give kk a r o
      | nx r1 m1 =>
        rw [e] at o
        intro s' S' H' a x
        obtain ⟨T, eT, _⟩ := a.more
        subst eT
        have aL := a.less
        rw [kk.len] at aL
        exact o S H' aL _ .non
      | err c fs r1 m1 =>
        rw [e] at o
        simp only at o
        split at o
        · rename_i ho
          intro C dx gs s' S' H' a x h1 h2 h3
          obtain ⟨T, eT, _⟩ := a.more
          subst eT
          have aL := a.less
          rw [kk.len] at aL
          exact o C dx gs S H' aL h1 h2 (h3.less (by rw [kk.len]; exact ho))
        · exact o.elim
      | bk _ _ => rw [e] at o; exact o.elim
      | ct _ _ => rw [e] at o; exact o.elim
      | bad => rw [e] at o; exact o.elim
    · exact o.elim
theorem def_opn (F : Fun K x qual st f fd) (Sc : FnScope N ps (defScope st))
    (hb : ∀ (cdv : Value) (A : Around) (outer : List Env) (s : Shared) (H : Hp) (E : XK), Room k (A.deeper (envOfC qual (defScope st) s.heap.objs.size f cdv)) → Takes (cxOf (L2.CX P w) P w K mg base N qual (defScope st) f cdv A outer s H E) (fun c d _ H => E c d H) →
      ISs (cxOf (L2.CX P w) P w K mg base N qual (defScope st) f cdv A outer s H E) (fun c d _ H => E c d H) (defBody st) b) :
    FnOk P w K mg base (L2.CX P w) (k + 1) f fd ps (SpI ⟨K, mg⟩ (opn ps.length N.length b)) := by
  refine F.okX Sc (fun vs H Q E h => ?_) (fun cdv A outer s H vs Q E hr h => ?_)
  · obtain ⟨S, m, ds, kk, q, o⟩ := h
    unfold opn at o
    split at o
    · rename_i hl
      rw [q.length]; exact hl
    · exact o.elim
  · obtain ⟨S, m, ds, kk, q, o⟩ := h
    have tk : Takes (cxOf (L2.CX P w) P w K mg base N qual (defScope st) f cdv A outer s H E) (fun c d _ H => E c d H) := takes_of rfl rfl rfl rfl
    refine ⟨_, hb cdv A outer s H E hr tk, ?_⟩
    refine ⟨S, enter N.length ds, m, sim_enter kk q, ?_⟩
    unfold opn at o
    split at o
    · cases e : b (enter N.length ds) m with
      | rt d m1 =>
        rw [e] at o
        exact fun v S' H' a r => o S' H' a v r
      | nx r1 m1 =>
        rw [e] at o
        exact fun s' S' H' a x => o S' H' a _ .non
      | err c fs r1 m1 => rw [e] at o; exact o.elim
      | bk _ _ => rw [e] at o; exact o.elim
      | ct _ _ => rw [e] at o; exact o.elim
      | bad => rw [e] at o; exact o.elim
    · exact o.elim
end
end Mr

/-! Mr6: errors: own classes over ValueError whose __init__ calls super().__init__(text) and keeps one field -/
namespace PySem
namespace SupX
open PySem.W PySem.Calls PyProof.Rows PySem.HandSPX
def supA (fld : Str) (p1 p2 : Pos) : Arguments := { posonlyargs := [], args := [{ arg := "self", annotation := none, pos := p1 }, { arg := fld, annotation := none, pos := p2 }], vararg := none, kwonlyargs := [], kw_defaults := [], kwarg := none, defaults := [] }
def supB (fld txt : Str) (a0 a1 a2 a3 a4 a5 q1 q2 q3 q4 : Pos) : List Stmt := [.Expr (.Call (.Attribute (.Call (.Name "super" a0) [] [] a1) "__init__" a2) [.Constant (.str txt) 0 a3] [] a4) a5, .Assign [.Attribute (.Name "self" q1) fld q2] (.Name fld q3) q4]
def supS (fld : Str) : Scope := { kind := .function, names := [(PySem.Str.ofString "self", .local), (fld, .local), (PySem.Str.ofString "__class__", .free), (PySem.Str.ofString "super", .globalImplicit)], isGenerator := false, isCoroutine := false, more := [] }
/-- what the written part says of the class c, at C, and of its __init__, at fI -/
structure SupTxt (prog : Program) (K : Frag) (mg : Str → Option Value) (c fld : Str) (C fI : Addr) : Prop where
  gC : mg c = some (.ref C)
  cls : ∃ nm q N bs bm sn sub ab col dd k0 k1 k2 k3 k5, K.lookup C = some (excClassObj nm q C N bs bm true sn sub ab col dd k0 k1 k2 k3 k5 "ValueError.__new__") ∧ refsVE bm = true ∧ alongIn K "__init__" (((Value.ref C :: bm).dropWhile (· != .ref C)).drop 1) = some (some (.builtin "ValueError.__init__"))
  sa : findIn K (.ref C) "__setattr__" = some (some (.builtin "object.__setattr__"))
  noN : findIn K (.ref C) fld = some none
  iC : findIn K (.ref C) "__init__" = some (some (.ref fI))
  tC : typeIn K (.ref fI) = some (.type "function")
  kC : keepIn K (.ref C) = true
  exC : subIn K (.ref C) (.type "BaseException") = some true
  veC : subIn K (.ref C) (.type "ValueError") = some true
  tyC : typeIn K (.ref C) = some (.type "type")
  meC : mroIn K C (.ref C) = some true
  stat : nsIn K cStatics "thirdparty.any" = some none
  sup : mg "super" = none
  top : (prog.main.scope.names.lookup ("super" : Str)).isSome = false
  fne : (fld == ("self" : Str)) = false
  fld_ : (fld == ("__debug__" : Str)) = false
  fcl : (fld == ("__class__" : Str)) = false
  fsu : (fld == ("super" : Str)) = false
  fn : ∃ (oc : Value) (od : Option Addr) (doc pm ct : Value) (an : Option Addr) (cda cc : Addr) (osl : Array (Option Value)) (txt qual : Str) (p1 p2 a0 a1 a2 a3 a4 a5 q1 q2 q3 q4 : Pos) (ccl cl : Value) (cdd cld : Option Addr) (vs : Array Value) (ccs csl : Array (Option Value)) (file : Str) (tf : Tok),
    K.lookup fI = some ⟨oc, od, .func (ksFn "__init__" qual (supA fld p1 p2) (supB fld txt a0 a1 a2 a3 a4 a5 q1 q2 q3 q4) (supS fld) .none .none doc pm an (.ref cda) ct cc), osl⟩ ∧ codeIn K (.ref cda) qual = true ∧
    (∀ x v : Value, bindArgs (ksFn "__init__" qual (supA fld p1 p2) (supB fld txt a0 a1 a2 a3 a4 a5 q1 q2 q3 q4) (supS fld) .none .none doc pm an (.ref cda) ct cc) ⟨[x, v], []⟩ = pure [(PySem.Str.ofString "self", x), (fld, v)]) ∧
    (∃ pl : Sem Bool, ∀ L : Addr, eval (.Call (.Attribute (.Call (.Name "super" a0) [] [] a1) "__init__" a2) [.Constant (.str txt) 0 a3] [] a4) (callEnv (ksFn "__init__" qual (supA fld p1 p2) (supB fld txt a0 a1 a2 a3 a4 a5 q1 q2 q3 q4) (supS fld) .none .none doc pm an (.ref cda) ct cc) L fI) = (do
      let ov ← attributeBase (.Call (.Name "super" a0) [] [] a1) "__init__" (callEnv (ksFn "__init__" qual (supA fld p1 p2) (supB fld txt a0 a1 a2 a3 a4 a5 q1 q2 q3 q4) (supS fld) .none .none doc pm an (.ref cda) ct cc) L fI) (eval (.Call (.Name "super" a0) [] [] a1) (callEnv (ksFn "__init__" qual (supA fld p1 p2) (supB fld txt a0 a1 a2 a3 a4 a5 q1 q2 q3 q4) (supS fld) .none .none doc pm an (.ref cda) ct cc) L fI))
      standAt a2.atName
      let (f, first) ← holding [ov] (getMethod ov "__init__" pl)
      callWith a4 f first (backTo a4 (starEach [.Constant (.str txt) 0 a3] (callEnv (ksFn "__init__" qual (supA fld p1 p2) (supB fld txt a0 a1 a2 a3 a4 a5 q1 q2 q3 q4) (supS fld) .none .none doc pm an (.ref cda) ct cc) L fI))) [])) ∧
    K.lookup cda = some ⟨ccl, cdd, .fields vs, ccs⟩ ∧ vs[2]? = some (.str file tf) ∧ ((prog.main.file : Str) == file) = true ∧ K.lookup cc = some ⟨cl, cld, .cell (some (.ref C)), csl⟩
structure InitEnd (fld : Str) (h h' : Heap) (x C dx : Addr) (v : Value) : Prop where
  keep : ∀ b o, b ≠ x → h.get? b = some o → h'.get? b = some o
  obj : ∃ t1, h'.get? x = some { cls := .ref C, dict := some dx, data := .fields #[.ref t1, .none, .none, .none, .bool false, .none] }
  dbig : h.objs.size ≤ dx
  dne : dx ≠ x
  ns : h'.Ns1 dx (fun y => if y = fld then some v else none)
structure OwnMade (fld : Str) (h h' : Heap) (e C d : Addr) (v : Value) : Prop where
  keep : ∀ b o, h.get? b = some o → h'.get? b = some o
  new : h.objs.size ≤ e
  obj : ∃ oe vs, h'.get? e = some oe ∧ oe.cls = .ref C ∧ oe.dict = some d ∧ oe.data = .fields vs ∧ vs[1]? = some .none
  dbig : h.objs.size ≤ d
  dne : d ≠ e
  ns : h'.Ns1 d (fun y => if y = fld then some v else none)
theorem one_size (v : Value) : [v].length ≤ sizeLine := by
  rw [sizeLine_eq]
  exact (by decide : 1 ≤ 16777216)
section
variable {prog : Program} {w : World} {A : Around} {E : Value → Shared → Prop} {R : Result → Shared → Prop} {s : Shared} {K : Frag} {mg : Str → Option Value} {c fld : Str} {C fI : Addr}
/-- the bound ValueError.__init__, called -/
theorem call_bwV {h : Heap} {g : Array GenState} {d : Drawn} {t : Nat} {os : OsState} {nm q : Str} {N : Addr} {bs bm : List Value} {hdct : Bool} {sn : List Str} {sub : List Value} {ab : Bool} {col : Option Bool} {dd : Option Addr} {k0 k1 k2 k3 k5 : Option Value} {u e t0 : Addr} {rest : List Value} {Q : Value → Shared → Prop}
    (hC : h.get? C = some (excClassObj nm q C N bs bm hdct sn sub ab col dd k0 k1 k2 k3 k5 "ValueError.__new__")) (he : h.get? e = some (excO C t0)) (hu : h.get? u = some (kxs_mw "ValueError.__init__" e)) (hrest : rest.length ≤ sizeLine)
    (hq : ∀ h' t1, (∀ b o, b ≠ e → h.get? b = some o → h'.get? b = some o) → h'.get? e = some (excO C t1) → Q .none ⟨h', g, d, t, os⟩) :
    wpAny (model prog w) A (call (.ref u) rest) Q E ⟨h, g, d, t, os⟩ := by
  refine wpAny_call (codeAny_of_tree ?_)
  show wpAny _ A.in1 (callAny (.ref u) ⟨rest, []⟩) _ _ _
  simp only [callAny]
  refine wpAny_bind (wpAny_load hu ?_)
  simp only [kxs_mw, show (Value.type "method-wrapper" == Value.type "method" || Value.type "method-wrapper" == Value.type "builtin_function_or_method" || Value.type "method-wrapper" == Value.type "method-wrapper") = true by decide, if_true]
  refine W.KFB.if_so (by decide) ?_
  refine wpAny_bind (check_bound_init F.excBase_ValueError.toExcCallFacts hC he rfl ?_)
  refine wpAny_bind (wpAny_pure (wpAny_pure ?_))
  refine ⟨plainId_quiet F.excBase_ValueError.init.plain _, codeAny_builtin F.excBase_ValueError.initEntry ?_⟩
  rw [Around.under_plainId F.excBase_ValueError.init.plain _]
  wp_walk
  refine hq _ h.objs.size (fun b o hb ho => ?_) ?_
  · rw [Heap.get?_update_other _ _ (Ne.symm hb)]
    exact Heap.get?_push_of_some _ ho
  · rw [Heap.get?_update_self _ (Heap.get?_push_of_some _ he) rfl]
    rfl
theorem sup_init (T : SupTxt prog K mg c fld C fI) {x t0 : Addr} {v : Value} (X : K.In s.heap) (G : s.heap.Ns mainGlobals mg) (BL : ∃ mb, s.heap.Ns builtinsNs mb ∧ ∀ x : Str, x ≠ "__name__" → mb x = bootBuiltins x) (hlim : s.heap.NoLimit) (hx : s.heap.get? x = some (excO C t0)) (hnx : K.lookup x = none) (hroom : A.depth < recursionLimit)
    (hq : ∀ h' tk dx, InitEnd fld s.heap h' x C dx v → R (.ok (.ret .none)) { s with heap := h', toks := tk }) :
    codeAny (model prog w) A (.call (.ref fI) ⟨[.ref x, v], []⟩) R s := by
  obtain ⟨oc, od, doc, pm, ct, an, cda, cc, osl, txt, qual, p1, p2, a0, a1, a2, a3, a4, a5, q1, q2, q3, q4, ccl, cl, cdd, cld, vs, ccs, csl, file, tf, ho, hcd, hbi, ⟨pl, hpl⟩, hcda, hvs, hfile, hcell⟩ := T.fn
  obtain ⟨nm, q, N, bs, bm, sn, sub, ab, col, dd, k0, k1, k2, k3, k5, hC, hbm, hal⟩ := T.cls
  have hcl : clsIn K C = some { name := nm, bases := bs, mro := .ref C :: bm, ns := N, qualname := q, hasDict := true, slotNames := sn, subclasses := sub, abstract := ab, collection := col, hasDel := false } := by unfold clsIn; rw [hC] <;> rfl
  have fne : ((PySem.Str.ofString "self") == fld) = false := by
    have := T.fne
    rw [beq_eq_false_iff_ne] at this ⊢
    exact fun z => this z.symm
  have fsu : (("super" : Str) == fld) = false := by
    have := T.fsu
    rw [beq_eq_false_iff_ne] at this ⊢
    exact fun z => this z.symm
  have fcl : (("__class__" : Str) == fld) = false := by
    have := T.fcl
    rw [beq_eq_false_iff_ne] at this ⊢
    exact fun z => this z.symm
  have lkS : (supS fld).names.lookup ("super" : Str) = some .globalImplicit := by
    show List.lookup _ _ = _
    simp only [supS, List.lookup]
    rw [show (("super" : Str) == PySem.Str.ofString "self") = false by decide, fsu, show (("super" : Str) == PySem.Str.ofString "__class__") = false by decide, show (("super" : Str) == PySem.Str.ofString "super") = true by decide]
  have lkC : (supS fld).names.lookup ("__class__" : Str) = some .free := by
    show List.lookup _ _ = _
    simp only [supS, List.lookup]
    rw [show (("__class__" : Str) == PySem.Str.ofString "self") = false by decide, fcl, show (("__class__" : Str) == PySem.Str.ofString "__class__") = true by decide]
  have lkI : (supS fld).names.lookup ("self" : Str) = some .local := by
    show List.lookup _ _ = _
    simp only [supS, List.lookup]
    rw [show (("self" : Str) == PySem.Str.ofString "self") = true by decide]
  have lkF : (supS fld).names.lookup fld = some .local := by
    show List.lookup _ _ = _
    simp only [supS, List.lookup]
    rw [T.fne]
    simp
  refine ks_codeAny_call_defAt (fd := ksFn "__init__" qual (supA fld p1 p2) (supB fld txt a0 a1 a2 a3 a4 a5 q1 q2 q3 q4) (supS fld) .none .none doc pm an (.ref cda) ct cc) (body := supB fld txt a0 a1 a2 a3 a4 a5 q1 q2 q3 q4) (binds := [("self", .ref x), (fld, v)])
    hroom (X _ _ ho) rfl hlim (codeRec_of X hcd) rfl (BindsTo.of_eq (hbi _ _)) (fun y hy => ?_) (fun y hy => ?_) (fun h₁ hn k => ?_) rfl rfl rfl
  · have hy' : y ∈ (supS fld).names := hy
    simp only [supS, List.mem_cons, List.not_mem_nil, or_false] at hy'
    rcases hy' with rfl | rfl | rfl | rfl <;> exact fun z => by cases z
  · simp only [List.mem_cons, List.not_mem_nil, or_false] at hy
    rcases hy with rfl | rfl
    · exact lkI
    · exact lkF
  have X₁ : K.In h₁ := X.keeps k
  have hx₁ := k _ _ hx
  have hm1 : ([("self", .ref x), (fld, v)] : List (Str × Value)).reverse.lookup ("self" : Str) = some (.ref x) := by
    show List.lookup _ [(fld, v), (("self" : Str), Value.ref x)] = _
    simp only [List.lookup]
    rw [show (("self" : Str) == fld) = false from fne]
    simp
  have hm2 : ([("self", .ref x), (fld, v)] : List (Str × Value)).reverse.lookup fld = some v := by
    show List.lookup _ [(fld, v), (("self" : Str), Value.ref x)] = _
    simp
  obtain ⟨oD, hD1, hD2⟩ : ∃ oD, h₁.get? C = some oD ∧ oD.data = .cls _ := ⟨_, X₁ _ _ hC, rfl⟩
  have I₁ : InstAt h₁ x (excO C t0) C none := ⟨hx₁, rfl, rfl, trivial⟩
  obtain ⟨mb, hmb, hbl⟩ := BL
  -- super().__init__(txt)
  refine ks_wpAt_execs_cons (ks_wpAt_Expr_any (ks_wpAt_MethodCall (pl := pl) ?_ (hpl _)) rfl rfl)
  refine ks_wpAt_super_base (fd := ksFn "__init__" qual (supA fld p1 p2) (supB fld txt a0 a1 a2 a3 a4 a5 q1 q2 q3 q4) (supS fld) .none .none doc pm an (.ref cda) ct cc) (ar := { arg := "self", annotation := none, pos := p1 }) lkS lkC rfl rfl (X₁ _ _ ho) rfl rfl rfl (X₁ _ _ hcda) rfl hvs hfile T.top ?_
  refine ks_loadName_global rfl lkS (loadGlobal_builtin (G.keeps k) T.sup (hmb.keeps k) ((hbl _ (by decide +kernel)).trans (by first | rfl | kernel_rfl)) ⟨rfl, ?_⟩)
  refine wpAny_loadName_free rfl lkC rfl ⟨_, X₁ _ _ hcell, rfl⟩ ?_
  refine wpAny_loadName_local rfl lkI hn hm1 ?_
  refine ks_wpAny_isType_cls hD1 hD2 ⟨rfl, ?_⟩
  refine ks_wpAny_call_super hD1 hD2 hx₁ rfl (fun c e => by cases e) (looks_mroIn X₁ T.meC) (fun h₂ hso k₂ => ?_)
  have X₂ : K.In h₂ := X₁.keeps k₂
  have hx₂ := k₂ _ _ hx₁
  have I₂ : InstAt h₂ x (excO C t0) C none := ⟨hx₂, rfl, rfl, trivial⟩
  refine kxs_getMethod kxs_ValueError hso (looks_opaque X₂ T.stat) (l₀ := .ref C :: bm) (fun A Q E s k q => wpAny_bind ((looks_clsIn X₂ hcl) A _ E s k (wpAny_pure q))) rfl X₂ hal (I₂.type.andThen (looks_subIn X₂ T.veC)) (ks_ne X₂ I₂ hcl) (by decide) ?_
  have hu : (h₂.push (kxs_mw "ValueError.__init__" x)).get? h₂.objs.size = some (kxs_mw "ValueError.__init__" x) := Heap.get?_push_at rfl rfl
  have k₃ : ∀ b o, h₂.get? b = some o → (h₂.push (kxs_mw "ValueError.__init__" x)).get? b = some o := fun b o e => Heap.get?_push_of_some _ e
  refine kxs_callWith (i := "ValueError.__init__") (x := x) rfl (evalArgs_plain ?_)
  refine Calls.spliced_cons (Calls.Constant_str (k := 0) (pos := a3) (Calls.spliced_nil ⟨hu, ?_⟩))
  refine call_bwV (X₂.keeps k₃ _ _ hC) (k₃ _ _ hx₂) hu (one_size _) fun h₄ t1 k₄ hx₄ => ?_
  have up : ∀ b o, b ≠ x → s.heap.get? b = some o → h₄.get? b = some o := fun b o hb e => k₄ b o hb (k₃ b o (k₂ b o (k b o e)))
  have X₄ : K.In h₄ := fun a o e => up a o (fun z => by rw [z, hnx] at e; cases e) (X a o e)
  have hn₄ : h₄.Ns s.heap.objs.size (fun y => ([("self", .ref x), (fld, v)] : List (Str × Value)).reverse.lookup y) := by
    obtain ⟨oL, es, ep, hL, r⟩ := hn
    exact ⟨oL, es, ep, k₄ _ _ (Nat.ne_of_gt (Heap.lt_size hx)) (k₃ _ _ (k₂ _ _ hL)), r⟩
  -- self.fld = fld
  refine wpAt_of_wpAny ?_
  show wpAny _ _ (execs _ _) _ _ _
  refine wpAny_execs_cons (plainObj_wpAny_Assign_Attribute ?_)
  refine wpAny_Name (wpAny_loadName_local rfl lkF hn₄ hm2 ?_) T.fld_
  refine wpAny_Name (wpAny_loadName_local rfl lkI hn₄ hm1 ?_) (by decide)
  refine set_plain X₄ (ox := excO C t1) (od := none) ⟨hx₄, rfl, rfl, trivial⟩ T.sa ?_
  refine exc_osa X₄ hx₄ hcl (show refsVE (.ref C :: bm) = true from hbm) rfl T.noN (fun h₅ tk₅ dx k₅ dn dne hx₅ hn₅ => ?_)
  show wpAny _ _ (execs _ _) _ _ _
  refine wpAny_execs_nil (hq h₅ tk₅ dx ⟨fun b o hb e => k₅ b o hb (up b o hb e), ⟨_, hx₅⟩, ?_, dne, hn₅⟩)
  obtain ⟨oL, es, ep, hL, r⟩ := hn₄
  exact Nat.le_of_lt (Nat.lt_of_lt_of_le (Heap.lt_size hL) dn)
theorem sup_made (T : SupTxt prog K mg c fld C fI) {v : Value} (X : K.In s.heap) (G : s.heap.Ns mainGlobals mg) (BL : ∃ mb, s.heap.Ns builtinsNs mb ∧ ∀ x : Str, x ≠ "__name__" → mb x = bootBuiltins x) (hlim : s.heap.NoLimit) (hroom : A.depth + 1 < recursionLimit)
    (hq : ∀ h' tk e d, OwnMade fld s.heap h' e C d v → R (.ok (.ret (.ref e))) { s with heap := h', toks := tk }) :
    codeAny (model prog w) A (.call (.ref C) ⟨[v], []⟩) R s := by
  obtain ⟨nm, q, N, bs, bm, sn, sub, ab, col, dd, k0, k1, k2, k3, k5, hC, hbm, hal⟩ := T.cls
  obtain ⟨hp, g, dr, tk, os⟩ := s
  have k : ∀ b o, hp.get? b = some o → ((hp.push (kdv_tup [v])).push (excO C hp.objs.size)).get? b = some o := fun b o e => Heap.get?_push_of_some _ (Heap.get?_push_of_some _ e)
  have hget : ((hp.push (kdv_tup [v])).push (excO C hp.objs.size)).get? (hp.objs.size + 1) = some (excO C hp.objs.size) := by heap_get
  have hnx : K.lookup (hp.objs.size + 1) = none := by
    cases e : K.lookup (hp.objs.size + 1) with
    | none => rfl
    | some o =>
      have z : hp.get? (hp.objs.size + 1) = some o := X _ _ e
      exact absurd (Nat.lt_of_succ_lt (Heap.lt_size z)) (Nat.lt_irrefl _)
  refine call_own F.excBase_ValueError (fun X => refsVE_contains X bm hbm) (X _ _ hC) (looks_findIn X T.iC) (fun self => bind_fn X self T.tC) (one_size v) ?_
  refine sup_init (s := ⟨(hp.push (kdv_tup [v])).push (excO C hp.objs.size), g, dr, tk, os⟩) T (X.keeps k) (G.keeps k) (let ⟨mb, h1, h2⟩ := BL; ⟨mb, h1.keeps k, h2⟩) (hlim.keeps k) hget hnx ?_ fun h' tk' dx ⟨k', hx, dn, dne, hns⟩ => ?_
  · show A.depth + 1 < recursionLimit
    exact hroom
  · have old : ∀ b o, hp.get? b = some o → h'.get? b = some o := fun b o e => k' b o (Nat.ne_of_lt (Nat.lt_succ_of_lt (Heap.lt_size e))) (k b o e)
    have z : hp.objs.size + 1 + 1 ≤ dx := by
      first
        | (simpa only [Heap.size_push] using dn)
        | exact dn
        | (have q := dn; rw [Heap.size_push, Heap.size_push] at q; exact q)
    obtain ⟨t1, hx⟩ := hx
    exact ⟨rfl, hq h' tk' (hp.objs.size + 1) dx ⟨old, Nat.le_succ _, ⟨_, _, hx, rfl, rfl, rfl, rfl⟩, Nat.le_trans (Nat.le_trans (Nat.le_succ _) (Nat.le_succ _)) z, dne, hns⟩⟩
end
end SupX
end PySem
namespace Mr
open PySem PySem.Spec PyProof.Rows L2
theorem relO_fld {fld : Str} {v : V} {v' : Value} (r : RelV v v') (f : Str) : RelO (List.lookup f [(fld, v)]) (if f = fld then some v' else none) := by
  by_cases hw : f = fld
  · subst hw
    rw [if_pos rfl]
    have q : List.lookup f [(f, v)] = some v := by simp [List.lookup]
    rw [q]
    exact r
  · rw [if_neg hw]
    have qw : (f == fld) = false := by simpa using hw
    have q2 : List.lookup f [(fld, v)] = none := by simp [List.lookup, qw]
    rw [q2]
    trivial
section
variable {X : Cx} {C fI : Addr} {c fld : Str}
/-- c(e) -/
def tMkE (C : Addr) (fld : Str) (ta : TA) : L2.St → Hp → XK → Prop := fun σ H Q => ta σ H fun vs H1 => ∃ v, vs = [v] ∧ ∀ d, H1 d = none → Q (.ref C) (some d) (upd H1 d (.xd [(fld, v)]))
theorem pmk_sup {a : Expr} {ta : TA} {p pos : Pos} {k : Nat} (T : PySem.SupX.SupTxt X.prog X.K X.mg c fld C fI) (hr : Room k X.A) (ha : PA X [a] ta) (hg : Gl X c) (hdb : (c == ("__debug__" : Str)) = false := by decide)
    (he : starEach (a :: []) X.env = (false, eval a X.env) :: starEach [] X.env := by rfl) (hpl : (backTo pos (starEach [] X.env)).any (·.1) = false := by rfl) :
    PMk X (.Call (.Name c p) [a] [] pos) (tMkE C fld ta) := by
  intro pins s σ H Q I h
  refine wpAny_Call_Name_kw (ld_glob I hg T.gC ?_ hdb)
  refine PySem.W.callWith_K (h₀ := X.base) I.ok.mod.kin T.kC (thn (ha.run pos pins s σ H _ I h) fun us s1 hh => ?_) he hpl
  obtain ⟨vs, H1, I1, r1, v, ev, q1⟩ := hh
  subst ev
  refine ⟨I1.kIn, ?_⟩
  cases r1 with
  | cons rv rn =>
    rename_i v' us'
    cases rn
    show wpAny _ _ (call (.ref C) [v']) _ _ _
    have hlim := I1.nolimit
    have hG := I1.mod.glob.keeps I1.bk
    have hB : ∃ mb, s1.heap.Ns builtinsNs mb ∧ ∀ x : Str, x ≠ "__name__" → mb x = bootBuiltins x := let ⟨mb, h1, h2⟩ := I1.mod.blt; ⟨mb, h1.keeps I1.bk, h2⟩
    obtain ⟨hp, g, dr, tk, os⟩ := s1
    refine wpAny_call (PySem.SupX.sup_made T I1.kIn hG hB hlim (by have := hr.dp; omega) fun h' tk' e d M => ?_)
    show MkP X pins σ Q (.ref e) ⟨h', g, dr, tk', os⟩
    obtain ⟨oe, fv, hoe, hc, hd, hdat, h1⟩ := M.obj
    have hns := M.ns
    obtain ⟨G', g1, g2⟩ := restrict h' fun b => decide (b ≠ e)
    have gk : ∀ b, b ≠ e → G'.get? b = h'.get? b := fun b hb => g1 b (decide_eq_true hb)
    have ge : G'.get? e = none := g2 e (by simp)
    have old : ∀ b o, hp.get? b = some o → G'.get? b = some o := fun b o q => (gk b (Nat.ne_of_lt (Nat.lt_of_lt_of_le (Heap.lt_size q) M.new))).trans (M.keep b o q)
    have ob : ObjOk X.prog X.w (upd H1 d (.xd [(fld, v)])) G' d (.xd [(fld, v)]) :=
      ⟨_, hns.at (fun o q => (gk d M.dne).trans q), fun f => relO_fld rv f⟩
    have J : L2.Inv X pins σ (upd H1 d (.xd [(fld, v)])) ⟨G', g, dr, tk', os⟩ := I1.laid (t' := tk') old M.dbig ob
    refine ⟨e, oe, fv, ⟨G', g, dr, tk', os⟩, _, .ref C, some d, rfl, J, fun b o q => ?_, ge, hoe, ⟨hc, hd⟩, hdat, h1, ?_, rfl, I1.bare, raises_own T.exC T.tyC, q1 d (I1.hok.fresh M.dbig)⟩
    · by_cases hb : b = e
      · have q' : G'.get? b = some o := q
        rw [hb, ge] at q'; cases q'
      · exact (gk b hb).symm.trans q
    · rw [upd_ne (Ne.symm M.dne)]
      exact I1.hok.fresh M.new
/-- raise c(e) -/
def sRaise (c fld : Str) (f : ME) : MS := fun r m => (f r m).thenS r fun d m1 => .err c [(fld, d)] r m1
theorem is_raise {W : WX} {a : Expr} {f : ME} {p pos pos2 : Pos} {k : Nat} (T : PySem.SupX.SupTxt X.prog X.K X.mg c fld C fI) (hc : X.calm = true) (hr : Room k X.A) (tk : Takes X W) (ha : IE X W a f) (hg : Gl X c := by rfl) (hdb : (c == ("__debug__" : Str)) = false := by decide)
    (he : starEach (a :: []) X.env = (false, eval a X.env) :: starEach [] X.env := by rfl) (hpl : (backTo pos (starEach [] X.env)).any (·.1) = false := by rfl) :
    IS X W (.Raise (some (.Call (.Name c p) [a] [] pos)) none pos2) (sRaise c fld f) :=
  ps_imp (ps_raise hc tk (pmk_sup T hr (pa_cons ha pa_nil he) hg hdb he hpl)) fun Dn s H ⟨S, r, m, x, o⟩ => lfe_ofS x o fun d v S1 H1 m1 a1 x1 q1 o1 => ⟨v, rfl, fun dx hd => by
    have a2 : Aft (Cx.ct X) S1 H1 S1 (upd H1 dx (.xd [(fld, v)])) m1 := Aft.new x1.ok hd
    exact o1 C dx [(fld, v)] s S1 _ a2 (x1.aft a2) T.gC upd_same (.cons (q1.aft x1.ok a2) .nil)⟩
end
end Mr

/-! Mr7: try .. except C as n: return e, e of the error's class and field -/
namespace Mr
open PySem PySem.Spec PyProof.Rows L2

/-- what an expression in the suite gives, by the error's class and fields: i is the error's slot -/
def ErX (G : Ct) (i : Nat) (te : Addr → Value → Option Addr → TE) (f : Str → List (Str × D) → Option D) : Prop :=
  ∀ (a C dx : Addr) (c : Str) (S : List Addr) (m : Mu) (s : L2.St) (H : Hp) (gs : List (Str × V)) (fs : List (Str × D)) (d : D) (Q : VK), G.mg c = some (.ref C) → StOk G S H m → s[i]? = some (some (.ref a)) → H dx = some (.xd gs) → RpF G S H gs fs → f c fs = some d →
    (∀ v H', Aft G S H S H' m → Rp G S H' v d → Q v H') → te a (.ref C) (some dx) s H Q
/-- the same as a judgement -/
def XX (X : Cx) (i : Nat) (e : Expr) (f : Str → List (Str × D) → Option D) : Prop :=
  ∃ te : Addr → Value → Option Addr → TE, (∀ (a : Addr) (oe : Obj) (cls : Value) (d : Option Addr) (pn : List (Addr × Obj)), Zc cls d oe → (∃ vs, oe.data = .fields vs) → (∃ dx, d = some dx) → PE (X.suite a ((a, oe) :: pn)) e (te a cls d)) ∧ ErX (Cx.ct X) i te f
section
variable {X : Cx} {i : Nat} {e a b : Expr} {pos : Pos}
theorem xx_const {d : D} (hd : d.flat = true) (h : ∀ X : Cx, PE X e (tC (flatV d))) : XX X i e fun _ _ => some d :=
  ⟨fun _ _ _ => tC (flatV d), fun _ _ _ _ _ _ _ _ => h _, fun _ _ _ _ _ _ _ _ _ _ _ _ _ k _ _ _ hf q => by cases hf; exact q _ _ (Aft.refl k) (rp_flat hd)⟩
/-- n.fld -/
theorem xx_fld {n : Expr} {fld : Str} (he : ∀ (a : Addr) (oe : Obj) (pn : List (Addr × Obj)), PE (X.suite a ((a, oe) :: pn)) n (tVar i)) (hb : ∀ (a : Addr) (oe : Obj) (pn : List (Addr × Obj)), attributeBase n fld (X.suite a ((a, oe) :: pn)).env (eval n (X.suite a ((a, oe) :: pn)).env) = eval n (X.suite a ((a, oe) :: pn)).env)
    (ok : Str → Bool) (T : ∀ c C, ok c = true → X.mg c = some (.ref C) → XfC X.K C ∧ PySem.W.findIn X.K (.ref C) fld = some none) : XX X i (.Attribute n fld pos) fun c fs => if ok c = true then fs.lookup fld else none := by
  refine ⟨fun a cls d s H Q => ∃ C, cls = .ref C ∧ (XfC X.K C ∧ PySem.W.findIn X.K (.ref C) fld = some none) ∧ tXf a cls d C fld (tVar i) s H Q, fun a oe cls d pn hz hf _ => ⟨fun pins s σ H Q I h => ?_⟩, fun a C dx c S m s H gs fs d Q hc k hs hx hg hf q => ?_⟩
  · obtain ⟨C, rfl, ⟨h1, h2⟩, h⟩ := h
    exact (pe_xf (X := X) h1 h2 hz hf (he a oe pn) (hb a oe pn)).run pins s σ H Q I h
  · dsimp only at hf
    split at hf
    · rename_i hok
      obtain ⟨v, hv, r⟩ := hg.lookup hf
      exact ⟨C, rfl, T c C hok hc, _, hs, rfl, rfl, dx, gs, v, rfl, hx, hv, q _ _ (Aft.refl k) r⟩
    · cases hf
/-- isinstance(n, D) -/
theorem xx_isi {x2 : Str} {n : Expr} {p p2 : Pos} {D' : Addr} (he : ∀ (a : Addr) (oe : Obj) (pn : List (Addr × Obj)), PE (X.suite a ((a, oe) :: pn)) n (tVar i)) (hg : Gl X "isinstance") (hm : X.mg "isinstance" = none) (hg2 : Gl X x2) (hm2 : X.mg x2 = some (.ref D')) (hd2 : (x2 == ("__debug__" : Str)) = false)
    (hv : bootBuiltins "isinstance" = some (.builtin "isinstance")) (sub : Str → Option Bool)
    (T : ∀ c C b, sub c = some b → X.mg c = some (.ref C) → ExcC X.K C ∧ (PySem.W.clsIn X.K C).isSome = true ∧ PySem.W.kitOne X.K (.ref C) (.ref D') = some b)
    (hs1 : ∀ (a : Addr) (oe : Obj) (pn : List (Addr × Obj)), starEach [n, .Name x2 p2] (X.suite a ((a, oe) :: pn)).env = (false, eval n (X.suite a ((a, oe) :: pn)).env) :: starEach [.Name x2 p2] (X.suite a ((a, oe) :: pn)).env := by intros; rfl)
    (hs2 : ∀ (a : Addr) (oe : Obj) (pn : List (Addr × Obj)), starEach [.Name x2 p2] (X.suite a ((a, oe) :: pn)).env = (false, eval (.Name x2 p2) (X.suite a ((a, oe) :: pn)).env) :: starEach [] (X.suite a ((a, oe) :: pn)).env := by intros; rfl)
    (hpl : ∀ (a : Addr) (oe : Obj) (pn : List (Addr × Obj)), (backTo pos (starEach [.Name x2 p2] (X.suite a ((a, oe) :: pn)).env)).any (·.1) = false := by intros; rfl) :
    XX X i (.Call (.Name "isinstance" p) [n, .Name x2 p2] [] pos) fun c _ => (sub c).map D.bl := by
  refine ⟨fun a cls d s H Q => ∃ C b, cls = .ref C ∧ (ExcC X.K C ∧ (PySem.W.clsIn X.K C).isSome = true ∧ PySem.W.kitOne X.K (.ref C) (.ref D') = some b) ∧ s[i]? = some (some (.ref a)) ∧ (∃ dx gs, d = some dx ∧ H dx = some (.xd gs)) ∧ Q (.bl b) H, fun a oe cls d pn hz hf hdx => ⟨fun pins s σ H Q I h => ?_⟩, fun a C dx c S m s H gs fs d Q hc k hs hx hg hf q => ?_⟩
  · obtain ⟨C, b, rfl, ⟨hC, hcl, hk⟩, hs, ⟨dx, gs, rfl, hxd⟩, q⟩ := h
    have cr : CallR (X.suite a ((a, oe) :: pn)) (.builtin "isinstance") (fun xs H Q => xs = [.ref a, .ref D'] ∧ (∃ gs, H dx = some (.xd gs)) ∧ Q (.bl b) H) := by
      rintro pins s σ H xs us Q I r ⟨rfl, ⟨gs, hxd⟩, q⟩
      obtain ⟨u1, u2, rfl, r1, r2⟩ := vals2 r
      cases r1
      cases r2
      obtain ⟨hget, _⟩ := I.pin (a, oe) (List.mem_append.mpr (.inl List.mem_cons_self))
      obtain ⟨vs, hvs⟩ := hf
      obtain ⟨mA, ⟨od, es, ep, hod, _⟩, _⟩ := (show ObjOk X.prog X.w H s.heap dx (.xd gs) from I.hok dx _ hxd)
      have J : PySem.W.InstAt s.heap a oe C (some od) := by
        obtain ⟨oc, odd, oda, osl⟩ := oe
        obtain ⟨h1, h2⟩ := hz
        dsimp only at h1 h2 hvs
        subst h1 h2 hvs
        exact ⟨hget, rfl, rfl, hod⟩
      exact PySem.W.kia_one (PySem.W.kitx_exc hcl hC.hg hC.hk hC.hs hC.ha hC.hn hC.ht hC.hm) I.kIn J hk (fun z => nomatch z) fun tk => ⟨.bl b, H, I.kept (t' := tk) fun _ _ z => z, rfl, q⟩
    have hgl : PE (X.suite a ((a, oe) :: pn)) (.Name x2 p2) (tC (.ref D')) := pe_glob (X := X.suite a ((a, oe) :: pn)) hg2 hm2 rfl hd2
    exact (pe_callB (X := X.suite a ((a, oe) :: pn)) cr hg hm hv (pa_cons (he a oe pn) (pa_cons hgl pa_nil (hs2 a oe pn)) (hs1 a oe pn)) (by decide) (by decide) (hs1 a oe pn) (hpl a oe pn)).run pins s σ H Q I ⟨_, hs, rfl, ⟨gs, hxd⟩, q⟩
  · obtain ⟨b, hb, rfl⟩ := Option.map_eq_some_iff.mp hf
    exact ⟨C, b, rfl, T c C b hb hc, hs, ⟨dx, gs, rfl, hx⟩, q _ _ (Aft.refl k) (.bl b)⟩
/-- == of data without open lists -/
def eqP (x y : D) : Option Bool := match x.py, y.py with
  | some p, some q => if SeqAt.shaped p = true ∧ SeqAt.shaped q = true then some (PyData.eqv p q) else none
  | _, _ => none
theorem py_pyM {m : Mu} {d : D} {p : PyData} (h : d.py = some p) : pyM m d = some p := by
  cases d <;> first | exact h | (simp only [D.py] at h; cases h)
theorem eqP_eqD {m : Mu} {x y : D} {b : Bool} (h : eqP x y = some b) : eqD m x y = some b := by
  unfold eqP at h
  split at h
  · rename_i p q h1 h2
    unfold eqD
    rw [py_pyM h1, py_pyM h2]
    exact h
  · cases h
/-- a == K, K a constant -/
theorem xx_eq {f : Str → List (Str × D) → Option D} {k : D} (hu : X.A.units + 64 < cLine) (ha : XX X i a f) (hk : k.flat = true) (hb : ∀ X : Cx, PE X b (tC (flatV k))) : XX X i (.Compare a [.Eq] [b] pos) fun c fs => (f c fs).bind fun d => (eqP d k).map D.bl := by
  obtain ⟨te, h1, h2⟩ := ha
  refine ⟨fun a cls d => tOp (LfO (Cx.ct X) oEq) (te a cls d) (tC (flatV k)), fun a oe cls d pn hz hf hdx => ?_, fun a C dx c S m s H gs fs d Q hc kk hs hx hg hf q => ?_⟩
  · exact pe_cmpR (X := X.suite a ((a, oe) :: pn)) (or_eq (X := X.suite a ((a, oe) :: pn)) hu) (h1 a oe cls d pn hz hf hdx) (hb _) (nomark _)
  · obtain ⟨d1, hd1, hd2⟩ := Option.bind_eq_some_iff.mp hf
    obtain ⟨b, hb, rfl⟩ := Option.map_eq_some_iff.mp hd2
    refine h2 a C dx c S m s H gs fs d1 _ hc kk hs hx hg hd1 fun v H' aa r => ?_
    refine ⟨fun _ _ _ => False, S, m, d1, k, aa.ok, r, rp_flat hk, ?_⟩
    unfold oEq
    rw [eqP_eqD hb]
    intro S2 H2 a2 w rw_
    cases rw_
    refine q _ H2 ?_ (.bl b)
    obtain ⟨T, e, _⟩ := a2.more
    have hl := a2.ok.len
    rw [e, List.length_append, aa.ok.len] at hl
    have : T = [] := List.eq_nil_of_length_eq_zero (by omega)
    subst this
    rw [List.append_nil] at e
    subst e
    exact aa.trans a2
/-- a and b, not a: of truths -/
theorem xx_and {f g : Str → List (Str × D) → Option D} {rest : List Expr} (ha : XX X i a f) (hb : XX X i (.BoolOp .And (b :: rest) pos) g) :
    XX X i (.BoolOp .And (a :: b :: rest) pos) fun c fs => (f c fs).bind fun d => match d with | .bl true => g c fs | .bl false => some (.bl false) | _ => none := by
  obtain ⟨te, h1, h2⟩ := ha
  obtain ⟨tf, h3, h4⟩ := hb
  refine ⟨fun a cls d => tAndV (te a cls d) (tf a cls d), fun a oe cls d pn hz hf hdx => pe_and (h1 a oe cls d pn hz hf hdx) (h3 a oe cls d pn hz hf hdx), fun a C dx c S m s H gs fs d Q hc kk hs hx hg hf q => ?_⟩
  obtain ⟨d1, hd1, hd2⟩ := Option.bind_eq_some_iff.mp hf
  refine h2 a C dx c S m s H gs fs d1 _ hc kk hs hx hg hd1 fun v H' aa r => ?_
  have hx' : H' dx = some (.xd gs) := aa.keep _ _ hx fun z => by obtain ⟨xs, e⟩ := kk.opn z; rw [hx] at e; cases e
  have hg' : RpF (Cx.ct X) S H' gs fs := by
    have := hg.move (T := []) (fun _ => kk.opn) (fun _ z => nomatch z) aa.keep
    rwa [List.append_nil] at this
  split at hd2
  · cases r
    exact ⟨true, rfl, by
      show tf a (.ref C) (some dx) s H' Q
      exact h4 a C dx c S m s H' gs fs d Q hc aa.ok hs hx' hg' hd2 fun v H2 a2 r2 => q v H2 (aa.trans a2) r2⟩
  · cases r
    cases hd2
    exact ⟨false, rfl, q _ H' aa (.bl false)⟩
  · cases hd2
theorem xx_one {op} {f : Str → List (Str × D) → Option D} (ha : XX X i a f) : XX X i (.BoolOp op [a] pos) f := by
  obtain ⟨te, h1, h2⟩ := ha
  exact ⟨te, fun a oe cls d pn hz hf hdx => pe_one (h1 a oe cls d pn hz hf hdx), h2⟩
theorem xx_not {f : Str → List (Str × D) → Option D} (ha : XX X i a f) : XX X i (.UnaryOp .Not a pos) fun c fs => (f c fs).bind fun d => match d with | .bl b => some (.bl (!b)) | _ => none := by
  obtain ⟨te, h1, h2⟩ := ha
  refine ⟨fun a cls d => tNotV (te a cls d), fun a oe cls d pn hz hf hdx => pe_not (h1 a oe cls d pn hz hf hdx), fun a C dx c S m s H gs fs d Q hc kk hs hx hg hf q => ?_⟩
  obtain ⟨d1, hd1, hd2⟩ := Option.bind_eq_some_iff.mp hf
  refine h2 a C dx c S m s H gs fs d1 _ hc kk hs hx hg hd1 fun v H' aa r => ?_
  split at hd2
  · cases r
    cases hd2
    exact ⟨_, rfl, q _ H' aa (.bl _)⟩
  · cases hd2
end

/-! ### try: body, except C as n: return e -/
/-- sub: whether the class is caught -/
def sTry (i : Nat) (b : MS) (sub : Str → Option Bool) (f : Str → List (Str × D) → Option D) : MS := fun r m => match b r m with
  | .err c fs r' m' => match sub c with
    | some true => if i < r'.length then (match f c fs with
      | some d => .rt d m'
      | none => .bad) else .bad
    | some false => .err c fs r' m'
    | none => .bad
  | x => x
section
variable {X : Cx} {W : WX} {x n : Str} {Cv : Addr} {i : Nat} {body : List Stmt} {e : Expr} {np pos pos' rpos : Pos} {b : MS} {sub : Str → Option Bool} {f : Str → List (Str × D) → Option D}
theorem is_try (hs : X.stack = X.env :: X.outer) (hf : X.env.frame = some X.env.locals) (hN : X.N.Nodup) (hi : X.N[i]? = some n) (hln : X.env.kindOf n = some .local) (hg : Gl X x) (hm : X.mg x = some (.ref Cv)) (hdb : (x == ("__debug__" : Str)) = false) (tk : Takes X W)
    (T : ∀ c C v, sub c = some v → X.mg c = some (.ref C) → PySem.W.exmOne X.K (.ref C) (.ref Cv) = some v)
    (hb : ∀ (W : WX) (pn : List (Addr × Obj)) (xe : Value → Shared → Prop), Takes (X.tr pn xe) W → PassesOwn (model X.prog X.w) X.A X.env xe → ISs (X.tr pn xe) W body b) (he : XX X i e f) :
    IS X W (.Try body [.ExceptHandler (some (.Name x np)) (some n) [.Return (some e) rpos] pos'] [] [] pos) (sTry i b sub f) := by
  obtain ⟨te, h1, h2⟩ := he
  -- the suite runs where the error's dict is known to stand
  refine ps_imp (ps_try_as (i := i) (c := .ref Cv) (tb := fun W => LfS (Cx.ct X) W b) (ts := fun a cls d => fun Dn s H => (∃ dx, d = some dx) ∧ tRet (te a cls d) Dn s H) hs hf hN hi hln ⟨hg, hdb, .inl hm⟩ tk hb
    fun a oe cls d pn hz hf => ⟨fun pins s σ H Dn I ⟨hdx, q⟩ => (pss_one (ps_ret (h1 a oe cls d pn hz hf hdx))).run pins s σ H Dn I q⟩) fun Dn s H ⟨S, r, m, x, o⟩ => ⟨S, r, m, x, ?_⟩
  unfold sTry at o
  cases eb : b r m with
  | err c fs r' m' =>
    rw [eb] at o
    intro C dx gs s' S' H' a x' hc hx hg
    cases es : sub c with
    | none => simp only [es] at o; exact o.elim
    | some v =>
      refine ⟨v, T c C v es hc, fun hv aa haa => ⟨⟨dx, rfl⟩, ?_⟩, fun hv => ?_⟩
      · subst hv
        simp only [es] at o
        by_cases hil : i < r'.length
        case neg => rw [if_neg hil] at o; exact o.elim
        rw [if_pos hil] at o
        rw [x'.len] at hil
        cases ef : f c fs with
        | none => simp only [ef] at o; exact o.elim
        | some d =>
          simp only [ef] at o
          exact h2 aa C dx c S' m' _ H' gs fs d _ hc x'.ok (by rw [List.getElem?_set_self hil]) hx hg ef fun v H2 a2 r2 => o v S' H2 (a.trans a2) r2
      · subst hv
        simp only [es] at o
        exact o C dx gs s' S' H' a x' hc hx hg
  | nx _ _ => rw [eb] at o; exact o
  | rt _ _ => rw [eb] at o; exact o
  | bk _ _ => rw [eb] at o; exact o
  | ct _ _ => rw [eb] at o; exact o
  | bad => rw [eb] at o; exact o
end
end Mr
namespace Mr
open PySem PySem.Spec PyProof.Rows L2
/-! ### for the printed terms -/
theorem u65 {k : Nat} {A : Around} (hr : Room k A) : A.units + 65 < cLine := by have := hr.un; omega
theorem pts_imp {X : Cx} {ifs : List Expr} {t t' : TT} (h : PTs X ifs t) (i : ∀ s H Q, t' s H Q → t s H Q) : PTs X ifs t' := ⟨fun pins s σ H Q I q => h.run pins s σ H Q I (i _ _ _ q)⟩
abbrev ITs (X : Cx) (W : WX) (ifs : List Expr) (f : MT) : Prop := PTs X ifs (LfT (Cx.ct X) W f)
section
variable {X : Cx} {W : WX}
theorem its_nil : ITs X W [] tYesM := pts_imp pts_nil (tYes_of (X := X))
theorem its_one {c : Expr} {f : MT} (h : IT X W c f) : ITs X W [c] f := pts_one h
theorem ie_lc {elt tg iter : Expr} {ifs : List Expr} {scope : Scope} {own : List (Str × Nat)} {pos : Pos} {fi : MI} {g : MG} {t : MT} {fe : ME} {ts : List Nat} (hc : X.calm = true) (hN : X.N.Nodup) (hi : II X W tg iter fi) (ok : BlkOk X.N X.env.scope scope own)
    (hg : ∀ (s : Shared) (H : Hp) (C : Addr) (cl : List (Str × Addr)) (fp : List Addr), IG (X.blk s H scope (compEnvC scope cl C X.env) fp) ts tg g) (ht : ∀ (s : Shared) (H : Hp) (C : Addr) (cl : List (Str × Addr)) (fp : List Addr), ITs (X.blk s H scope (compEnvC scope cl C X.env) fp) W0 ifs t)
    (he : ∀ (s : Shared) (H : Hp) (C : Addr) (cl : List (Str × Addr)) (fp : List Addr), IE (X.blk s H scope (compEnvC scope cl C X.env) fp) W0 elt fe) (hts : ∀ i ∈ ts, i ∈ own.map (·.2) := by decide) (hs : ∀ x, foldedSetIterable iter X.env x = pure x := by intro _; rfl) :
    IE X W (.ListComp elt [⟨tg, iter, ifs, 0⟩] scope pos) (iLc fi (own.map (·.2)) g t fe) :=
  pe_imp (pe_lc hc hN hi ok hg ht he hs) (lf_lc hts)
theorem is_setLc {i : Nat} {y : Str} {py : Pos} {elt tg iter : Expr} {ifs : List Expr} {scope : Scope} {own : List (Str × Nat)} {pos spos : Pos} {fi : MI} {g : MG} {t : MT} {fe : ME} {ts : List Nat} (hc : X.calm = true) (hN : X.N.Nodup) (hy : X.N[i]? = some y) (hyl : X.env.scope.names.lookup y = some .local)
    (hsw : swapsWith (.ListComp elt [⟨tg, iter, ifs, 0⟩] scope pos) (some (.Name y py)) spos.line X.env = pure true) (hi : II X W tg iter fi) (ok : BlkOk X.N X.env.scope scope own)
    (hg : ∀ (s : Shared) (H : Hp) (C : Addr) (cl : List (Str × Addr)) (fp : List Addr), IG (X.blk s H scope (compEnvC scope cl C X.env) fp) ts tg g) (ht : ∀ (s : Shared) (H : Hp) (C : Addr) (cl : List (Str × Addr)) (fp : List Addr), ITs (X.blk s H scope (compEnvC scope cl C X.env) fp) W0 ifs t)
    (he : ∀ (s : Shared) (H : Hp) (C : Addr) (cl : List (Str × Addr)) (fp : List Addr), IE (X.blk s H scope (compEnvC scope cl C X.env) fp) W0 elt fe) (hts : ∀ i ∈ ts, i ∈ own.map (·.2) := by decide) (hs : ∀ x, foldedSetIterable iter X.env x = pure x := by intro _; rfl) :
    IS X W (.Assign [.Name y py] (.ListComp elt [⟨tg, iter, ifs, 0⟩] scope pos) spos) (sAsg (iLc fi (own.map (·.2)) g t fe) (gNm i)) :=
  is_set (ps_imp (ps_setLc hc hN hy hyl hsw hi ok hg ht he hs) fun Dn s H h => lf_lc (W := W) hts s H _ h)
end
end Mr

/-! Mr8: what the printed texts name -/
namespace Mr
open PySem PySem.Spec PyProof.Rows L2

/-! ### suite expressions by name -/
abbrev MX := Str → List (Str × D) → Option D
def xK (d : D) : MX := fun _ _ => some d
def xFld (ok : Str → Bool) (fld : Str) : MX := fun c fs => if ok c = true then fs.lookup fld else none
def xIsi (sub : Str → Option Bool) : MX := fun c _ => (sub c).map D.bl
def xEq (f : MX) (k : D) : MX := fun c fs => (f c fs).bind fun d => (eqP d k).map D.bl
def xAnd (f g : MX) : MX := fun c fs => (f c fs).bind fun d => match d with | .bl true => g c fs | .bl false => some (.bl false) | _ => none
def xNot (f : MX) : MX := fun c fs => (f c fs).bind fun d => match d with | .bl b => some (.bl (!b)) | _ => none
section
variable {X : Cx} {i : Nat} {e a b : Expr} {pos : Pos}
theorem xd_fld {n : Expr} {fld : Str} (he : ∀ (a : Addr) (oe : Obj) (pn : List (Addr × Obj)), PE (X.suite a ((a, oe) :: pn)) n (tVar i)) (ok : Str → Bool) (T : ∀ c C, ok c = true → X.mg c = some (.ref C) → XfC X.K C ∧ PySem.W.findIn X.K (.ref C) fld = some none) (hb : ∀ (a : Addr) (oe : Obj) (pn : List (Addr × Obj)), attributeBase n fld (X.suite a ((a, oe) :: pn)).env (eval n (X.suite a ((a, oe) :: pn)).env) = eval n (X.suite a ((a, oe) :: pn)).env := by intros; rfl) :
    XX X i (.Attribute n fld pos) (xFld ok fld) := xx_fld he hb ok T
theorem xd_and {f g : MX} {rest : List Expr} (ha : XX X i a f) (hb : XX X i (.BoolOp .And (b :: rest) pos) g) : XX X i (.BoolOp .And (a :: b :: rest) pos) (xAnd f g) := xx_and ha hb
theorem xd_not {f : MX} (ha : XX X i a f) : XX X i (.UnaryOp .Not a pos) (xNot f) := xx_not ha
theorem xd_eq {f : MX} {k : D} (hu : X.A.units + 64 < cLine) (ha : XX X i a f) (hk : k.flat = true) (hb : ∀ X : Cx, PE X b (tC (flatV k))) : XX X i (.Compare a [.Eq] [b] pos) (xEq f k) := xx_eq hu ha hk hb
theorem xd_isi {x2 : Str} {n : Expr} {p p2 : Pos} {D' : Addr} (he : ∀ (a : Addr) (oe : Obj) (pn : List (Addr × Obj)), PE (X.suite a ((a, oe) :: pn)) n (tVar i)) (hg : Gl X "isinstance") (hm : X.mg "isinstance" = none) (hg2 : Gl X x2) (hm2 : X.mg x2 = some (.ref D')) (sub : Str → Option Bool)
    (T : ∀ c C b, sub c = some b → X.mg c = some (.ref C) → ExcC X.K C ∧ (PySem.W.clsIn X.K C).isSome = true ∧ PySem.W.kitOne X.K (.ref C) (.ref D') = some b) (hd2 : (x2 == ("__debug__" : Str)) = false := by decide)
    (hs1 : ∀ (a : Addr) (oe : Obj) (pn : List (Addr × Obj)), starEach [n, .Name x2 p2] (X.suite a ((a, oe) :: pn)).env = (false, eval n (X.suite a ((a, oe) :: pn)).env) :: starEach [.Name x2 p2] (X.suite a ((a, oe) :: pn)).env := by intros; rfl)
    (hs2 : ∀ (a : Addr) (oe : Obj) (pn : List (Addr × Obj)), starEach [.Name x2 p2] (X.suite a ((a, oe) :: pn)).env = (false, eval (.Name x2 p2) (X.suite a ((a, oe) :: pn)).env) :: starEach [] (X.suite a ((a, oe) :: pn)).env := by intros; rfl)
    (hpl : ∀ (a : Addr) (oe : Obj) (pn : List (Addr × Obj)), (backTo pos (starEach [.Name x2 p2] (X.suite a ((a, oe) :: pn)).env)).any (·.1) = false := by intros; rfl) :
    XX X i (.Call (.Name "isinstance" p) [n, .Name x2 p2] [] pos) (xIsi sub) := xx_isi he hg hm hg2 hm2 hd2 PyProof.Rows.boot_isinstance sub T hs1 hs2 hpl
end

/-! ### facts of classes -/
/-- what a table of classes says: the name is the class's -/
def subT (cs : List (Str × Bool)) : Str → Option Bool := fun c => cs.lookup c
theorem subT_of {cs : List (Str × Bool)} {mg : Str → Option Value} {P : Str → Addr → Bool → Prop} (h : ∀ x ∈ cs, ∀ C, mg x.1 = some (.ref C) → P x.1 C x.2) : ∀ c C b, subT cs c = some b → mg c = some (.ref C) → P c C b := by
  intro c C b e m
  unfold subT at e
  have : (c, b) ∈ cs := PySem.mem_of_lookup e
  exact h _ this C m
theorem exm_of {K : PySem.W.Frag} {C S : Addr} {b : Bool} (h1 : PySem.W.subIn K (.ref S) (.type "BaseException") = some true) (h2 : PySem.W.isClsIn K S = true) (h3 : PySem.W.typeIn K (.ref S) = some (.type "type")) (h4 : PySem.W.subIn K (.ref C) (.ref S) = some b) :
    PySem.W.exmOne K (.ref C) (.ref S) = some b := by
  have e1 : (PySem.W.subIn K (.ref S) (.type "BaseException") == some true) = true := by rw [h1] <;> rfl
  have e2 : ((PySem.W.clsIn K S).isSome && PySem.W.typeIn K (.ref S) == some (.type "type")) = true := by
    have h2' : (PySem.W.clsIn K S).isSome = true := h2
    rw [h2', h3] <;> rfl
  show (if (PySem.W.subIn K (.ref S) (.type "BaseException") == some true) = true then (if ((PySem.W.clsIn K S).isSome && PySem.W.typeIn K (.ref S) == some (.type "type")) = true then PySem.W.subIn K (.ref C) (.ref S) else none) else none) = some b
  rw [if_pos e1, if_pos e2]
  exact h4
theorem kit_of {K : PySem.W.Frag} {C S : Addr} {b : Bool} (hne : C ≠ S) (h2 : PySem.W.isClsIn K S = true) (h3 : PySem.W.typeIn K (.ref S) = some (.type "type")) (h4 : PySem.W.subIn K (.ref C) (.ref S) = some b) :
    PySem.W.kitOne K (.ref C) (.ref S) = some b := by
  have e2 : ((PySem.W.clsIn K S).isSome && PySem.W.typeIn K (.ref S) == some (.type "type")) = true := by
    have h2' : (PySem.W.clsIn K S).isSome = true := h2
    rw [h2', h3] <;> rfl
  have e0 : ((Value.ref C) == (Value.ref S)) = false := by
    rw [beq_eq_false_iff_ne]
    intro z
    injection z with z
    exact hne z
  show (if ((Value.ref C) == (Value.ref S)) = true then some true else (if ((PySem.W.clsIn K S).isSome && PySem.W.typeIn K (.ref S) == some (.type "type")) = true then PySem.W.subIn K (.ref C) (.ref S) else none)) = some b
  rw [e0, if_neg Bool.false_ne_true, if_pos e2]
  exact h4
theorem kit_self {K : PySem.W.Frag} {C : Addr} : PySem.W.kitOne K (.ref C) (.ref C) = some true := by
  show (if ((Value.ref C) == (Value.ref C)) = true then some true else _) = some true
  rw [if_pos (beq_self_eq_true _)]

/-! ### the whole -/
theorem rp_ints_of {G : Ct} {S : List Addr} {H : Hp} : ∀ ns : List Int, RpA G S H (ns.map V.int) (ns.map D.int)
  | [] => .nil
  | _ :: r => .cons (.int _) (rp_ints_of r)
end Mr
namespace Mr
open PySem PySem.Spec PyProof.Rows L2
/-! ### what is walked: a list, a tuple, a text -/
def iItA (f : ME) : MI := fun r m => (f r m).bind fun d m1 => match d with
  | .lst ds => .ok (ds, none) m1
  | .rol ds => .ok (ds, none) m1
  | .loc n => match m1[n]? with
    | some ds => .ok (ds, some n) m1
    | none => .bad
  | .tup ds => .ok (ds, none) m1
  | .str x => .ok (signsD x, none) m1
  | _ => .bad
theorem ii_any {X : Cx} {W : WX} {tg e : Expr} {f : ME} (he : IE X W e f) : II X W tg e (iItA f) := by
  refine ⟨fun pins s σ H R I ⟨S, r, m, x, o⟩ => ?_⟩
  have h1 : ∀ g : MI, (∀ r m, g r m = iItA f r m) → LfI (Cx.ct X) W g σ H R := fun g hg => ⟨S, r, m, x, by rw [hg]; exact o⟩
  cases ef : f r m with
  | bad => unfold iItA at o; rw [ef] at o; exact o.elim
  | err c fs m1 => exact (ii_list he).run pins s σ H R I ⟨S, r, m, x, by unfold iItA at o; unfold iItL; rw [ef] at o ⊢; exact o⟩
  | ok d m1 =>
    have L : (iItL f r m = iItA f r m) → _ := fun e => (ii_list (tg := tg) he).run pins s σ H R I ⟨S, r, m, x, by rw [e]; exact o⟩
    cases d with
    | tup ds => exact (ii_tup he).run pins s σ H R I ⟨S, r, m, x, by unfold iItA at o; unfold iItT; rw [ef] at o ⊢; exact o⟩
    | str ds => exact (ii_str he).run pins s σ H R I ⟨S, r, m, x, by unfold iItA at o; unfold iItS; rw [ef] at o ⊢; exact o⟩
    | lst ds => exact L (by unfold iItL iItA; rw [ef]; rfl)
    | rol ds => exact L (by unfold iItL iItA; rw [ef]; rfl)
    | loc n => exact L (by unfold iItL iItA; rw [ef]; rfl)
    | _ => unfold iItA at o; rw [ef] at o; exact o.elim
end Mr
namespace Mr
open PySem PySem.Spec PyProof.Rows L2
section
variable {X : Cx} {W : WX}
theorem it_w {e : Expr} {f : MT} (h : IW X W e f) : IT X W e f := h.pt
theorem ie_lcV {elt tg iter : Expr} {ifs : List Expr} {scope : Scope} {vs : List Nat} {pos : Pos} {fi : MI} {g : MG} {t : MT} {fe : ME} {ts : List Nat} (own : List (Str × Nat)) (hc : X.calm = true) (hN : X.N.Nodup) (hi : II X W tg iter fi) (ok : BlkOk X.N X.env.scope scope own)
    (hg : ∀ (s : Shared) (H : Hp) (C : Addr) (cl : List (Str × Addr)) (fp : List Addr), IG (X.blk s H scope (compEnvC scope cl C X.env) fp) ts tg g) (ht : ∀ (s : Shared) (H : Hp) (C : Addr) (cl : List (Str × Addr)) (fp : List Addr), ITs (X.blk s H scope (compEnvC scope cl C X.env) fp) W0 ifs t)
    (he : ∀ (s : Shared) (H : Hp) (C : Addr) (cl : List (Str × Addr)) (fp : List Addr), IE (X.blk s H scope (compEnvC scope cl C X.env) fp) W0 elt fe) (hvs : own.map (·.2) = vs := by rfl) (hts : ∀ i ∈ ts, i ∈ vs := by decide) (hs : ∀ x, foldedSetIterable iter X.env x = pure x := by intro _; rfl) :
    IE X W (.ListComp elt [⟨tg, iter, ifs, 0⟩] scope pos) (iLc fi vs g t fe) := by
  subst hvs
  exact ie_lc hc hN hi ok hg ht he hts hs
theorem is_setLcV {i : Nat} {y : Str} {py : Pos} {elt tg iter : Expr} {ifs : List Expr} {scope : Scope} {vs : List Nat} {pos spos : Pos} {fi : MI} {g : MG} {t : MT} {fe : ME} {ts : List Nat} (own : List (Str × Nat)) (hc : X.calm = true) (hN : X.N.Nodup) (hy : X.N[i]? = some y) (hyl : X.env.scope.names.lookup y = some .local)
    (hsw : swapsWith (.ListComp elt [⟨tg, iter, ifs, 0⟩] scope pos) (some (.Name y py)) spos.line X.env = pure true) (hi : II X W tg iter fi) (ok : BlkOk X.N X.env.scope scope own)
    (hg : ∀ (s : Shared) (H : Hp) (C : Addr) (cl : List (Str × Addr)) (fp : List Addr), IG (X.blk s H scope (compEnvC scope cl C X.env) fp) ts tg g) (ht : ∀ (s : Shared) (H : Hp) (C : Addr) (cl : List (Str × Addr)) (fp : List Addr), ITs (X.blk s H scope (compEnvC scope cl C X.env) fp) W0 ifs t)
    (he : ∀ (s : Shared) (H : Hp) (C : Addr) (cl : List (Str × Addr)) (fp : List Addr), IE (X.blk s H scope (compEnvC scope cl C X.env) fp) W0 elt fe) (hvs : own.map (·.2) = vs := by rfl) (hts : ∀ i ∈ ts, i ∈ vs := by decide) (hs : ∀ x, foldedSetIterable iter X.env x = pure x := by intro _; rfl) :
    IS X W (.Assign [.Name y py] (.ListComp elt [⟨tg, iter, ifs, 0⟩] scope pos) spos) (sAsg (iLc fi vs g t fe) (gNm i)) := by
  subst hvs
  exact is_setLc hc hN hy hyl hsw hi ok hg ht he hts hs
end
end Mr
namespace Mr
open PySem PySem.Spec PyProof.Rows L2
theorem drop_self {C : Addr} {l : List Value} : (((Value.ref C :: l).dropWhile (· != .ref C)).drop 1) = l := by
  rw [List.dropWhile_cons]
  simp
theorem only_sqF {K : PySem.W.Frag} {H : Hp} {a : Addr} {xs : List V} (hO : Only H) (h : SqL K H a xs) : SqF K H a xs := by
  rcases h with (h | h) | h
  · rcases hO a with z | ⟨o, ys, z⟩
    · rw [h] at z; cases z
    · rw [h] at z; cases z
  · exact .inl h
  · exact .inr h
/-- the law's promise -/
def spLaw (K : PySem.W.Frag) : Sp := fun vs H Q _ => ∃ (a : Addr) (ns : List Int), vs = [.ref a] ∧ ns.length ≤ 63 ∧ SqF K H a (ns.map V.int) ∧ ∀ H', Q (.bl true) H'
theorem spLaw_of {K : PySem.W.Frag} {mg : Str → Option Value} {g : DA} (hl : ∀ ns : List Int, ns.length ≤ 63 → ∃ m', g [.rol (ns.map D.int)] [] = .ok (.bl true) m') : ∀ vs H Q E, spLaw K vs H Q E → SpI ⟨K, mg⟩ g vs H Q E := by
  rintro vs H Q E ⟨a, ns, rfl, hn, hS, q⟩
  obtain ⟨m', e⟩ := hl ns hn
  refine ⟨[], [], [.rol (ns.map D.int)], ⟨List.nodup_nil, rfl, fun n b c h _ => by simp at h⟩, .cons (.rol hS (rp_ints_of ns)) .nil, ?_⟩
  rw [e]
  intro S' H' _ v r
  cases r
  exact q H'
end Mr
namespace Mr
open PySem PySem.Spec PyProof.Rows L2
/-! ### readers with a name -/
def getR (o : Option (Option D)) (m : Mu) : Res D := match o with
  | some (some d) => .ok d m
  | _ => .bad
def cloR (n : Mu) (x : SRes) : Res D := match x with
  | .rt d m1 => giveD n.length d m1
  | .nx _ m1 => .ok .non (m1.take n.length)
  | .err c fs _ m1 => if oldF n.length fs = true then .err c fs (m1.take n.length) else .bad
  | _ => .bad
def opnR (x : SRes) : Res D := match x with
  | .rt d m1 => .ok d m1
  | .nx _ m1 => .ok .non m1
  | _ => .bad
theorem clo_ap (n k : Nat) (b : MS) (ds : List D) (m : Mu) (h : ds.length = n) : clo n k b ds m = cloR m (b (enter k ds) m) := by
  unfold clo
  rw [if_pos h]
  rfl
theorem opn_ap (n k : Nat) (b : MS) (ds : List D) (m : Mu) (h : ds.length = n) : opn n k b ds m = opnR (b (enter k ds) m) := by
  unfold opn
  rw [if_pos h]
  rfl
end Mr

/-! Mr9: what the mirrors compute, as rules for simp only -/
namespace Mr
open PySem PySem.Spec PyProof.Rows L2
/-- an operator at an item -/
def ixR (o : Option D) (m : Mu) : Res D := match o with
  | some d => .ok d m
  | none => .bad
def testR (d : D) (m : Mu) : Res Bool := match d with
  | .bl b => .ok b m
  | _ => .bad
def truR (o : Option Bool) (m : Mu) : Res Bool := match o with
  | some b => .ok b m
  | none => .bad
def blR (o : Option Bool) (m : Mu) : Res D := match o with
  | some b => .ok (.bl b) m
  | none => .bad
def asgR (o : Option (Rho × Mu)) : SRes := match o with
  | some x => .nx x.1 x.2
  | none => .bad
def whR (x : SRes) (w : Rho → Mu → SRes) : SRes := match x with
  | .nx r2 m2 => w r2 m2
  | .ct r2 m2 => w r2 m2
  | .bk r2 m2 => .nx r2 m2
  | .rt d m2 => .rt d m2
  | .err c fs r2 m2 => .err c fs r2 m2
  | .bad => .bad
section
variable (f g : ME) (fa ga : MA) (ft gt : MT) (fs gs : MS) (r : Rho) (m : Mu) (d e : D) (i j : Int) (b c : Bool) (k n : Nat)
theorem ev_iVar : iVar k r m = getR r[k]? m := rfl
theorem ev_getR : getR (some (some d)) m = .ok d m := rfl
theorem ev_iK : iK d r m = .ok d m := rfl
theorem ev_iNil : iNil r m = .ok [] m := rfl
theorem ev_iCons : iCons f fa r m = (f r m).bind fun d m1 => (fa r m1).bind fun ds m2 => .ok (d :: ds) m2 := rfl
theorem ev_op (o : D2) : iOp o f g r m = (f r m).bind fun x m1 => (g r m1).bind fun y m2 => o x y m2 := rfl
theorem ev_call (o : DA) : iCall o fa r m = (fa r m).bind o := rfl
theorem ev_callK (o : DA) (ix : List Nat) (ha : MA) : iCallK o k n ix fa ha r m = (fa r m).bind fun ds m1 => (ha r m1).bind fun es m2 => if ds.length = k ∧ es.length = n then o (picks ix (ds ++ es)) m2 else .bad := rfl
theorem ev_iTest : iTest f r m = (f r m).bind testR := rfl
theorem ev_testR : testR (.bl b) m = .ok b m := rfl
theorem ev_iTru : iTru f r m = (f r m).bind fun d m1 => truR (truD m1 d) m1 := rfl
theorem ev_truR : truR (some b) m = .ok b m := rfl
theorem ev_truB : truD m (.bl b) = some b := rfl
theorem ev_truN : truD m .non = some false := rfl
theorem ev_truI : truD m (.int i) = some (i != 0) := rfl
theorem ev_iAnd : iAnd ft gt r m = (ft r m).bind fun b m1 => if b = true then gt r m1 else .ok false m1 := rfl
theorem ev_iOr : iOr ft gt r m = (ft r m).bind fun b m1 => if b = true then .ok true m1 else gt r m1 := rfl
theorem ev_iNot : iNot ft r m = (ft r m).bind fun b m1 => .ok (!b) m1 := rfl
theorem ev_iAndV : iAndV f g r m = (f r m).bind fun d m1 => (testR d m1).bind fun b m2 => if b = true then g r m2 else .ok (.bl false) m2 := by
  unfold iAndV
  cases f r m with
  | ok d m1 => cases d <;> rfl
  | _ => rfl
theorem ev_iOrV : iOrV f g r m = (f r m).bind fun d m1 => (testR d m1).bind fun b m2 => if b = true then .ok (.bl true) m2 else g r m2 := by
  unfold iOrV
  cases f r m with
  | ok d m1 => cases d <;> rfl
  | _ => rfl
theorem ev_iNotV : iNotV f r m = (f r m).bind fun d m1 => (testR d m1).bind fun b m2 => .ok (.bl (!b)) m2 := by
  unfold iNotV
  cases f r m with
  | ok d m1 => cases d <;> rfl
  | _ => rfl
theorem ev_iIf : iIf ft f g r m = (ft r m).bind fun b m1 => if b = true then f r m1 else g r m1 := rfl
def negR (d : D) (m : Mu) : Res D := match d with
  | .int i => .ok (.int (-i)) m
  | _ => .bad
theorem ev_iNeg : iNeg f r m = (f r m).bind negR := rfl
theorem ev_negR : negR (.int i) m = .ok (.int (-i)) m := rfl
theorem ev_iTup : iTup fa r m = (fa r m).bind fun ds m1 => if ds.length ≤ sizeLine then .ok (.tup ds) m1 else .bad := rfl
theorem ev_iLst : iLst fa r m = (fa r m).bind fun ds m1 => if ds.length ≤ sizeLine then .ok (.lst ds) m1 else .bad := rfl
theorem ev_iLstO : iLstO fa r m = (fa r m).bind openL := rfl
/-! operators -/
theorem ev_addI : oAdd (.int i) (.int j) m = .ok (.int (i + j)) m := rfl
theorem ev_subI : oSub (.int i) (.int j) m = .ok (.int (i - j)) m := rfl
theorem ev_mulI (h : CMulW i j) : oMul (.int i) (.int j) m = .ok (.int (i * j)) m := by
  show (if CMulW i j then _ else _) = _
  rw [if_pos h]
theorem ev_modI (h : 0 < j) : oMod (.int i) (.int j) m = .ok (.int (i % j)) m := by
  show (if 0 < j then _ else _) = _
  rw [if_pos h]
theorem ev_divI (h : j ≠ 0 ∧ j.natAbs.log2 < 9000) : oDivN (.int i) (.int j) m = .ok (.int (i.fdiv j)) m := by
  show (if j ≠ 0 ∧ j.natAbs.log2 < 9000 then _ else _) = _
  rw [if_pos h]
theorem ev_powI (h : CPow i j) : oPow (.int i) (.int j) m = .ok (.int (i ^ j.toNat)) m := by
  show (if CPow i j then _ else _) = _
  rw [if_pos h]
theorem ev_ltI : oLt (.int i) (.int j) m = .ok (.bl (decide (i < j))) m := rfl
theorem ev_leI : oLe (.int i) (.int j) m = .ok (.bl (decide (i ≤ j))) m := rfl
theorem ev_gtI : oGt (.int i) (.int j) m = .ok (.bl (decide (j < i))) m := rfl
theorem ev_geI : oGe (.int i) (.int j) m = .ok (.bl (decide (j ≤ i))) m := rfl
theorem eqv_int : PyData.eqv (.int i) (.int j) = decide (i = j) := by
  first | rfl | (unfold PyData.eqv; rfl)
theorem ev_eq : oEq d e m = blR (eqD m d e) m := by
  unfold oEq blR
  cases eqD m d e <;> rfl
theorem ev_ne : oNe d e m = blR ((eqD m d e).map (!·)) m := by
  unfold oNe blR
  cases eqD m d e <;> rfl
theorem ev_blR : blR (some b) m = .ok (.bl b) m := rfl
theorem eqD_int : eqD m (.int i) (.int j) = some (decide (i = j)) := by
  show (if SeqAt.shaped (.int i) = true ∧ SeqAt.shaped (.int j) = true then some (PyData.eqv (.int i) (.int j)) else none) = _
  rw [if_pos ⟨rfl, rfl⟩, eqv_int]
theorem eqD_pair (i' j' : Int) : eqD m (.tup [.int i, .int j]) (.tup [.int i', .int j']) = some (decide (i = i' ∧ j = j')) := by
  show (if SeqAt.shaped (.tuple [.int i, .int j]) = true ∧ SeqAt.shaped (.tuple [.int i', .int j']) = true then some (PyData.eqv (.tuple [.int i, .int j]) (.tuple [.int i', .int j'])) else none) = _
  rw [if_pos ⟨rfl, rfl⟩]
  congr 1
  simp only [PyData.eqv, PyData.eqvAll, Bool.and_true, Bool.decide_and]
  rfl
theorem ev_isB : oIs (.bl b) (.bl c) m = .ok (.bl (decide (b = c))) m := rfl
theorem ev_isNotB : oIsNot (.bl b) (.bl c) m = .ok (.bl (!decide (b = c))) m := rfl
/-! items -/
theorem ev_ixT (ds : List D) : oIx (.tup ds) (.int i) m = ixR (atI ds i) m := by
  unfold oIx ixR viewS
  rfl
theorem ev_ixL (ds : List D) : oIx (.lst ds) (.int i) m = ixR (atI ds i) m := by
  unfold oIx ixR viewS viewL
  rfl
theorem ev_ixR (ds : List D) : oIx (.rol ds) (.int i) m = ixR (atI ds i) m := by
  unfold oIx ixR viewS
  rfl
theorem ev_ixO (ds : List D) (h : m[n]? = some ds) : oIx (.loc n) (.int i) m = ixR (atI ds i) m := by
  unfold oIx ixR viewS viewL
  simp only [h] <;> rfl
theorem ev_ixR1 : ixR (some d) m = .ok d m := rfl
theorem atI_nn {A : Type} {xs : List A} {i : Int} (h : 0 ≤ i) : atI xs i = xs[i.toNat]? := by
  unfold atI ixN
  simp only [h, if_true]
  by_cases hl : i < (xs.length : Int)
  · simp [hl]
  · simp only [hl, if_false, Option.bind_none]
    rw [List.getElem?_eq_none (by omega)]
/-! statements -/
theorem ev_sNil : sNil r m = .nx r m := rfl
theorem ev_sSeq : sSeq fs gs r m = (fs r m).bind gs := rfl
theorem ev_sAsg (o : MG) : sAsg f o r m = (f r m).thenS r fun d m1 => asgR (o d r m1) := rfl
theorem ev_asgR (x : Rho × Mu) : asgR (some x) = .nx x.1 x.2 := rfl
theorem ev_gNm : gNm k d r m = some (r.set k (some d), m) := rfl
theorem ev_sExpr : sExpr f r m = (f r m).thenS r fun _ m1 => .nx r m1 := rfl
theorem ev_sRet : sRet f r m = (f r m).thenS r fun d m1 => .rt d m1 := rfl
theorem ev_sRetN : sRetN r m = .rt .non m := rfl
theorem ev_sBreak : sBreak r m = .bk r m := rfl
theorem ev_sCont : sCont r m = .ct r m := rfl
theorem ev_sIf : sIf ft fs gs r m = (ft r m).thenS r fun b m1 => if b = true then fs r m1 else gs r m1 := rfl
theorem ev_sRaise (x y : Str) : sRaise x y f r m = (f r m).thenS r fun d m1 => .err x [(y, d)] r m1 := rfl
def parR (k n : Nat) (r : Rho) (ds : List D) (m : Mu) : SRes := match ds with
  | [d, e] => .nx ((r.set k (some d)).set n (some e)) m
  | _ => .bad
theorem ev_sPar : sPar k n fa r m = (fa r m).thenS r (parR k n r) := rfl
theorem ev_parR : parR k n r [d, e] m = .nx ((r.set k (some d)).set n (some e)) m := rfl
def par3R (k n l : Nat) (r : Rho) (ds : List D) (m : Mu) : SRes := match ds with
  | [d, e, c] => .nx (((r.set k (some d)).set n (some e)).set l (some c)) m
  | _ => .bad
theorem ev_sPar3 (l : Nat) : sPar3 k n l fa r m = (fa r m).thenS r (par3R k n l r) := rfl
theorem ev_par3R (l : Nat) (c : D) : par3R k n l r [d, e, c] m = .nx (((r.set k (some d)).set n (some e)).set l (some c)) m := rfl
theorem ev_while : sWhile ft fs r m = (ft r m).thenS r fun c m1 => if c = true then whR (fs r m1) (sWhile ft fs) else .nx r m1 := sWhile_eq ft fs r m
theorem ev_whR (w : Rho → Mu → SRes) : whR (.nx r m) w = w r m := rfl
theorem ev_whC (w : Rho → Mu → SRes) : whR (.ct r m) w = w r m := rfl
theorem ev_whB (w : Rho → Mu → SRes) : whR (.bk r m) w = .nx r m := rfl
theorem ev_whT (w : Rho → Mu → SRes) : whR (.rt d m) w = .rt d m := rfl
theorem ev_clo1 : cloR m (.rt (.int i) m) = .ok (.int i) m := by
  show Res.ok (D.int i) (m.take m.length) = _
  rw [List.take_length]
theorem ev_cloB : cloR m (.rt (.bl b) m) = .ok (.bl b) m := by
  show Res.ok (D.bl b) (m.take m.length) = _
  rw [List.take_length]
theorem ev_cloI (m' : Mu) (h : m'.length = m.length) : cloR m (.rt (.int i) m') = .ok (.int i) m' := by
  show Res.ok (D.int i) (m'.take m.length) = _
  rw [← h, List.take_length]
theorem ev_cloO (m' : Mu) (h : m'.length = m.length) (ho : d.old m.length = true) : cloR m (.rt d m') = .ok d m' := by
  show giveD m.length d m' = _
  unfold giveD
  rw [if_pos ho, ← h, List.take_length]
theorem ev_cloE (x : Str) (fl : List (Str × D)) (m' : Mu) (h : m'.length = m.length) (ho : oldF m.length fl = true) : cloR m (.err x fl r m') = .err x fl m' := by
  show (if oldF m.length fl = true then Res.err x fl (m'.take m.length) else .bad) = _
  rw [if_pos ho, ← h, List.take_length]
end
/-! ### items of an open list are set -/
def gsR2 (n : Nat) (d : D) (r : Rho) (y : Res D) : Option (Rho × Mu) := match y with
  | .ok (.int i) m2 => (putAt n i d m2).map fun m3 => (r, m3)
  | _ => none
def gsR (d : D) (r : Rho) (x : Res D) (fi : ME) : Option (Rho × Mu) := match x with
  | .ok (.loc n) m1 => gsR2 n d r (fi r m1)
  | _ => none
theorem ev_gSub (fo fi : ME) (d : D) (r : Rho) (m : Mu) : gSubL fo fi d r m = gsR d r (fo r m) fi := rfl
theorem ev_gsR (fi : ME) (d : D) (r : Rho) (m : Mu) (n : Nat) : gsR d r (.ok (.loc n) m) fi = gsR2 n d r (fi r m) := rfl
theorem ev_gsR2 (d : D) (r : Rho) (m : Mu) (n : Nat) (i : Int) : gsR2 n d r (.ok (.int i) m) = (putAt n i d m).map fun m3 => (r, m3) := rfl
theorem ev_put {d : D} {m : Mu} {n j : Nat} {i : Int} {c : List D} (h : m[n]? = some c) (hj : ixN c.length i = some j) (ho : d.old n = true) : putAt n i d m = some (m.set n (c.set j d)) := by
  unfold putAt
  simp only [h, hj, if_pos ho]
/-! ### tuples, lists are handed back -/
theorem old_int (n : Nat) (i : Int) : (D.int i).old n = true := rfl
theorem old_tup2 (n : Nat) (d e : D) : (D.tup [d, e]).old n = (d.old n && (e.old n && true)) := rfl
/-! ### comprehensions -/
theorem okN {ds : List D} {m : Mu} : okSrc none ds m := trivial
theorem lc_inv {it : MI} {i : Nat} {e : ME} {r : Rho} {m m1 : Mu} {ds : List D} {Q : List D → Mu → Prop} (hit : it r m = .ok (ds, none) m1) (hl : ds.length ≤ sizeLine) (h0 : Q [] m1)
    (he : ∀ (acc : List D) (b : Mu) (d : D), Q acc b → acc.length < ds.length → b.length = m1.length → d ∈ ds → ∃ y b', e ((wipeR r [i]).set i (some d)) (b ++ [acc]) = .ok y (b' ++ [acc]) ∧ b'.length = b.length ∧ y.old b.length = true ∧ Q (acc ++ [y]) b') :
    ∃ acc b', iLc it [i] (gNm i) tYesM e r m = .ok (.lst acc) b' ∧ Q acc b' ∧ acc.length = ds.length ∧ b'.length = m1.length := by
  have step : ∀ (l : List D) (acc : List D) (b : Mu), (∀ d ∈ l, d ∈ ds) → acc.length + l.length = ds.length → b.length = m1.length → Q acc b →
      ∃ acc' b', lcD none ds (gNm i) tYesM e (wipeR r [i]) m1.length l (b ++ [acc]) = .ok () (b' ++ [acc']) ∧ Q acc' b' ∧ acc'.length = ds.length ∧ b'.length = m1.length := by
    intro l
    induction l with
    | nil =>
      intro acc b _ hn hb hq
      refine ⟨acc, b, ?_, hq, by simpa using hn, hb⟩
      simp only [lcD]
      rw [if_pos okN]
    | cons d l ih =>
      intro acc b hm hn hb hq
      obtain ⟨y, b', e1, e2, e3, e4⟩ := he acc b d hq (by rw [List.length_cons] at hn; omega) hb (hm d List.mem_cons_self)
      obtain ⟨acc', b2, f1, f2, f3, f4⟩ := ih (acc ++ [y]) b' (fun x hx => hm x (List.mem_cons_of_mem _ hx)) (by rw [List.length_append, List.length_singleton]; rw [List.length_cons] at hn; omega) (e2.trans hb) e4
      refine ⟨acc', b2, ?_, f2, f3, f4⟩
      simp only [lcD]
      rw [if_pos okN]
      simp only [gNm, tYesM, Res.safe_ok, Res.bind_ok, if_true, e1]
      have hx : (b' ++ [acc])[m1.length]? = some acc := by rw [← hb, ← e2]; simp
      simp only [hx]
      have hc : acc.length < sizeLine ∧ y.old m1.length = true := ⟨by rw [List.length_cons] at hn; omega, by rw [← hb]; exact e3⟩
      rw [if_pos hc]
      have hs : (b' ++ [acc]).set m1.length (acc ++ [y]) = b' ++ [acc ++ [y]] := by
        rw [List.set_append_right _ _ (by omega)]
        have : m1.length - b'.length = 0 := by omega
        rw [this]
        rfl
      rw [hs]
      exact f1
  obtain ⟨acc, b', e1, e2, e3, e4⟩ := step ds [] m1 (fun _ h => h) (by simp) rfl h0
  refine ⟨acc, b', ?_, e2, e3, e4⟩
  unfold iLc
  simp only [hit, Res.bind_ok, e1]
  unfold lcEnd
  have hx : (b' ++ [acc])[m1.length]? = some acc := by rw [← e4]; simp
  simp only [hx]
  rw [if_pos (by rw [List.length_append, e4]; rfl)]
  have : (b' ++ [acc]).take m1.length = b' := by rw [← e4]; simp
  rw [this]
theorem lc_pure {it : MI} {i : Nat} {e : ME} {r : Rho} {m m1 : Mu} {ds : List D} (y : D → D) (hit : it r m = .ok (ds, none) m1) (hl : ds.length ≤ sizeLine)
    (he : ∀ d ∈ ds, ∀ m', e ((wipeR r [i]).set i (some d)) m' = .ok (y d) m') (ho : ∀ d ∈ ds, (y d).old m1.length = true) : iLc it [i] (gNm i) tYesM e r m = .ok (.lst (ds.map y)) m1 := by
  have step : ∀ (l : List D) (acc : List D), (∀ d ∈ l, d ∈ ds) → acc.length + l.length = ds.length → lcD none ds (gNm i) tYesM e (wipeR r [i]) m1.length l (m1 ++ [acc]) = .ok () (m1 ++ [acc ++ l.map y]) := by
    intro l
    induction l with
    | nil =>
      intro acc _ hn
      simp only [lcD]
      rw [if_pos okN]
      simp
    | cons d l ih =>
      intro acc hm hn
      simp only [lcD]
      rw [if_pos okN]
      have hd := hm d List.mem_cons_self
      simp only [gNm, tYesM, Res.safe_ok, Res.bind_ok, if_true, he d hd]
      have hx : (m1 ++ [acc])[m1.length]? = some acc := by simp
      simp only [hx]
      have hc : acc.length < sizeLine ∧ (y d).old m1.length = true := ⟨by rw [List.length_cons] at hn; omega, ho d hd⟩
      rw [if_pos hc]
      have hs : (m1 ++ [acc]).set m1.length (acc ++ [y d]) = m1 ++ [acc ++ [y d]] := by
        rw [List.set_append_right _ _ (Nat.le_refl _)]
        simp
      rw [hs, ih (acc ++ [y d]) (fun x hx => hm x (List.mem_cons_of_mem _ hx)) (by rw [List.length_append, List.length_singleton]; rw [List.length_cons] at hn; omega)]
      simp
  unfold iLc
  simp only [hit, Res.bind_ok, step ds [] (fun _ h => h) (by simp)]
  unfold lcEnd
  have hx : (m1 ++ [[] ++ ds.map y])[m1.length]? = some (ds.map y) := by simp
  simp only [hx]
  rw [if_pos (by rw [List.length_append]; rfl)]
  simp
/-! ### loops over what stays -/
theorem for_inv {it : MI} {g : MG} {b : MS} {r : Rho} {m m1 : Mu} {ds : List D} {Q : Nat → Rho → Mu → Prop} (hit : it r m = .ok (ds, none) m1) (h0 : Q 0 r m1)
    (hb : ∀ (j : Nat) (d : D) (r : Rho) (m : Mu), ds[j]? = some d → Q j r m → ∃ r1 m1, g d r m = some (r1, m1) ∧ ∃ r2 m2, b r1 m1 = .nx r2 m2 ∧ Q (j + 1) r2 m2) :
    ∃ r' m', sFor it g b r m = .nx r' m' ∧ Q ds.length r' m' := by
  have step : ∀ (k j : Nat) (r : Rho) (m : Mu), j + k = ds.length → Q j r m → ∃ r' m', forD none ds g b (ds.drop j) r m = .nx r' m' ∧ Q ds.length r' m' := by
    intro k
    induction k with
    | zero =>
      intro j r m hj hq
      have : j = ds.length := by omega
      subst this
      rw [List.drop_length]
      refine ⟨r, m, ?_, hq⟩
      simp only [forD]
      rw [if_pos okN]
    | succ k ih =>
      intro j r m hj hq
      have hlt : j < ds.length := by omega
      rw [List.drop_eq_getElem_cons hlt]
      obtain ⟨r1, m1, e1, r2, m2, e2, e3⟩ := hb j ds[j] r m (List.getElem?_eq_getElem hlt) hq
      obtain ⟨r', m', f1, f2⟩ := ih (j + 1) r2 m2 (by omega) e3
      refine ⟨r', m', ?_, f2⟩
      simp only [forD]
      rw [if_pos okN]
      simp only [e1, e2]
      exact f1
  obtain ⟨r', m', e1, e2⟩ := step ds.length 0 r m1 (by omega) h0
  refine ⟨r', m', ?_, e2⟩
  unfold sFor
  rw [hit]
  simp only [Res.thenS_ok]
  rw [List.drop_zero] at e1
  exact e1
/-! ### range -/
def r1R (ds : List D) (m : Mu) : Res (List D × Option Nat) := match ds with
  | [.int j] => if -(2 ^ 62) ≤ j ∧ j < 2 ^ 62 then .ok (rangeD 0 j.toNat, none) m else .bad
  | _ => .bad
theorem ev_iItR1 (fa : MA) (r : Rho) (m : Mu) : iItR1 fa r m = (fa r m).bind r1R := rfl
theorem ev_r1R (j : Int) (m : Mu) (h : -(2 ^ 62) ≤ j ∧ j < 2 ^ 62) : r1R [.int j] m = .ok (rangeD 0 j.toNat, none) m := by
  show (if -(2 ^ 62) ≤ j ∧ j < 2 ^ 62 then Res.ok (rangeD 0 j.toNat, none) m else .bad) = _
  rw [if_pos h]
theorem ev_r1N (j : Nat) (m : Mu) (h : j ≤ 1000000) : r1R [.int (j : Int)] m = .ok (rangeD 0 j, none) m := by
  have e := ev_r1R (j : Int) m (by omega)
  rw [e]
  rfl
/-! ### step by step -/
section
variable {f g : MS} {fe : ME} {fa : MA} {t : MT} {r r1 : Rho} {m m1 m0 : Mu} {d e : D} {i j : Nat} {P : Rho → Mu → Prop}
theorem seq_nx (h : f r m = .nx r1 m1) (h2 : ∃ r2 m2, g r1 m1 = .nx r2 m2 ∧ P r2 m2) : ∃ r2 m2, sSeq f g r m = .nx r2 m2 ∧ P r2 m2 := by
  obtain ⟨r2, m2, e, p⟩ := h2
  refine ⟨r2, m2, ?_, p⟩
  rw [ev_sSeq, h]
  exact e
theorem seq_ex {Q : Rho → Mu → Prop} (h : ∃ r1 m1, f r m = .nx r1 m1 ∧ Q r1 m1) (h2 : ∀ r1 m1, Q r1 m1 → ∃ r2 m2, g r1 m1 = .nx r2 m2 ∧ P r2 m2) : ∃ r2 m2, sSeq f g r m = .nx r2 m2 ∧ P r2 m2 := by
  obtain ⟨r1, m1, e, q⟩ := h
  exact seq_nx e (h2 r1 m1 q)
theorem seq_clo {x : Res D → Prop} (h : f r m = .nx r1 m1) (h2 : x (cloR m0 (g r1 m1))) : x (cloR m0 (sSeq f g r m)) := by
  rw [ev_sSeq, h]
  exact h2
theorem seq_cloE {Q : Rho → Mu → Prop} {x : Res D → Prop} (h : ∃ r1 m1, f r m = .nx r1 m1 ∧ Q r1 m1) (h2 : ∀ r1 m1, Q r1 m1 → x (cloR m0 (g r1 m1))) : x (cloR m0 (sSeq f g r m)) := by
  obtain ⟨r1, m1, e, q⟩ := h
  exact seq_clo e (h2 r1 m1 q)
theorem if_no (h : t r m = .ok false m1) : sIf t f sNil r m = .nx r m1 := by
  rw [ev_sIf, h]
  rfl
theorem asg_nm (h : fe r m = .ok d m1) : sAsg fe (gNm i) r m = .nx (r.set i (some d)) m1 := by
  rw [ev_sAsg, h]
  rfl
theorem par_nm (h : fa r m = .ok [d, e] m1) : sPar i j fa r m = .nx ((r.set i (some d)).set j (some e)) m1 := by
  rw [ev_sPar, h]
  rfl
end
end Mr

namespace K44
open PySem PySem.Spec PyProof.Rows L2 Mr
noncomputable section
def top (i : Nat) : Stmt := PySem.Challenge.pw_roomlooks_k44_fractions.main.body.getD i (.Pass ⟨0, 0, 0, 0⟩)
abbrev st_is_integer : Stmt := top 5
abbrev st_common_divisor : Stmt := top 8
abbrev st_fraction_of : Stmt := top 9
abbrev st_is_fraction : Stmt := top 10
abbrev st_plus : Stmt := top 11
abbrev st_minus : Stmt := top 12
abbrev st_times : Stmt := top 13
abbrev st_ratio : Stmt := top 14
abbrev st_less : Stmt := top 15
abbrev st_sum_of : Stmt := top 16
abbrev st__law_box : Stmt := top 18
abbrev st__law_take : Stmt := top 19
abbrev st__law_pick : Stmt := top 20
abbrev st__law_divisor : Stmt := top 21
abbrev st__law_is_fraction : Stmt := top 22
abbrev st__law_same : Stmt := top 23
abbrev st__law_number : Stmt := top 24
abbrev st__law_pair : Stmt := top 25
abbrev st__law_refused : Stmt := top 26
abbrev st__law_truth : Stmt := top 27
abbrev st__law_almost : Stmt := top 28
abbrev st_law : Stmt := top 29
/-! mirrors -/
theorem sc_is_integer : FnScope ["value"] ["value"] (defScope st_is_integer) := ⟨rfl, rfl, rfl, by decide +kernel, rfl, by decide +kernel, by decide +kernel⟩
theorem sc_common_divisor : FnScope ["one", "other"] ["one", "other"] (defScope st_common_divisor) := ⟨rfl, rfl, rfl, by decide +kernel, rfl, by decide +kernel, by decide +kernel⟩
theorem sc_fraction_of : FnScope ["top", "bottom", "part"] ["top", "bottom"] (defScope st_fraction_of) := ⟨rfl, rfl, rfl, by decide +kernel, rfl, by decide +kernel, by decide +kernel⟩
theorem sc_is_fraction : FnScope ["value", "part"] ["value"] (defScope st_is_fraction) := ⟨rfl, rfl, rfl, by decide +kernel, rfl, by decide +kernel, by decide +kernel⟩
theorem sc_plus : FnScope ["one", "other"] ["one", "other"] (defScope st_plus) := ⟨rfl, rfl, rfl, by decide +kernel, rfl, by decide +kernel, by decide +kernel⟩
theorem sc_minus : FnScope ["one", "other"] ["one", "other"] (defScope st_minus) := ⟨rfl, rfl, rfl, by decide +kernel, rfl, by decide +kernel, by decide +kernel⟩
theorem sc_times : FnScope ["one", "other"] ["one", "other"] (defScope st_times) := ⟨rfl, rfl, rfl, by decide +kernel, rfl, by decide +kernel, by decide +kernel⟩
theorem sc_ratio : FnScope ["one", "other"] ["one", "other"] (defScope st_ratio) := ⟨rfl, rfl, rfl, by decide +kernel, rfl, by decide +kernel, by decide +kernel⟩
theorem sc_less : FnScope ["one", "other"] ["one", "other"] (defScope st_less) := ⟨rfl, rfl, rfl, by decide +kernel, rfl, by decide +kernel, by decide +kernel⟩
theorem sc_sum_of : FnScope ["fractions", "found", "fraction"] ["fractions"] (defScope st_sum_of) := ⟨rfl, rfl, rfl, by decide +kernel, rfl, by decide +kernel, by decide +kernel⟩
theorem sc__law_box : FnScope ["_law_script", "_law_k", "_law_cell"] ["_law_script", "_law_k"] (defScope st__law_box) := ⟨rfl, rfl, rfl, by decide +kernel, rfl, by decide +kernel, by decide +kernel⟩
theorem sc__law_take : FnScope ["_law_box_here", "_law_many", "_law_digit", "_law_raw"] ["_law_box_here", "_law_many"] (defScope st__law_take) := ⟨rfl, rfl, rfl, by decide +kernel, rfl, by decide +kernel, by decide +kernel⟩
theorem sc__law_pick : FnScope ["_law_box_here", "_law_some"] ["_law_box_here", "_law_some"] (defScope st__law_pick) := ⟨rfl, rfl, rfl, by decide +kernel, rfl, by decide +kernel, by decide +kernel⟩
theorem sc__law_divisor : FnScope ["_law_one", "_law_other", "_law_pair_here"] ["_law_one", "_law_other"] (defScope st__law_divisor) := ⟨rfl, rfl, rfl, by decide +kernel, rfl, by decide +kernel, by decide +kernel⟩
theorem sc__law_is_fraction : FnScope ["_law_value", "_law_part"] ["_law_value"] (defScope st__law_is_fraction) := ⟨rfl, rfl, rfl, by decide +kernel, rfl, by decide +kernel, by decide +kernel⟩
theorem sc__law_same : FnScope ["_law_told", "_law_pair_here"] ["_law_told", "_law_pair_here"] (defScope st__law_same) := ⟨rfl, rfl, rfl, by decide +kernel, rfl, by decide +kernel, by decide +kernel⟩
theorem sc__law_number : FnScope ["_law_box_here"] ["_law_box_here"] (defScope st__law_number) := ⟨rfl, rfl, rfl, by decide +kernel, rfl, by decide +kernel, by decide +kernel⟩
theorem sc__law_pair : FnScope ["_law_box_here", "_law_top", "_law_bottom", "_law_many"] ["_law_box_here"] (defScope st__law_pair) := ⟨rfl, rfl, rfl, by decide +kernel, rfl, by decide +kernel, by decide +kernel⟩
theorem sc__law_refused : FnScope ["_law_one", "_law_by_ratio", "error"] ["_law_one", "_law_by_ratio"] (defScope st__law_refused) := ⟨rfl, rfl, rfl, by decide +kernel, rfl, by decide +kernel, by decide +kernel⟩
theorem sc__law_truth : FnScope ["_law_told", "_law_due"] ["_law_told", "_law_due"] (defScope st__law_truth) := ⟨rfl, rfl, rfl, by decide +kernel, rfl, by decide +kernel, by decide +kernel⟩
theorem sc__law_almost : FnScope ["_law_box_here", "_law_one", "_law_top", "_law_bottom", "_law_many", "_law_found"] ["_law_box_here", "_law_one"] (defScope st__law_almost) := ⟨rfl, rfl, rfl, by decide +kernel, rfl, by decide +kernel, by decide +kernel⟩
theorem sc_law : FnScope ["_law_script", "_law_k", "_law_box_here", "_law_first", "_law_second", "_law_one", "_law_other", "_law_a", "_law_b", "_law_c", "_law_d", "_law_rest", "_law_top", "_law_bottom", "_law_pair_here", "_law_turn", "_law_value"] ["_law_script"] (defScope st_law) := ⟨rfl, rfl, rfl, by decide +kernel, rfl, by decide +kernel, by decide +kernel⟩
def b_is_integer : MS := (sRet (iAndV (iCall pIsi (iCons (iVar 0) (iCons (iK (.ty "int")) iNil))) (iNotV (iCall pIsi (iCons (iVar 0) (iCons (iK (.ty "bool")) iNil))))))
def m_is_integer : DA := clo 1 1 b_is_integer
theorem ap_is_integer (d0 : D) (m : Mu) : m_is_integer [d0] m = cloR m (b_is_integer [some d0] m) := clo_ap 1 1 b_is_integer [d0] m rfl
def b_common_divisor : MS := (sSeq (sPar 0 1 (iCons (iCall pAbs (iCons (iVar 0) iNil)) (iCons (iCall pAbs (iCons (iVar 1) iNil)) iNil)))
  (sSeq (sWhile (iTest (iOp oGt (iVar 1) (iK (.int 0)))) (sPar 0 1 (iCons (iVar 1) (iCons (iOp oMod (iVar 0) (iVar 1)) iNil))))
  (sRet (iVar 0))))
def m_common_divisor : DA := clo 2 2 b_common_divisor
theorem ap_common_divisor (d0 d1 : D) (m : Mu) : m_common_divisor [d0, d1] m = cloR m (b_common_divisor [some d0, some d1] m) := clo_ap 2 2 b_common_divisor [d0, d1] m rfl
def b_fraction_of : MS := (sSeq (sIf (iTest (iOp oEq (iVar 1) (iK (.int 0)))) (sRaise "InvalidNumber" "word" (iK (.str "bottom"))) sNil)
  (sSeq (sAsg (iIf (iTest (iOp oGt (iVar 1) (iK (.int 0)))) (iCall m_common_divisor (iCons (iVar 0) (iCons (iVar 1) iNil))) (iNeg (iCall m_common_divisor (iCons (iVar 0) (iCons (iVar 1) iNil))))) (gNm 2))
  (sRet (iTup (iCons (iOp oDivN (iVar 0) (iVar 2)) (iCons (iOp oDivN (iVar 1) (iVar 2)) iNil))))))
def m_fraction_of : DA := clo 2 3 b_fraction_of
theorem ap_fraction_of (d0 d1 : D) (m : Mu) : m_fraction_of [d0, d1] m = cloR m (b_fraction_of [some d0, some d1, none] m) := clo_ap 2 3 b_fraction_of [d0, d1] m rfl
def b_is_fraction : MS := (sSeq (sIf (iOr (iNot (iTru (iCall pIsi (iCons (iVar 0) (iCons (iK (.ty "tuple")) iNil))))) (iOr (iTest (iOp oNe (iCall pLen (iCons (iVar 0) iNil)) (iK (.int 2)))) (iNot (iTru (iCall pAll (iCons (iLc (iItA (iVar 0)) [1] (gNm 1) tYesM (iCall m_is_integer (iCons (iVar 1) iNil))) iNil)))))) (sRet (iK (.bl false))) sNil)
  (sRet (iAndV (iOp oGt (iOp oIx (iVar 0) (iK (.int 1))) (iK (.int 0))) (iOp oEq (iCall m_common_divisor (iCons (iOp oIx (iVar 0) (iK (.int 0))) (iCons (iOp oIx (iVar 0) (iK (.int 1))) iNil))) (iK (.int 1))))))
def m_is_fraction : DA := clo 1 2 b_is_fraction
theorem ap_is_fraction (d0 : D) (m : Mu) : m_is_fraction [d0] m = cloR m (b_is_fraction [some d0, none] m) := clo_ap 1 2 b_is_fraction [d0] m rfl
def b_plus : MS := (sRet (iCall m_fraction_of (iCons (iOp oAdd (iOp oMul (iOp oIx (iVar 0) (iK (.int 0))) (iOp oIx (iVar 1) (iK (.int 1)))) (iOp oMul (iOp oIx (iVar 1) (iK (.int 0))) (iOp oIx (iVar 0) (iK (.int 1))))) (iCons (iOp oMul (iOp oIx (iVar 0) (iK (.int 1))) (iOp oIx (iVar 1) (iK (.int 1)))) iNil))))
def m_plus : DA := clo 2 2 b_plus
theorem ap_plus (d0 d1 : D) (m : Mu) : m_plus [d0, d1] m = cloR m (b_plus [some d0, some d1] m) := clo_ap 2 2 b_plus [d0, d1] m rfl
def b_minus : MS := (sRet (iCall m_fraction_of (iCons (iOp oSub (iOp oMul (iOp oIx (iVar 0) (iK (.int 0))) (iOp oIx (iVar 1) (iK (.int 1)))) (iOp oMul (iOp oIx (iVar 1) (iK (.int 0))) (iOp oIx (iVar 0) (iK (.int 1))))) (iCons (iOp oMul (iOp oIx (iVar 0) (iK (.int 1))) (iOp oIx (iVar 1) (iK (.int 1)))) iNil))))
def m_minus : DA := clo 2 2 b_minus
theorem ap_minus (d0 d1 : D) (m : Mu) : m_minus [d0, d1] m = cloR m (b_minus [some d0, some d1] m) := clo_ap 2 2 b_minus [d0, d1] m rfl
def b_times : MS := (sRet (iCall m_fraction_of (iCons (iOp oMul (iOp oIx (iVar 0) (iK (.int 0))) (iOp oIx (iVar 1) (iK (.int 0)))) (iCons (iOp oMul (iOp oIx (iVar 0) (iK (.int 1))) (iOp oIx (iVar 1) (iK (.int 1)))) iNil))))
def m_times : DA := clo 2 2 b_times
theorem ap_times (d0 d1 : D) (m : Mu) : m_times [d0, d1] m = cloR m (b_times [some d0, some d1] m) := clo_ap 2 2 b_times [d0, d1] m rfl
def b_ratio : MS := (sRet (iCall m_fraction_of (iCons (iOp oMul (iOp oIx (iVar 0) (iK (.int 0))) (iOp oIx (iVar 1) (iK (.int 1)))) (iCons (iOp oMul (iOp oIx (iVar 0) (iK (.int 1))) (iOp oIx (iVar 1) (iK (.int 0)))) iNil))))
def m_ratio : DA := clo 2 2 b_ratio
theorem ap_ratio (d0 d1 : D) (m : Mu) : m_ratio [d0, d1] m = cloR m (b_ratio [some d0, some d1] m) := clo_ap 2 2 b_ratio [d0, d1] m rfl
def b_less : MS := (sRet (iOp oLt (iOp oMul (iOp oIx (iVar 0) (iK (.int 0))) (iOp oIx (iVar 1) (iK (.int 1)))) (iOp oMul (iOp oIx (iVar 1) (iK (.int 0))) (iOp oIx (iVar 0) (iK (.int 1))))))
def m_less : DA := clo 2 2 b_less
theorem ap_less (d0 d1 : D) (m : Mu) : m_less [d0, d1] m = cloR m (b_less [some d0, some d1] m) := clo_ap 2 2 b_less [d0, d1] m rfl
def b_sum_of : MS := (sSeq (sAsg (iK (.tup [(.int 0), (.int 1)])) (gNm 1))
  (sSeq (sFor (iItA (iVar 0)) (gNm 2) (sAsg (iCall m_plus (iCons (iVar 1) (iCons (iVar 2) iNil))) (gNm 1)))
  (sRet (iVar 1))))
def m_sum_of : DA := clo 1 3 b_sum_of
theorem ap_sum_of (d0 : D) (m : Mu) : m_sum_of [d0] m = cloR m (b_sum_of [some d0, none, none] m) := clo_ap 1 3 b_sum_of [d0] m rfl
def b__law_box : MS := (sSeq (sAsg (iOp oAdd (iOp oMul (iK (.int 7919)) (iVar 1)) (iK (.int 61007))) (gNm 2))
  (sSeq (sIf (iTest (iOp oLt (iVar 1) (iCall pLen (iCons (iVar 0) iNil)))) (sAsg (iCall pAbs (iCons (iOp oIx (iVar 0) (iVar 1)) iNil)) (gNm 2)) sNil)
  (sRet (iLstO (iCons (iOp oIx (iLst (iCons (iK (.int 0)) (iCons (iVar 2) iNil))) (iCall pInt (iCons (iOp oGe (iVar 2) (iOp oPow (iK (.int 10)) (iK (.int 18)))) iNil))) (iCons (iOp oAdd (iOp oMod (iCall pInt (iCons (iOp oAdd (iOp oAdd (iOp oMul (iOp oMod (iCall pInt (iCons (iVar 2) iNil)) (iK (.int 2147483629))) (iK (.int 48271))) (iOp oMul (iK (.int 61007)) (iVar 1))) (iK (.int 977))) iNil)) (iK (.int 2147483629))) (iK (.int 1))) (iCons (iK (.int 0)) iNil)))))))
def m__law_box : DA := opn 2 3 b__law_box
theorem ap__law_box (d0 d1 : D) (m : Mu) : m__law_box [d0, d1] m = opnR (b__law_box [some d0, some d1, none] m) := opn_ap 2 3 b__law_box [d0, d1] m rfl
def b__law_take : MS := (sSeq (sIf (iTest (iOp oGt (iOp oIx (iVar 0) (iK (.int 0))) (iK (.int 0)))) (sSeq (sAsg (iOp oMod (iCall pInt (iCons (iOp oIx (iVar 0) (iK (.int 0))) iNil)) (iVar 1)) (gNm 2))
  (sSeq (sAsg (iOp oDivN (iOp oIx (iVar 0) (iK (.int 0))) (iVar 1)) (gSubL (iVar 0) (iK (.int 0))))
  (sRet (iVar 2)))) sNil)
  (sSeq (sAsg (iOp oAdd (iOp oIx (iVar 0) (iK (.int 2))) (iK (.int 1))) (gSubL (iVar 0) (iK (.int 2))))
  (sSeq (sAsg (iOp oMod (iCall pInt (iCons (iOp oAdd (iOp oMul (iOp oAdd (iOp oIx (iVar 0) (iK (.int 1))) (iOp oMul (iK (.int 99991)) (iOp oIx (iVar 0) (iK (.int 2))))) (iK (.int 69621))) (iK (.int 53))) iNil)) (iK (.int 2147483563))) (gNm 3))
  (sSeq (sAsg (iOp oAdd (iOp oMod (iCall pInt (iCons (iOp oAdd (iOp oMul (iVar 3) (iK (.int 40692))) (iK (.int 27011))) iNil)) (iK (.int 2147483629))) (iK (.int 1))) (gSubL (iVar 0) (iK (.int 1))))
  (sRet (iOp oMod (iCall pInt (iCons (iOp oDivN (iOp oAdd (iOp oMul (iVar 3) (iK (.int 2147483647))) (iOp oIx (iVar 0) (iK (.int 1)))) (iK (.int 8191))) iNil)) (iVar 1)))))))
def m__law_take : DA := clo 2 4 b__law_take
theorem ap__law_take (d0 d1 : D) (m : Mu) : m__law_take [d0, d1] m = cloR m (b__law_take [some d0, some d1, none, none] m) := clo_ap 2 4 b__law_take [d0, d1] m rfl
def b__law_pick : MS := (sRet (iOp oIx (iVar 1) (iCall m__law_take (iCons (iVar 0) (iCons (iCall pLen (iCons (iVar 1) iNil)) iNil)))))
def m__law_pick : DA := clo 2 2 b__law_pick
theorem ap__law_pick (d0 d1 : D) (m : Mu) : m__law_pick [d0, d1] m = cloR m (b__law_pick [some d0, some d1] m) := clo_ap 2 2 b__law_pick [d0, d1] m rfl
def b__law_divisor : MS := (sSeq (sAsg (iLst (iCons (iCall pAbs (iCons (iVar 0) iNil)) (iCons (iCall pAbs (iCons (iVar 1) iNil)) iNil))) (gNm 2))
  (sSeq (sWhile (iTest (iOp oNe (iOp oIx (iVar 2) (iK (.int 1))) (iK (.int 0)))) (sAsg (iLst (iCons (iOp oIx (iVar 2) (iK (.int 1))) (iCons (iOp oMod (iCall pInt (iCons (iOp oIx (iVar 2) (iK (.int 0))) iNil)) (iOp oIx (iVar 2) (iK (.int 1)))) iNil))) (gNm 2)))
  (sRet (iOp oIx (iVar 2) (iK (.int 0))))))
def m__law_divisor : DA := clo 2 3 b__law_divisor
theorem ap__law_divisor (d0 d1 : D) (m : Mu) : m__law_divisor [d0, d1] m = cloR m (b__law_divisor [some d0, some d1, none] m) := clo_ap 2 3 b__law_divisor [d0, d1] m rfl
def b__law_is_fraction : MS := (sSeq (sIf (iOr (iNot (iTru (iCall pIsi (iCons (iVar 0) (iCons (iK (.ty "tuple")) iNil))))) (iTest (iOp oNe (iCall pLen (iCons (iVar 0) iNil)) (iK (.int 2))))) (sRet (iK (.bl false))) sNil)
  (sSeq (sIf (iNot (iTru (iCall pAll (iCons (iLc (iItA (iVar 0)) [1] (gNm 1) tYesM (iAndV (iCall pIsi (iCons (iVar 1) (iCons (iK (.ty "int")) iNil))) (iNotV (iCall pIsi (iCons (iVar 1) (iCons (iK (.ty "bool")) iNil)))))) iNil)))) (sRet (iK (.bl false))) sNil)
  (sRet (iAndV (iOp oGt (iOp oIx (iVar 0) (iK (.int 1))) (iK (.int 0))) (iOp oEq (iCall m__law_divisor (iCons (iOp oIx (iVar 0) (iK (.int 0))) (iCons (iOp oIx (iVar 0) (iK (.int 1))) iNil))) (iK (.int 1)))))))
def m__law_is_fraction : DA := clo 1 2 b__law_is_fraction
theorem ap__law_is_fraction (d0 : D) (m : Mu) : m__law_is_fraction [d0] m = cloR m (b__law_is_fraction [some d0, none] m) := clo_ap 1 2 b__law_is_fraction [d0] m rfl
def b__law_same : MS := (sRet (iAndV (iCall m__law_is_fraction (iCons (iVar 0) iNil)) (iOp oEq (iOp oMul (iOp oIx (iVar 0) (iK (.int 0))) (iOp oIx (iVar 1) (iK (.int 1)))) (iOp oMul (iOp oIx (iVar 1) (iK (.int 0))) (iOp oIx (iVar 0) (iK (.int 1)))))))
def m__law_same : DA := clo 2 2 b__law_same
theorem ap__law_same (d0 d1 : D) (m : Mu) : m__law_same [d0, d1] m = cloR m (b__law_same [some d0, some d1] m) := clo_ap 2 2 b__law_same [d0, d1] m rfl
def b__law_number : MS := (sSeq (sIf (iTest (iOp oEq (iCall m__law_take (iCons (iVar 0) (iCons (iK (.int 3)) iNil))) (iK (.int 0)))) (sRet (iOp oSub (iCall m__law_take (iCons (iVar 0) (iCons (iOp oPow (iK (.int 10)) (iK (.int 20))) iNil))) (iOp oPow (iK (.int 10)) (iK (.int 12))))) sNil)
  (sRet (iOp oSub (iCall m__law_take (iCons (iVar 0) (iCons (iK (.int 19)) iNil))) (iK (.int 9)))))
def m__law_number : DA := clo 1 1 b__law_number
theorem ap__law_number (d0 : D) (m : Mu) : m__law_number [d0] m = cloR m (b__law_number [some d0] m) := clo_ap 1 1 b__law_number [d0] m rfl
def b__law_pair : MS := (sSeq (sPar 1 2 (iCons (iCall m__law_number (iCons (iVar 0) iNil)) (iCons (iCall m__law_number (iCons (iVar 0) iNil)) iNil)))
  (sSeq (sAsg (iCall m__law_pick (iCons (iVar 0) (iCons (iLst (iCons (iK (.int 1)) (iCons (iK (.int 1)) (iCons (iK (.int 2)) (iCons (iK (.int 6)) (iCons (iOp oPow (iK (.int 10)) (iK (.int 6))) iNil)))))) iNil))) (gNm 3))
  (sRet (iTup (iCons (iOp oMul (iVar 1) (iVar 3)) (iCons (iIf (iTest (iOp oNe (iVar 2) (iK (.int 0)))) (iOp oMul (iVar 3) (iVar 2)) (iVar 3)) iNil))))))
def m__law_pair : DA := clo 1 4 b__law_pair
theorem ap__law_pair (d0 : D) (m : Mu) : m__law_pair [d0] m = cloR m (b__law_pair [some d0, none, none, none] m) := clo_ap 1 4 b__law_pair [d0] m rfl
def b__law_refused : MS := (sSeq (sTry 2 (sIf (iTru (iVar 1)) (sExpr (iCall m_ratio (iCons (iVar 0) (iCons (iCall m_fraction_of (iCons (iK (.int 0)) (iCons (iK (.int 5)) iNil))) iNil)))) (sExpr (iCallK m_fraction_of 0 2 [0, 1] iNil (iCons (iOp oIx (iVar 0) (iK (.int 0))) (iCons (iK (.int 0)) iNil))))) (subT [("InvalidNumber", true)]) (xAnd (xIsi (subT [("InvalidNumber", true)])) (xAnd (xNot (xIsi (subT [("InvalidNumber", false)]))) (xEq (xFld (fun c => decide (c ∈ (["InvalidNumber"] : List Str))) "word") (.str "bottom")))))
  (sRet (iK (.bl false))))
def m__law_refused : DA := clo 2 3 b__law_refused
theorem ap__law_refused (d0 d1 : D) (m : Mu) : m__law_refused [d0, d1] m = cloR m (b__law_refused [some d0, some d1, none] m) := clo_ap 2 3 b__law_refused [d0, d1] m rfl
def b__law_truth : MS := (sRet (iIf (iTru (iVar 1)) (iOp oIs (iVar 0) (iK (.bl true))) (iOp oIs (iVar 0) (iK (.bl false)))))
def m__law_truth : DA := clo 2 2 b__law_truth
theorem ap__law_truth (d0 d1 : D) (m : Mu) : m__law_truth [d0, d1] m = cloR m (b__law_truth [some d0, some d1] m) := clo_ap 2 2 b__law_truth [d0, d1] m rfl
def b__law_almost : MS := (sSeq (sPar3 2 3 4 (iCons (iOp oIx (iVar 1) (iK (.int 0))) (iCons (iOp oIx (iVar 1) (iK (.int 1))) (iCons (iOp oAdd (iK (.int 2)) (iCall m__law_take (iCons (iVar 0) (iCons (iK (.int 3)) iNil)))) iNil))))
  (sSeq (sAsg (iLst (iCons (iVar 1) (iCons (iTup (iCons (iOp oMul (iVar 2) (iVar 4)) (iCons (iOp oMul (iVar 3) (iVar 4)) iNil))) (iCons (iTup (iCons (iVar 2) (iCons (iOp oSub (iK (.int 0)) (iVar 3)) iNil))) (iCons (iTup (iCons (iOp oSub (iK (.int 0)) (iVar 2)) (iCons (iOp oSub (iK (.int 0)) (iVar 3)) iNil))) (iCons (iTup (iCons (iK (.int 0)) (iCons (iK (.int 1)) iNil))) (iCons (iTup (iCons (iK (.int 0)) (iCons (iVar 4) iNil))) (iCons (iTup (iCons (iK (.int 0)) (iCons (iK (.int 0)) iNil))) iNil)))))))) (gNm 5))
  (sSeq (sAsg (iOp oAdd (iVar 5) (iLst (iCons (iLst (iCons (iVar 2) (iCons (iVar 3) iNil))) (iCons (iTup (iCons (iVar 2) (iCons (iVar 3) (iCons (iK (.int 1)) iNil)))) (iCons (iTup (iCons (iVar 2) iNil)) (iCons (iTup iNil) (iCons (iTup (iCons (iVar 2) (iCons (iK (.int 0)) iNil))) (iCons (iTup (iCons (iK (.bl true)) (iCons (iK (.int 1)) iNil))) (iCons (iTup (iCons (iK (.int 1)) (iCons (iK (.bl true)) iNil))) (iCons (iTup (iCons (iVar 4) (iCons (iK (.int 1)) iNil))) (iCons (iTup (iCons (iVar 4) (iCons (iVar 4) iNil))) iNil))))))))))) (gNm 5))
  (sRet (iOp oAdd (iVar 5) (iLst (iCons (iK .non) (iCons (iVar 2) (iCons (iK (.str "1/2")) (iCons (iTup (iCons (iK (.str "1")) (iCons (iK (.int 2)) iNil))) (iCons (iTup (iCons (iK .non) (iCons (iK (.int 1)) iNil))) (iCons (iTup (iCons (iVar 2) (iCons (iK .non) iNil))) (iCons (iTup (iCons (iTup (iCons (iVar 2) (iCons (iVar 3) iNil))) (iCons (iK (.int 1)) iNil))) (iCons (iTup (iCons (iOp oSub (iK (.int 0)) (iK (.int 1))) (iCons (iK (.int 1)) iNil))) (iCons (iTup (iCons (iVar 4) (iCons (iOp oAdd (iVar 4) (iK (.int 1))) iNil))) iNil)))))))))))))))
def m__law_almost : DA := clo 2 6 b__law_almost
theorem ap__law_almost (d0 d1 : D) (m : Mu) : m__law_almost [d0, d1] m = cloR m (b__law_almost [some d0, some d1, none, none, none, none] m) := clo_ap 2 6 b__law_almost [d0, d1] m rfl
def t_law_0 : MS := (sPar 12 13 (iCons (iOp oAdd (iOp oMul (iVar 12) (iOp oIx (iVar 14) (iK (.int 1)))) (iOp oMul (iOp oIx (iVar 14) (iK (.int 0))) (iVar 13))) (iCons (iOp oMul (iVar 13) (iOp oIx (iVar 14) (iK (.int 1)))) iNil)))
def t_law_1 : MS := (sAsg (iCall m__law_box (iCons (iVar 0) (iCons (iVar 1) iNil))) (gNm 2))
def t_law_2 : MS := (sPar 3 4 (iCons (iCall m__law_pair (iCons (iVar 2) iNil)) (iCons (iCall m__law_pair (iCons (iVar 2) iNil)) iNil)))
def t_law_3 : MS := (sPar 5 6 (iCons (iCall m_fraction_of (iCons (iOp oIx (iVar 3) (iK (.int 0))) (iCons (iOp oIx (iVar 3) (iK (.int 1))) iNil))) (iCons (iCallK m_fraction_of 0 2 [1, 0] iNil (iCons (iOp oIx (iVar 4) (iK (.int 1))) (iCons (iOp oIx (iVar 4) (iK (.int 0))) iNil))) iNil)))
def t_law_4 : MS := (sIf (iOr (iNot (iTru (iCall m__law_same (iCons (iVar 5) (iCons (iVar 3) iNil))))) (iNot (iTru (iCall m__law_same (iCons (iVar 6) (iCons (iVar 4) iNil)))))) (sRet (iK (.bl false))) sNil)
def t_law_5 : MS := (sAsg (iTup (iCons (iOp oIx (iVar 3) (iK (.int 0))) (iCons (iOp oIx (iVar 3) (iK (.int 1))) (iCons (iOp oIx (iVar 4) (iK (.int 0))) (iCons (iOp oIx (iVar 4) (iK (.int 1))) iNil))))) (gTp 4 (gsCons (gNm 7) (gsCons (gNm 8) (gsCons (gNm 9) (gsCons (gNm 10) gsNil))))))
def t_law_6 : MS := (sIf (iOr (iNot (iTru (iCall m__law_same (iCons (iCall m_plus (iCons (iVar 5) (iCons (iVar 6) iNil))) (iCons (iTup (iCons (iOp oAdd (iOp oMul (iVar 7) (iVar 10)) (iOp oMul (iVar 9) (iVar 8))) (iCons (iOp oMul (iVar 8) (iVar 10)) iNil))) iNil))))) (iNot (iTru (iCall m__law_same (iCons (iCall m_times (iCons (iVar 5) (iCons (iVar 6) iNil))) (iCons (iTup (iCons (iOp oMul (iVar 7) (iVar 9)) (iCons (iOp oMul (iVar 8) (iVar 10)) iNil))) iNil)))))) (sRet (iK (.bl false))) sNil)
def t_law_7 : MS := (sIf (iNot (iTru (iCall m__law_same (iCons (iCallK m_minus 0 2 [1, 0] iNil (iCons (iVar 6) (iCons (iVar 5) iNil))) (iCons (iTup (iCons (iOp oSub (iOp oMul (iVar 7) (iVar 10)) (iOp oMul (iVar 9) (iVar 8))) (iCons (iOp oMul (iVar 8) (iVar 10)) iNil))) iNil))))) (sRet (iK (.bl false))) sNil)
def t_law_8 : MS := (sIf (iAnd (iTest (iOp oNe (iVar 9) (iK (.int 0)))) (iNot (iTru (iCall m__law_same (iCons (iCall m_ratio (iCons (iVar 5) (iCons (iVar 6) iNil))) (iCons (iTup (iCons (iOp oMul (iVar 7) (iVar 10)) (iCons (iOp oMul (iVar 8) (iVar 9)) iNil))) iNil)))))) (sRet (iK (.bl false))) sNil)
def t_law_9 : MS := (sIf (iOr (iNot (iTru (iCall m__law_refused (iCons (iVar 5) (iCons (iK (.bl true)) iNil))))) (iNot (iTru (iCall m__law_refused (iCons (iVar 5) (iCons (iK (.bl false)) iNil)))))) (sRet (iK (.bl false))) sNil)
def t_law_10 : MS := (sIf (iOr (iNot (iTru (iCall m__law_truth (iCons (iCall m_less (iCons (iVar 5) (iCons (iVar 6) iNil))) (iCons (iOp oLt (iOp oMul (iOp oMul (iOp oSub (iOp oMul (iVar 7) (iVar 10)) (iOp oMul (iVar 9) (iVar 8))) (iVar 8)) (iVar 10)) (iK (.int 0))) iNil))))) (iTest (iOp oIsNot (iCall m_less (iCons (iVar 5) (iCons (iVar 5) iNil))) (iK (.bl false))))) (sRet (iK (.bl false))) sNil)
def t_law_11 : MS := (sIf (iNot (iTru (iCall m__law_truth (iCons (iCall m_less (iCons (iVar 6) (iCons (iVar 5) iNil))) (iCons (iOp oLt (iOp oMul (iOp oMul (iOp oSub (iOp oMul (iVar 9) (iVar 8)) (iOp oMul (iVar 7) (iVar 10))) (iVar 8)) (iVar 10)) (iK (.int 0))) iNil))))) (sRet (iK (.bl false))) sNil)
def t_law_12 : MS := (sIf (iOr (iTest (iOp oNe (iCallK m_plus 0 2 [1, 0] iNil (iCons (iVar 6) (iCons (iVar 5) iNil))) (iCall m_plus (iCons (iVar 5) (iCons (iVar 6) iNil))))) (iTest (iOp oNe (iCallK m_less 0 2 [1, 0] iNil (iCons (iVar 5) (iCons (iVar 6) iNil))) (iCall m_less (iCons (iVar 6) (iCons (iVar 5) iNil)))))) (sRet (iK (.bl false))) sNil)
def t_law_13 : MS := (sIf (iOr (iTest (iOp oNe (iCallK m_times 0 2 [1, 0] iNil (iCons (iVar 6) (iCons (iVar 5) iNil))) (iCall m_times (iCons (iVar 5) (iCons (iVar 6) iNil))))) (iTest (iOp oIsNot (iCallK m_is_fraction 0 1 [0] iNil (iCons (iVar 5) iNil)) (iK (.bl true))))) (sRet (iK (.bl false))) sNil)
def t_law_14 : MS := (sIf (iOr (iTest (iOp oNe (iCallK m_sum_of 0 1 [0] iNil (iCons (iTup (iCons (iVar 5) (iCons (iVar 6) iNil))) iNil)) (iCall m_plus (iCons (iVar 5) (iCons (iVar 6) iNil))))) (iAnd (iTest (iOp oNe (iVar 9) (iK (.int 0)))) (iTest (iOp oNe (iCallK m_ratio 0 2 [1, 0] iNil (iCons (iVar 6) (iCons (iVar 5) iNil))) (iCall m_ratio (iCons (iVar 5) (iCons (iVar 6) iNil))))))) (sRet (iK (.bl false))) sNil)
def t_law_15 : MS := (sAsg (iLc (iItR1 (iCons (iCall m__law_take (iCons (iVar 2) (iCons (iK (.int 7)) iNil))) iNil)) [15] (gNm 15) tYesM (iCall m__law_pair (iCons (iVar 2) iNil))) (gNm 11))
def t_law_16 : MS := (sAsg (iTup (iCons (iK (.int 0)) (iCons (iK (.int 1)) iNil))) (gTp 2 (gsCons (gNm 12) (gsCons (gNm 13) gsNil))))
def t_law_17 : MS := (sIf (iNot (iTru (iCall m__law_same (iCons (iCall m_sum_of (iCons (iCall pTuple (iCons (iLc (iItA (iVar 11)) [14] (gNm 14) tYesM (iCall m_fraction_of (iCons (iOp oIx (iVar 14) (iK (.int 0))) (iCons (iOp oIx (iVar 14) (iK (.int 1))) iNil)))) iNil)) iNil)) (iCons (iTup (iCons (iVar 12) (iCons (iVar 13) iNil))) iNil))))) (sRet (iK (.bl false))) sNil)
def t_law_18 : MS := (sIf (iOr (iTest (iOp oNe (iCall m_sum_of (iCons (iTup iNil) iNil)) (iTup (iCons (iK (.int 0)) (iCons (iK (.int 1)) iNil))))) (iOr (iTest (iOp oNe (iCall m_minus (iCons (iVar 5) (iCons (iVar 5) iNil))) (iTup (iCons (iK (.int 0)) (iCons (iK (.int 1)) iNil))))) (iTest (iOp oNe (iCall m_times (iCons (iVar 5) (iCons (iTup (iCons (iK (.int 1)) (iCons (iK (.int 1)) iNil))) iNil))) (iVar 5))))) (sRet (iK (.bl false))) sNil)
def t_law_19 : MS := (sIf (iNot (iTru (iCall pAll (iCons (iLc (iItA (iCall m__law_almost (iCons (iVar 2) (iCons (iVar 5) iNil)))) [16] (gNm 16) tYesM (iCall m__law_truth (iCons (iCall m_is_fraction (iCons (iVar 16) iNil)) (iCons (iCall m__law_is_fraction (iCons (iVar 16) iNil)) iNil)))) iNil)))) (sRet (iK (.bl false))) sNil)
def t_law_20 : MS := (sFor (iItR1 (iCons (iCall pMax2 (iCons (iK (.int 1)) (iCons (iCall pMin2 (iCons (iK (.int 3)) (iCons (iCall pLen (iCons (iVar 0) iNil)) iNil))) iNil))) iNil)) (gNm 1) (sSeq t_law_1
  (sSeq t_law_2
  (sSeq t_law_3
  (sSeq t_law_4
  (sSeq t_law_5
  (sSeq t_law_6
  (sSeq t_law_7
  (sSeq t_law_8
  (sSeq t_law_9
  (sSeq t_law_10
  (sSeq t_law_11
  (sSeq t_law_12
  (sSeq t_law_13
  (sSeq t_law_14
  (sSeq t_law_15
  (sSeq t_law_16
  (sSeq (sFor (iItA (iVar 11)) (gNm 14) t_law_0)
  (sSeq t_law_17
  (sSeq t_law_18
  t_law_19))))))))))))))))))))
def b_law : MS := (sSeq t_law_20
  (sRet (iK (.bl true))))
def m_law : DA := clo 1 17 b_law
theorem ap_law (d0 : D) (m : Mu) : m_law [d0] m = cloR m (b_law [some d0, none, none, none, none, none, none, none, none, none, none, none, none, none, none, none, none] m) := clo_ap 1 17 b_law [d0] m rfl
/-- what the written part says -/
structure Tx (P : Program) (K : PySem.W.Frag) (mg : Str → Option Value) where
  a_is_integer : Addr
  f_is_integer : FuncData
  F_is_integer : Fun K "is_integer" "is_integer" st_is_integer a_is_integer f_is_integer
  g_is_integer : mg "is_integer" = some (.ref a_is_integer)
  a_common_divisor : Addr
  f_common_divisor : FuncData
  F_common_divisor : Fun K "common_divisor" "common_divisor" st_common_divisor a_common_divisor f_common_divisor
  g_common_divisor : mg "common_divisor" = some (.ref a_common_divisor)
  a_fraction_of : Addr
  f_fraction_of : FuncData
  F_fraction_of : Fun K "fraction_of" "fraction_of" st_fraction_of a_fraction_of f_fraction_of
  g_fraction_of : mg "fraction_of" = some (.ref a_fraction_of)
  a_is_fraction : Addr
  f_is_fraction : FuncData
  F_is_fraction : Fun K "is_fraction" "is_fraction" st_is_fraction a_is_fraction f_is_fraction
  g_is_fraction : mg "is_fraction" = some (.ref a_is_fraction)
  a_plus : Addr
  f_plus : FuncData
  F_plus : Fun K "plus" "plus" st_plus a_plus f_plus
  g_plus : mg "plus" = some (.ref a_plus)
  a_minus : Addr
  f_minus : FuncData
  F_minus : Fun K "minus" "minus" st_minus a_minus f_minus
  g_minus : mg "minus" = some (.ref a_minus)
  a_times : Addr
  f_times : FuncData
  F_times : Fun K "times" "times" st_times a_times f_times
  g_times : mg "times" = some (.ref a_times)
  a_ratio : Addr
  f_ratio : FuncData
  F_ratio : Fun K "ratio" "ratio" st_ratio a_ratio f_ratio
  g_ratio : mg "ratio" = some (.ref a_ratio)
  a_less : Addr
  f_less : FuncData
  F_less : Fun K "less" "less" st_less a_less f_less
  g_less : mg "less" = some (.ref a_less)
  a_sum_of : Addr
  f_sum_of : FuncData
  F_sum_of : Fun K "sum_of" "sum_of" st_sum_of a_sum_of f_sum_of
  g_sum_of : mg "sum_of" = some (.ref a_sum_of)
  a__law_box : Addr
  f__law_box : FuncData
  F__law_box : Fun K "_law_box" "_law_box" st__law_box a__law_box f__law_box
  g__law_box : mg "_law_box" = some (.ref a__law_box)
  a__law_take : Addr
  f__law_take : FuncData
  F__law_take : Fun K "_law_take" "_law_take" st__law_take a__law_take f__law_take
  g__law_take : mg "_law_take" = some (.ref a__law_take)
  a__law_pick : Addr
  f__law_pick : FuncData
  F__law_pick : Fun K "_law_pick" "_law_pick" st__law_pick a__law_pick f__law_pick
  g__law_pick : mg "_law_pick" = some (.ref a__law_pick)
  a__law_divisor : Addr
  f__law_divisor : FuncData
  F__law_divisor : Fun K "_law_divisor" "_law_divisor" st__law_divisor a__law_divisor f__law_divisor
  g__law_divisor : mg "_law_divisor" = some (.ref a__law_divisor)
  a__law_is_fraction : Addr
  f__law_is_fraction : FuncData
  F__law_is_fraction : Fun K "_law_is_fraction" "_law_is_fraction" st__law_is_fraction a__law_is_fraction f__law_is_fraction
  g__law_is_fraction : mg "_law_is_fraction" = some (.ref a__law_is_fraction)
  a__law_same : Addr
  f__law_same : FuncData
  F__law_same : Fun K "_law_same" "_law_same" st__law_same a__law_same f__law_same
  g__law_same : mg "_law_same" = some (.ref a__law_same)
  a__law_number : Addr
  f__law_number : FuncData
  F__law_number : Fun K "_law_number" "_law_number" st__law_number a__law_number f__law_number
  g__law_number : mg "_law_number" = some (.ref a__law_number)
  a__law_pair : Addr
  f__law_pair : FuncData
  F__law_pair : Fun K "_law_pair" "_law_pair" st__law_pair a__law_pair f__law_pair
  g__law_pair : mg "_law_pair" = some (.ref a__law_pair)
  a__law_refused : Addr
  f__law_refused : FuncData
  F__law_refused : Fun K "_law_refused" "_law_refused" st__law_refused a__law_refused f__law_refused
  g__law_refused : mg "_law_refused" = some (.ref a__law_refused)
  a__law_truth : Addr
  f__law_truth : FuncData
  F__law_truth : Fun K "_law_truth" "_law_truth" st__law_truth a__law_truth f__law_truth
  g__law_truth : mg "_law_truth" = some (.ref a__law_truth)
  a__law_almost : Addr
  f__law_almost : FuncData
  F__law_almost : Fun K "_law_almost" "_law_almost" st__law_almost a__law_almost f__law_almost
  g__law_almost : mg "_law_almost" = some (.ref a__law_almost)
  a_law : Addr
  f_law : FuncData
  F_law : Fun K "law" "law" st_law a_law f_law
  g_law : mg "law" = some (.ref a_law)
  n_abs : mg "abs" = none
  n_all : mg "all" = none
  n_bool : mg "bool" = none
  n_int : mg "int" = none
  n_isinstance : mg "isinstance" = none
  n_len : mg "len" = none
  n_max : mg "max" = none
  n_min : mg "min" = none
  n_range : mg "range" = none
  n_tuple : mg "tuple" = none
  a_ZERO : Addr
  g_ZERO : mg "ZERO" = some (.ref a_ZERO)
  r_ZERO : ∀ {S : List Addr} {H : Hp}, Rp ⟨K, mg⟩ S H (.ref a_ZERO) (.tup [(.int 0), (.int 1)])
  a_RoomError : Addr
  g_RoomError : mg "RoomError" = some (.ref a_RoomError)
  a_InvalidNumber : Addr
  g_InvalidNumber : mg "InvalidNumber" = some (.ref a_InvalidNumber)
  i_InvalidNumber : Addr
  e_InvalidNumber : PySem.SupX.SupTxt P K mg "InvalidNumber" "word" a_InvalidNumber i_InvalidNumber
  a_Refused : Addr
  g_Refused : mg "Refused" = some (.ref a_Refused)
  xf_InvalidNumber : XfC K a_InvalidNumber
  xn_InvalidNumber_word : PySem.W.findIn K (.ref a_InvalidNumber) "word" = some none
  xc_InvalidNumber : ExcC K a_InvalidNumber
  xs_InvalidNumber : (PySem.W.clsIn K a_InvalidNumber).isSome = true
  xk_InvalidNumber_InvalidNumber : PySem.W.kitOne K (.ref a_InvalidNumber) (.ref a_InvalidNumber) = some true
  xk_InvalidNumber_Refused : PySem.W.kitOne K (.ref a_InvalidNumber) (.ref a_Refused) = some false
  xm_InvalidNumber_RoomError : PySem.W.exmOne K (.ref a_InvalidNumber) (.ref a_RoomError) = some true
variable {P : Program} {w : World} {K : PySem.W.Frag} {mg : Str → Option Value} {base : Heap}
theorem fld_InvalidNumber_word (T : Tx P K mg) : ∀ c C, c ∈ (["InvalidNumber"] : List Str) → mg c = some (.ref C) → XfC K C ∧ PySem.W.findIn K (.ref C) "word" = some none := by
  intro c C h m
  simp only [List.mem_cons, List.not_mem_nil, or_false] at h
  subst h
  · rw [T.g_InvalidNumber] at m; cases m; exact ⟨T.xf_InvalidNumber, T.xn_InvalidNumber_word⟩
theorem isi_InvalidNumber_InvalidNumber (T : Tx P K mg) : ∀ c C b, (subT [("InvalidNumber", true)]) c = some b → mg c = some (.ref C) → ExcC K C ∧ (PySem.W.clsIn K C).isSome = true ∧ PySem.W.kitOne K (.ref C) (.ref T.a_InvalidNumber) = some b := by
  refine subT_of (P := fun c C b => ExcC K C ∧ (PySem.W.clsIn K C).isSome = true ∧ PySem.W.kitOne K (.ref C) (.ref T.a_InvalidNumber) = some b) fun x hx C m => ?_
  simp only [List.mem_cons, List.not_mem_nil, or_false] at hx
  subst hx
  · have m := T.g_InvalidNumber.symm.trans m; cases m; exact ⟨T.xc_InvalidNumber, T.xs_InvalidNumber, T.xk_InvalidNumber_InvalidNumber⟩
theorem isi_InvalidNumber_Refused (T : Tx P K mg) : ∀ c C b, (subT [("InvalidNumber", false)]) c = some b → mg c = some (.ref C) → ExcC K C ∧ (PySem.W.clsIn K C).isSome = true ∧ PySem.W.kitOne K (.ref C) (.ref T.a_Refused) = some b := by
  refine subT_of (P := fun c C b => ExcC K C ∧ (PySem.W.clsIn K C).isSome = true ∧ PySem.W.kitOne K (.ref C) (.ref T.a_Refused) = some b) fun x hx C m => ?_
  simp only [List.mem_cons, List.not_mem_nil, or_false] at hx
  subst hx
  · have m := T.g_InvalidNumber.symm.trans m; cases m; exact ⟨T.xc_InvalidNumber, T.xs_InvalidNumber, T.xk_InvalidNumber_Refused⟩
theorem exm_InvalidNumber_RoomError (T : Tx P K mg) : ∀ c C b, (subT [("InvalidNumber", true)]) c = some b → mg c = some (.ref C) → PySem.W.exmOne K (.ref C) (.ref T.a_RoomError) = some b := by
  refine subT_of (P := fun c C b => PySem.W.exmOne K (.ref C) (.ref T.a_RoomError) = some b) fun x hx C m => ?_
  simp only [List.mem_cons, List.not_mem_nil, or_false] at hx
  subst hx
  · have m := T.g_InvalidNumber.symm.trans m; cases m; exact T.xm_InvalidNumber_RoomError
theorem bd_is_integer (T : Tx P K mg) : Binds K T.f_is_integer ["value"] [] := T.F_is_integer.binds fun _ _ _ _ _ _ us hl => match us, hl with | [_], _ => rfl
theorem ok_is_integer (T : Tx P K mg) : FnOk P w K mg base (L2.CX P w) 2 T.a_is_integer T.f_is_integer ["value"] (SpI ⟨K, mg⟩ m_is_integer) :=
  def_clo T.F_is_integer sc_is_integer fun cdv A outer s H E hr tk =>
  (iss_one (is_ret (ie_and (ie_callB cr_isi (by rfl) T.n_isinstance PyProof.Rows.boot_isinstance (ia_cons (ie_var (pv 0)) (ia_cons (ie_const (d := .ty "int") rfl (pe_bltn (by rfl) T.n_int (by decide +kernel) rfl)) ia_nil))) (ie_one (ie_not (ie_callB cr_isi (by rfl) T.n_isinstance PyProof.Rows.boot_isinstance (ia_cons (ie_var (pv 0)) (ia_cons (ie_const (d := .ty "bool") rfl (pe_bltn (by rfl) T.n_bool (by decide +kernel) rfl)) ia_nil))))))))
theorem bd_common_divisor (T : Tx P K mg) : Binds K T.f_common_divisor ["one", "other"] [] := T.F_common_divisor.binds fun _ _ _ _ _ _ us hl => match us, hl with | [_, _], _ => rfl
theorem ok_common_divisor (T : Tx P K mg) : FnOk P w K mg base (L2.CX P w) 2 T.a_common_divisor T.f_common_divisor ["one", "other"] (SpI ⟨K, mg⟩ m_common_divisor) :=
  def_clo T.F_common_divisor sc_common_divisor fun cdv A outer s H E hr tk =>
  (iss_cons (is_par (ps_par (i := 0) (j := 1) rfl sc_common_divisor.nd rfl rfl (by decide) rfl rfl (ia_cons (ie_callB cr_abs (by rfl) T.n_abs PyProof.Rows.boot_abs (ia_cons (ie_var (pv 0)) ia_nil)) (ia_cons (ie_callB cr_abs (by rfl) T.n_abs PyProof.Rows.boot_abs (ia_cons (ie_var (pv 1)) ia_nil)) ia_nil)) (by first | rfl | with_unfolding_all rfl)))
  (iss_cons (is_while (ps_while (passes_of rfl) (it_cmp or_gt (ie_var (pv 1)) (ie_const (d := (.int 0)) rfl pe_int) (nomark _)) (iss_one (is_par (ps_par (i := 0) (j := 1) rfl sc_common_divisor.nd rfl rfl (by decide) rfl rfl (ia_cons (ie_var (pv 1)) (ia_cons (ie_op or_mod (ie_var (pv 0)) (ie_var (pv 1))) ia_nil)) (by first | rfl | with_unfolding_all rfl))))))
  (iss_one (is_ret (ie_var (pv 0))))))
theorem bd_fraction_of (T : Tx P K mg) : Binds K T.f_fraction_of ["top", "bottom"] [] := T.F_fraction_of.binds fun _ _ _ _ _ _ us hl => match us, hl with | [_, _], _ => rfl
theorem kx_fraction_of_0 (T : Tx P K mg) : KIx K T.f_fraction_of ["top", "bottom"] 0 ["top", "bottom"] [0, 1] := by
  obtain ⟨oc, od, kV, doc, pm, an, cdv, ct, osl, e, lk, hcd⟩ := T.F_fraction_of.ex
  rw [e]
  exact kix_of fun us ws h1 h2 => match us, ws, h1, h2 with | [], [_, _], _, _ => rfl
theorem kx_fraction_of_1 (T : Tx P K mg) : KIx K T.f_fraction_of ["top", "bottom"] 0 ["bottom", "top"] [1, 0] := by
  obtain ⟨oc, od, kV, doc, pm, an, cdv, ct, osl, e, lk, hcd⟩ := T.F_fraction_of.ex
  rw [e]
  exact kix_of fun us ws h1 h2 => match us, ws, h1, h2 with | [], [_, _], _, _ => rfl
theorem ok_fraction_of (T : Tx P K mg) : FnOk P w K mg base (L2.CX P w) 3 T.a_fraction_of T.f_fraction_of ["top", "bottom"] (SpI ⟨K, mg⟩ m_fraction_of) :=
  def_clo T.F_fraction_of sc_fraction_of fun cdv A outer s H E hr tk =>
  (iss_cons (is_if (it_cmp (or_eq hr.units) (ie_var (pv 1)) (ie_const (d := (.int 0)) rfl pe_int) (nomark _)) (iss_one (is_raise T.e_InvalidNumber rfl hr tk (ie_const (d := (.str "bottom")) rfl pe_str) (by rfl))) iss_nil)
  (iss_cons (is_set (ps_set (i := 2) sc_fraction_of.nd rfl (by first | exact Or.inl rfl | exact Or.inr rfl) (ie_if (it_cmp or_gt (ie_var (pv 1)) (ie_const (d := (.int 0)) rfl pe_int) (nomark _)) (ie_fn (ok_common_divisor T) (hr.mono (by decide)) tk (by rfl) T.g_common_divisor T.F_common_divisor.kp (bd_common_divisor T) (ia_cons (ie_var (pv 0)) (ia_cons (ie_var (pv 1)) ia_nil))) (ie_neg (ie_fn (ok_common_divisor T) (hr.mono (by decide)) tk (by rfl) T.g_common_divisor T.F_common_divisor.kp (bd_common_divisor T) (ia_cons (ie_var (pv 0)) (ia_cons (ie_var (pv 1)) ia_nil)))))))
  (iss_one (is_ret (ie_tup (ia_cons (ie_op or_divN (ie_var (pv 0)) (ie_var (pv 2))) (ia_cons (ie_op or_divN (ie_var (pv 1)) (ie_var (pv 2))) ia_nil)))))))
theorem bd_is_fraction (T : Tx P K mg) : Binds K T.f_is_fraction ["value"] [] := T.F_is_fraction.binds fun _ _ _ _ _ _ us hl => match us, hl with | [_], _ => rfl
theorem kx_is_fraction_0 (T : Tx P K mg) : KIx K T.f_is_fraction ["value"] 0 ["value"] [0] := by
  obtain ⟨oc, od, kV, doc, pm, an, cdv, ct, osl, e, lk, hcd⟩ := T.F_is_fraction.ex
  rw [e]
  exact kix_of fun us ws h1 h2 => match us, ws, h1, h2 with | [], [_], _, _ => rfl
theorem ok_is_fraction (T : Tx P K mg) : FnOk P w K mg base (L2.CX P w) 3 T.a_is_fraction T.f_is_fraction ["value"] (SpI ⟨K, mg⟩ m_is_fraction) :=
  def_clo T.F_is_fraction sc_is_fraction fun cdv A outer s H E hr tk =>
  (iss_cons (is_if (it_w (iw_or (it_not (it_tru (ie_callB cr_isi (by rfl) T.n_isinstance PyProof.Rows.boot_isinstance (ia_cons (ie_var (pv 0)) (ia_cons (ie_const (d := .ty "tuple") rfl (pe_bltn (by rfl) T.n_tuple (by decide +kernel) rfl)) ia_nil))))) (iw_or (it_cmp (or_ne hr.units) (ie_callB cr_len (by rfl) T.n_len PySem.boot_len (ia_cons (ie_var (pv 0)) ia_nil)) (ie_const (d := (.int 2)) rfl pe_int) (nomark _)) (iw_or1 (it_not (it_tru (ie_callB (cr_all' rfl) (by rfl) T.n_all PyProof.Rows.boot_all (ia_cons (ie_lcV [("part", 1)] rfl sc_is_fraction.nd (ii_any (ie_var (pv 0))) (blkOk_by (own := [("part", 1)]) (N := ["value", "part"]) (sc := defScope st_is_fraction) (by decide +kernel)) (fun _ _ _ _ _ => (ig_name (pg_name (i := 1) sc_is_fraction.nd rfl (by first | exact Or.inl rfl | exact Or.inr rfl)))) (fun _ _ _ _ _ => its_nil) (fun _ _ _ _ _ => (ie_fn (ok_is_integer T) (hr.mono (by decide)) takes0 (by rfl) T.g_is_integer T.F_is_integer.kp (bd_is_integer T) (ia_cons (ie_var (pv 1)) ia_nil)))) ia_nil)))))))) (iss_one (is_ret (ie_const (d := (.bl false)) rfl pe_bl))) iss_nil)
  (iss_one (is_ret (ie_and (ie_cmp or_gt (ie_ix (ie_var (pv 0)) (ie_const (d := (.int 1)) rfl pe_int) (fun _ _ => rfl)) (ie_const (d := (.int 0)) rfl pe_int) (nomark _)) (ie_one (ie_cmp (or_eq hr.units) (ie_fn (ok_common_divisor T) (hr.mono (by decide)) tk (by rfl) T.g_common_divisor T.F_common_divisor.kp (bd_common_divisor T) (ia_cons (ie_ix (ie_var (pv 0)) (ie_const (d := (.int 0)) rfl pe_int) (fun _ _ => rfl)) (ia_cons (ie_ix (ie_var (pv 0)) (ie_const (d := (.int 1)) rfl pe_int) (fun _ _ => rfl)) ia_nil))) (ie_const (d := (.int 1)) rfl pe_int) (nomark _)))))))
theorem bd_plus (T : Tx P K mg) : Binds K T.f_plus ["one", "other"] [] := T.F_plus.binds fun _ _ _ _ _ _ us hl => match us, hl with | [_, _], _ => rfl
theorem kx_plus_0 (T : Tx P K mg) : KIx K T.f_plus ["one", "other"] 0 ["other", "one"] [1, 0] := by
  obtain ⟨oc, od, kV, doc, pm, an, cdv, ct, osl, e, lk, hcd⟩ := T.F_plus.ex
  rw [e]
  exact kix_of fun us ws h1 h2 => match us, ws, h1, h2 with | [], [_, _], _, _ => rfl
theorem ok_plus (T : Tx P K mg) : FnOk P w K mg base (L2.CX P w) 4 T.a_plus T.f_plus ["one", "other"] (SpI ⟨K, mg⟩ m_plus) :=
  def_clo T.F_plus sc_plus fun cdv A outer s H E hr tk =>
  (iss_one (is_ret (ie_fn (ok_fraction_of T) (hr.mono (by decide)) tk (by rfl) T.g_fraction_of T.F_fraction_of.kp (bd_fraction_of T) (ia_cons (ie_op or_add (ie_op or_mul (ie_ix (ie_var (pv 0)) (ie_const (d := (.int 0)) rfl pe_int) (fun _ _ => rfl)) (ie_ix (ie_var (pv 1)) (ie_const (d := (.int 1)) rfl pe_int) (fun _ _ => rfl))) (ie_op or_mul (ie_ix (ie_var (pv 1)) (ie_const (d := (.int 0)) rfl pe_int) (fun _ _ => rfl)) (ie_ix (ie_var (pv 0)) (ie_const (d := (.int 1)) rfl pe_int) (fun _ _ => rfl)))) (ia_cons (ie_op or_mul (ie_ix (ie_var (pv 0)) (ie_const (d := (.int 1)) rfl pe_int) (fun _ _ => rfl)) (ie_ix (ie_var (pv 1)) (ie_const (d := (.int 1)) rfl pe_int) (fun _ _ => rfl))) ia_nil)))))
theorem bd_minus (T : Tx P K mg) : Binds K T.f_minus ["one", "other"] [] := T.F_minus.binds fun _ _ _ _ _ _ us hl => match us, hl with | [_, _], _ => rfl
theorem kx_minus_0 (T : Tx P K mg) : KIx K T.f_minus ["one", "other"] 0 ["other", "one"] [1, 0] := by
  obtain ⟨oc, od, kV, doc, pm, an, cdv, ct, osl, e, lk, hcd⟩ := T.F_minus.ex
  rw [e]
  exact kix_of fun us ws h1 h2 => match us, ws, h1, h2 with | [], [_, _], _, _ => rfl
theorem ok_minus (T : Tx P K mg) : FnOk P w K mg base (L2.CX P w) 4 T.a_minus T.f_minus ["one", "other"] (SpI ⟨K, mg⟩ m_minus) :=
  def_clo T.F_minus sc_minus fun cdv A outer s H E hr tk =>
  (iss_one (is_ret (ie_fn (ok_fraction_of T) (hr.mono (by decide)) tk (by rfl) T.g_fraction_of T.F_fraction_of.kp (bd_fraction_of T) (ia_cons (ie_op or_sub (ie_op or_mul (ie_ix (ie_var (pv 0)) (ie_const (d := (.int 0)) rfl pe_int) (fun _ _ => rfl)) (ie_ix (ie_var (pv 1)) (ie_const (d := (.int 1)) rfl pe_int) (fun _ _ => rfl))) (ie_op or_mul (ie_ix (ie_var (pv 1)) (ie_const (d := (.int 0)) rfl pe_int) (fun _ _ => rfl)) (ie_ix (ie_var (pv 0)) (ie_const (d := (.int 1)) rfl pe_int) (fun _ _ => rfl)))) (ia_cons (ie_op or_mul (ie_ix (ie_var (pv 0)) (ie_const (d := (.int 1)) rfl pe_int) (fun _ _ => rfl)) (ie_ix (ie_var (pv 1)) (ie_const (d := (.int 1)) rfl pe_int) (fun _ _ => rfl))) ia_nil)))))
theorem bd_times (T : Tx P K mg) : Binds K T.f_times ["one", "other"] [] := T.F_times.binds fun _ _ _ _ _ _ us hl => match us, hl with | [_, _], _ => rfl
theorem kx_times_0 (T : Tx P K mg) : KIx K T.f_times ["one", "other"] 0 ["other", "one"] [1, 0] := by
  obtain ⟨oc, od, kV, doc, pm, an, cdv, ct, osl, e, lk, hcd⟩ := T.F_times.ex
  rw [e]
  exact kix_of fun us ws h1 h2 => match us, ws, h1, h2 with | [], [_, _], _, _ => rfl
theorem ok_times (T : Tx P K mg) : FnOk P w K mg base (L2.CX P w) 4 T.a_times T.f_times ["one", "other"] (SpI ⟨K, mg⟩ m_times) :=
  def_clo T.F_times sc_times fun cdv A outer s H E hr tk =>
  (iss_one (is_ret (ie_fn (ok_fraction_of T) (hr.mono (by decide)) tk (by rfl) T.g_fraction_of T.F_fraction_of.kp (bd_fraction_of T) (ia_cons (ie_op or_mul (ie_ix (ie_var (pv 0)) (ie_const (d := (.int 0)) rfl pe_int) (fun _ _ => rfl)) (ie_ix (ie_var (pv 1)) (ie_const (d := (.int 0)) rfl pe_int) (fun _ _ => rfl))) (ia_cons (ie_op or_mul (ie_ix (ie_var (pv 0)) (ie_const (d := (.int 1)) rfl pe_int) (fun _ _ => rfl)) (ie_ix (ie_var (pv 1)) (ie_const (d := (.int 1)) rfl pe_int) (fun _ _ => rfl))) ia_nil)))))
theorem bd_ratio (T : Tx P K mg) : Binds K T.f_ratio ["one", "other"] [] := T.F_ratio.binds fun _ _ _ _ _ _ us hl => match us, hl with | [_, _], _ => rfl
theorem kx_ratio_0 (T : Tx P K mg) : KIx K T.f_ratio ["one", "other"] 0 ["other", "one"] [1, 0] := by
  obtain ⟨oc, od, kV, doc, pm, an, cdv, ct, osl, e, lk, hcd⟩ := T.F_ratio.ex
  rw [e]
  exact kix_of fun us ws h1 h2 => match us, ws, h1, h2 with | [], [_, _], _, _ => rfl
theorem ok_ratio (T : Tx P K mg) : FnOk P w K mg base (L2.CX P w) 4 T.a_ratio T.f_ratio ["one", "other"] (SpI ⟨K, mg⟩ m_ratio) :=
  def_clo T.F_ratio sc_ratio fun cdv A outer s H E hr tk =>
  (iss_one (is_ret (ie_fn (ok_fraction_of T) (hr.mono (by decide)) tk (by rfl) T.g_fraction_of T.F_fraction_of.kp (bd_fraction_of T) (ia_cons (ie_op or_mul (ie_ix (ie_var (pv 0)) (ie_const (d := (.int 0)) rfl pe_int) (fun _ _ => rfl)) (ie_ix (ie_var (pv 1)) (ie_const (d := (.int 1)) rfl pe_int) (fun _ _ => rfl))) (ia_cons (ie_op or_mul (ie_ix (ie_var (pv 0)) (ie_const (d := (.int 1)) rfl pe_int) (fun _ _ => rfl)) (ie_ix (ie_var (pv 1)) (ie_const (d := (.int 0)) rfl pe_int) (fun _ _ => rfl))) ia_nil)))))
theorem bd_less (T : Tx P K mg) : Binds K T.f_less ["one", "other"] [] := T.F_less.binds fun _ _ _ _ _ _ us hl => match us, hl with | [_, _], _ => rfl
theorem kx_less_0 (T : Tx P K mg) : KIx K T.f_less ["one", "other"] 0 ["other", "one"] [1, 0] := by
  obtain ⟨oc, od, kV, doc, pm, an, cdv, ct, osl, e, lk, hcd⟩ := T.F_less.ex
  rw [e]
  exact kix_of fun us ws h1 h2 => match us, ws, h1, h2 with | [], [_, _], _, _ => rfl
theorem ok_less (T : Tx P K mg) : FnOk P w K mg base (L2.CX P w) 2 T.a_less T.f_less ["one", "other"] (SpI ⟨K, mg⟩ m_less) :=
  def_clo T.F_less sc_less fun cdv A outer s H E hr tk =>
  (iss_one (is_ret (ie_cmp or_lt (ie_op or_mul (ie_ix (ie_var (pv 0)) (ie_const (d := (.int 0)) rfl pe_int) (fun _ _ => rfl)) (ie_ix (ie_var (pv 1)) (ie_const (d := (.int 1)) rfl pe_int) (fun _ _ => rfl))) (ie_op or_mul (ie_ix (ie_var (pv 1)) (ie_const (d := (.int 0)) rfl pe_int) (fun _ _ => rfl)) (ie_ix (ie_var (pv 0)) (ie_const (d := (.int 1)) rfl pe_int) (fun _ _ => rfl))) (nomark _))))
theorem bd_sum_of (T : Tx P K mg) : Binds K T.f_sum_of ["fractions"] [] := T.F_sum_of.binds fun _ _ _ _ _ _ us hl => match us, hl with | [_], _ => rfl
theorem kx_sum_of_0 (T : Tx P K mg) : KIx K T.f_sum_of ["fractions"] 0 ["fractions"] [0] := by
  obtain ⟨oc, od, kV, doc, pm, an, cdv, ct, osl, e, lk, hcd⟩ := T.F_sum_of.ex
  rw [e]
  exact kix_of fun us ws h1 h2 => match us, ws, h1, h2 with | [], [_], _, _ => rfl
theorem ok_sum_of (T : Tx P K mg) : FnOk P w K mg base (L2.CX P w) 5 T.a_sum_of T.f_sum_of ["fractions"] (SpI ⟨K, mg⟩ m_sum_of) :=
  def_clo T.F_sum_of sc_sum_of fun cdv A outer s H E hr tk =>
  (iss_cons (is_set (ps_set (i := 1) sc_sum_of.nd rfl (by first | exact Or.inl rfl | exact Or.inr rfl) (ie_glob (pe_glob (v := .ref T.a_ZERO) (by rfl) T.g_ZERO rfl) fun _ _ => T.r_ZERO)))
  (iss_cons (is_for (ps_for (passes_of rfl) rfl (ii_any (ie_var (pv 0))) (ig_name (pg_name (i := 2) sc_sum_of.nd rfl (by first | exact Or.inl rfl | exact Or.inr rfl))) (iss_one (is_set (ps_set (i := 1) sc_sum_of.nd rfl (by first | exact Or.inl rfl | exact Or.inr rfl) (ie_fn (ok_plus T) (hr.mono (by decide)) tk (by rfl) T.g_plus T.F_plus.kp (bd_plus T) (ia_cons (ie_var (pv 1)) (ia_cons (ie_var (pv 2)) ia_nil))))))))
  (iss_one (is_ret (ie_var (pv 1))))))
theorem bd__law_box (T : Tx P K mg) : Binds K T.f__law_box ["_law_script", "_law_k"] [] := T.F__law_box.binds fun _ _ _ _ _ _ us hl => match us, hl with | [_, _], _ => rfl
theorem ok__law_box (T : Tx P K mg) : FnOk P w K mg base (L2.CX P w) 2 T.a__law_box T.f__law_box ["_law_script", "_law_k"] (SpI ⟨K, mg⟩ m__law_box) :=
  def_opn T.F__law_box sc__law_box fun cdv A outer s H E hr tk =>
  (iss_cons (is_set (ps_set (i := 2) sc__law_box.nd rfl (by first | exact Or.inl rfl | exact Or.inr rfl) (ie_op or_add (ie_op or_mul (ie_const (d := (.int 7919)) rfl pe_int) (ie_var (pv 1))) (ie_const (d := (.int 61007)) rfl pe_int))))
  (iss_cons (is_if (it_cmp or_lt (ie_var (pv 1)) (ie_callB cr_len (by rfl) T.n_len PySem.boot_len (ia_cons (ie_var (pv 0)) ia_nil)) (nomark _)) (iss_one (is_set (ps_set (i := 2) sc__law_box.nd rfl (by first | exact Or.inl rfl | exact Or.inr rfl) (ie_callB cr_abs (by rfl) T.n_abs PyProof.Rows.boot_abs (ia_cons (ie_ix (ie_var (pv 0)) (ie_var (pv 1)) (fun _ _ => rfl)) ia_nil))))) iss_nil)
  (iss_one (is_ret (ie_lstO (ia_cons (ie_ix (ie_lst (ia_cons (ie_const (d := (.int 0)) rfl pe_int) (ia_cons (ie_var (pv 2)) ia_nil))) (ie_callTy cr_int (by rfl) T.n_int PyProof.Rows.boot_int (ia_cons (ie_cmp or_ge (ie_var (pv 2)) (ie_op or_pow (ie_const (d := (.int 10)) rfl pe_int) (ie_const (d := (.int 18)) rfl pe_int)) (nomark _)) ia_nil)) (fun _ _ => rfl)) (ia_cons (ie_op or_add (ie_op or_mod (ie_callTy cr_int (by rfl) T.n_int PyProof.Rows.boot_int (ia_cons (ie_op or_add (ie_op or_add (ie_op or_mul (ie_op or_mod (ie_callTy cr_int (by rfl) T.n_int PyProof.Rows.boot_int (ia_cons (ie_var (pv 2)) ia_nil)) (ie_const (d := (.int 2147483629)) rfl pe_int)) (ie_const (d := (.int 48271)) rfl pe_int)) (ie_op or_mul (ie_const (d := (.int 61007)) rfl pe_int) (ie_var (pv 1)))) (ie_const (d := (.int 977)) rfl pe_int)) ia_nil)) (ie_const (d := (.int 2147483629)) rfl pe_int)) (ie_const (d := (.int 1)) rfl pe_int)) (ia_cons (ie_const (d := (.int 0)) rfl pe_int) ia_nil))))))))
theorem bd__law_take (T : Tx P K mg) : Binds K T.f__law_take ["_law_box_here", "_law_many"] [] := T.F__law_take.binds fun _ _ _ _ _ _ us hl => match us, hl with | [_, _], _ => rfl
theorem ok__law_take (T : Tx P K mg) : FnOk P w K mg base (L2.CX P w) 2 T.a__law_take T.f__law_take ["_law_box_here", "_law_many"] (SpI ⟨K, mg⟩ m__law_take) :=
  def_clo T.F__law_take sc__law_take fun cdv A outer s H E hr tk =>
  (iss_cons (is_if (it_cmp or_gt (ie_ix (ie_var (pv 0)) (ie_const (d := (.int 0)) rfl pe_int) (fun _ _ => rfl)) (ie_const (d := (.int 0)) rfl pe_int) (nomark _)) (iss_cons (is_set (ps_set (i := 2) sc__law_take.nd rfl (by first | exact Or.inl rfl | exact Or.inr rfl) (ie_op or_mod (ie_callTy cr_int (by rfl) T.n_int PyProof.Rows.boot_int (ia_cons (ie_ix (ie_var (pv 0)) (ie_const (d := (.int 0)) rfl pe_int) (fun _ _ => rfl)) ia_nil)) (ie_var (pv 1)))))
  (iss_cons (is_asg (ps_asg (ie_op or_divN (ie_ix (ie_var (pv 0)) (ie_const (d := (.int 0)) rfl pe_int) (fun _ _ => rfl)) (ie_var (pv 1))) (ig_sub (ie_var (pv 0)) (ie_const (d := (.int 0)) rfl pe_int))))
  (iss_one (is_ret (ie_var (pv 2)))))) iss_nil)
  (iss_cons (is_asg (ps_asg (ie_op or_add (ie_ix (ie_var (pv 0)) (ie_const (d := (.int 2)) rfl pe_int) (fun _ _ => rfl)) (ie_const (d := (.int 1)) rfl pe_int)) (ig_sub (ie_var (pv 0)) (ie_const (d := (.int 2)) rfl pe_int))))
  (iss_cons (is_set (ps_set (i := 3) sc__law_take.nd rfl (by first | exact Or.inl rfl | exact Or.inr rfl) (ie_op or_mod (ie_callTy cr_int (by rfl) T.n_int PyProof.Rows.boot_int (ia_cons (ie_op or_add (ie_op or_mul (ie_op or_add (ie_ix (ie_var (pv 0)) (ie_const (d := (.int 1)) rfl pe_int) (fun _ _ => rfl)) (ie_op or_mul (ie_const (d := (.int 99991)) rfl pe_int) (ie_ix (ie_var (pv 0)) (ie_const (d := (.int 2)) rfl pe_int) (fun _ _ => rfl)))) (ie_const (d := (.int 69621)) rfl pe_int)) (ie_const (d := (.int 53)) rfl pe_int)) ia_nil)) (ie_const (d := (.int 2147483563)) rfl pe_int))))
  (iss_cons (is_asg (ps_asg (ie_op or_add (ie_op or_mod (ie_callTy cr_int (by rfl) T.n_int PyProof.Rows.boot_int (ia_cons (ie_op or_add (ie_op or_mul (ie_var (pv 3)) (ie_const (d := (.int 40692)) rfl pe_int)) (ie_const (d := (.int 27011)) rfl pe_int)) ia_nil)) (ie_const (d := (.int 2147483629)) rfl pe_int)) (ie_const (d := (.int 1)) rfl pe_int)) (ig_sub (ie_var (pv 0)) (ie_const (d := (.int 1)) rfl pe_int))))
  (iss_one (is_ret (ie_op or_mod (ie_callTy cr_int (by rfl) T.n_int PyProof.Rows.boot_int (ia_cons (ie_op or_divN (ie_op or_add (ie_op or_mul (ie_var (pv 3)) (ie_const (d := (.int 2147483647)) rfl pe_int)) (ie_ix (ie_var (pv 0)) (ie_const (d := (.int 1)) rfl pe_int) (fun _ _ => rfl))) (ie_const (d := (.int 8191)) rfl pe_int)) ia_nil)) (ie_var (pv 1)))))))))
theorem bd__law_pick (T : Tx P K mg) : Binds K T.f__law_pick ["_law_box_here", "_law_some"] [] := T.F__law_pick.binds fun _ _ _ _ _ _ us hl => match us, hl with | [_, _], _ => rfl
theorem ok__law_pick (T : Tx P K mg) : FnOk P w K mg base (L2.CX P w) 3 T.a__law_pick T.f__law_pick ["_law_box_here", "_law_some"] (SpI ⟨K, mg⟩ m__law_pick) :=
  def_clo T.F__law_pick sc__law_pick fun cdv A outer s H E hr tk =>
  (iss_one (is_ret (ie_ix (ie_var (pv 1)) (ie_fn (ok__law_take T) (hr.mono (by decide)) tk (by rfl) T.g__law_take T.F__law_take.kp (bd__law_take T) (ia_cons (ie_var (pv 0)) (ia_cons (ie_callB cr_len (by rfl) T.n_len PySem.boot_len (ia_cons (ie_var (pv 1)) ia_nil)) ia_nil))) (fun _ _ => rfl))))
theorem bd__law_divisor (T : Tx P K mg) : Binds K T.f__law_divisor ["_law_one", "_law_other"] [] := T.F__law_divisor.binds fun _ _ _ _ _ _ us hl => match us, hl with | [_, _], _ => rfl
theorem ok__law_divisor (T : Tx P K mg) : FnOk P w K mg base (L2.CX P w) 2 T.a__law_divisor T.f__law_divisor ["_law_one", "_law_other"] (SpI ⟨K, mg⟩ m__law_divisor) :=
  def_clo T.F__law_divisor sc__law_divisor fun cdv A outer s H E hr tk =>
  (iss_cons (is_set (ps_set (i := 2) sc__law_divisor.nd rfl (by first | exact Or.inl rfl | exact Or.inr rfl) (ie_lst (ia_cons (ie_callB cr_abs (by rfl) T.n_abs PyProof.Rows.boot_abs (ia_cons (ie_var (pv 0)) ia_nil)) (ia_cons (ie_callB cr_abs (by rfl) T.n_abs PyProof.Rows.boot_abs (ia_cons (ie_var (pv 1)) ia_nil)) ia_nil)))))
  (iss_cons (is_while (ps_while (passes_of rfl) (it_cmp (or_ne hr.units) (ie_ix (ie_var (pv 2)) (ie_const (d := (.int 1)) rfl pe_int) (fun _ _ => rfl)) (ie_const (d := (.int 0)) rfl pe_int) (nomark _)) (iss_one (is_set (ps_set (i := 2) sc__law_divisor.nd rfl (by first | exact Or.inl rfl | exact Or.inr rfl) (ie_lst (ia_cons (ie_ix (ie_var (pv 2)) (ie_const (d := (.int 1)) rfl pe_int) (fun _ _ => rfl)) (ia_cons (ie_op or_mod (ie_callTy cr_int (by rfl) T.n_int PyProof.Rows.boot_int (ia_cons (ie_ix (ie_var (pv 2)) (ie_const (d := (.int 0)) rfl pe_int) (fun _ _ => rfl)) ia_nil)) (ie_ix (ie_var (pv 2)) (ie_const (d := (.int 1)) rfl pe_int) (fun _ _ => rfl))) ia_nil))))))))
  (iss_one (is_ret (ie_ix (ie_var (pv 2)) (ie_const (d := (.int 0)) rfl pe_int) (fun _ _ => rfl))))))
theorem bd__law_is_fraction (T : Tx P K mg) : Binds K T.f__law_is_fraction ["_law_value"] [] := T.F__law_is_fraction.binds fun _ _ _ _ _ _ us hl => match us, hl with | [_], _ => rfl
theorem ok__law_is_fraction (T : Tx P K mg) : FnOk P w K mg base (L2.CX P w) 3 T.a__law_is_fraction T.f__law_is_fraction ["_law_value"] (SpI ⟨K, mg⟩ m__law_is_fraction) :=
  def_clo T.F__law_is_fraction sc__law_is_fraction fun cdv A outer s H E hr tk =>
  (iss_cons (is_if (it_w (iw_or (it_not (it_tru (ie_callB cr_isi (by rfl) T.n_isinstance PyProof.Rows.boot_isinstance (ia_cons (ie_var (pv 0)) (ia_cons (ie_const (d := .ty "tuple") rfl (pe_bltn (by rfl) T.n_tuple (by decide +kernel) rfl)) ia_nil))))) (iw_or1 (it_cmp (or_ne hr.units) (ie_callB cr_len (by rfl) T.n_len PySem.boot_len (ia_cons (ie_var (pv 0)) ia_nil)) (ie_const (d := (.int 2)) rfl pe_int) (nomark _))))) (iss_one (is_ret (ie_const (d := (.bl false)) rfl pe_bl))) iss_nil)
  (iss_cons (is_if (it_not (it_tru (ie_callB (cr_all' rfl) (by rfl) T.n_all PyProof.Rows.boot_all (ia_cons (ie_lcV [("_law_part", 1)] rfl sc__law_is_fraction.nd (ii_any (ie_var (pv 0))) (blkOk_by (own := [("_law_part", 1)]) (N := ["_law_value", "_law_part"]) (sc := defScope st__law_is_fraction) (by decide +kernel)) (fun _ _ _ _ _ => (ig_name (pg_name (i := 1) sc__law_is_fraction.nd rfl (by first | exact Or.inl rfl | exact Or.inr rfl)))) (fun _ _ _ _ _ => its_nil) (fun _ _ _ _ _ => (ie_and (ie_callB cr_isi (by rfl) T.n_isinstance PyProof.Rows.boot_isinstance (ia_cons (ie_var (pv 1)) (ia_cons (ie_const (d := .ty "int") rfl (pe_bltn (by rfl) T.n_int (by decide +kernel) rfl)) ia_nil))) (ie_one (ie_not (ie_callB cr_isi (by rfl) T.n_isinstance PyProof.Rows.boot_isinstance (ia_cons (ie_var (pv 1)) (ia_cons (ie_const (d := .ty "bool") rfl (pe_bltn (by rfl) T.n_bool (by decide +kernel) rfl)) ia_nil)))))))) ia_nil)))) (iss_one (is_ret (ie_const (d := (.bl false)) rfl pe_bl))) iss_nil)
  (iss_one (is_ret (ie_and (ie_cmp or_gt (ie_ix (ie_var (pv 0)) (ie_const (d := (.int 1)) rfl pe_int) (fun _ _ => rfl)) (ie_const (d := (.int 0)) rfl pe_int) (nomark _)) (ie_one (ie_cmp (or_eq hr.units) (ie_fn (ok__law_divisor T) (hr.mono (by decide)) tk (by rfl) T.g__law_divisor T.F__law_divisor.kp (bd__law_divisor T) (ia_cons (ie_ix (ie_var (pv 0)) (ie_const (d := (.int 0)) rfl pe_int) (fun _ _ => rfl)) (ia_cons (ie_ix (ie_var (pv 0)) (ie_const (d := (.int 1)) rfl pe_int) (fun _ _ => rfl)) ia_nil))) (ie_const (d := (.int 1)) rfl pe_int) (nomark _))))))))
theorem bd__law_same (T : Tx P K mg) : Binds K T.f__law_same ["_law_told", "_law_pair_here"] [] := T.F__law_same.binds fun _ _ _ _ _ _ us hl => match us, hl with | [_, _], _ => rfl
theorem ok__law_same (T : Tx P K mg) : FnOk P w K mg base (L2.CX P w) 4 T.a__law_same T.f__law_same ["_law_told", "_law_pair_here"] (SpI ⟨K, mg⟩ m__law_same) :=
  def_clo T.F__law_same sc__law_same fun cdv A outer s H E hr tk =>
  (iss_one (is_ret (ie_and (ie_fn (ok__law_is_fraction T) (hr.mono (by decide)) tk (by rfl) T.g__law_is_fraction T.F__law_is_fraction.kp (bd__law_is_fraction T) (ia_cons (ie_var (pv 0)) ia_nil)) (ie_one (ie_cmp (or_eq hr.units) (ie_op or_mul (ie_ix (ie_var (pv 0)) (ie_const (d := (.int 0)) rfl pe_int) (fun _ _ => rfl)) (ie_ix (ie_var (pv 1)) (ie_const (d := (.int 1)) rfl pe_int) (fun _ _ => rfl))) (ie_op or_mul (ie_ix (ie_var (pv 1)) (ie_const (d := (.int 0)) rfl pe_int) (fun _ _ => rfl)) (ie_ix (ie_var (pv 0)) (ie_const (d := (.int 1)) rfl pe_int) (fun _ _ => rfl))) (nomark _))))))
theorem bd__law_number (T : Tx P K mg) : Binds K T.f__law_number ["_law_box_here"] [] := T.F__law_number.binds fun _ _ _ _ _ _ us hl => match us, hl with | [_], _ => rfl
theorem ok__law_number (T : Tx P K mg) : FnOk P w K mg base (L2.CX P w) 3 T.a__law_number T.f__law_number ["_law_box_here"] (SpI ⟨K, mg⟩ m__law_number) :=
  def_clo T.F__law_number sc__law_number fun cdv A outer s H E hr tk =>
  (iss_cons (is_if (it_cmp (or_eq hr.units) (ie_fn (ok__law_take T) (hr.mono (by decide)) tk (by rfl) T.g__law_take T.F__law_take.kp (bd__law_take T) (ia_cons (ie_var (pv 0)) (ia_cons (ie_const (d := (.int 3)) rfl pe_int) ia_nil))) (ie_const (d := (.int 0)) rfl pe_int) (nomark _)) (iss_one (is_ret (ie_op or_sub (ie_fn (ok__law_take T) (hr.mono (by decide)) tk (by rfl) T.g__law_take T.F__law_take.kp (bd__law_take T) (ia_cons (ie_var (pv 0)) (ia_cons (ie_op or_pow (ie_const (d := (.int 10)) rfl pe_int) (ie_const (d := (.int 20)) rfl pe_int)) ia_nil))) (ie_op or_pow (ie_const (d := (.int 10)) rfl pe_int) (ie_const (d := (.int 12)) rfl pe_int))))) iss_nil)
  (iss_one (is_ret (ie_op or_sub (ie_fn (ok__law_take T) (hr.mono (by decide)) tk (by rfl) T.g__law_take T.F__law_take.kp (bd__law_take T) (ia_cons (ie_var (pv 0)) (ia_cons (ie_const (d := (.int 19)) rfl pe_int) ia_nil))) (ie_const (d := (.int 9)) rfl pe_int)))))
theorem bd__law_pair (T : Tx P K mg) : Binds K T.f__law_pair ["_law_box_here"] [] := T.F__law_pair.binds fun _ _ _ _ _ _ us hl => match us, hl with | [_], _ => rfl
theorem ok__law_pair (T : Tx P K mg) : FnOk P w K mg base (L2.CX P w) 4 T.a__law_pair T.f__law_pair ["_law_box_here"] (SpI ⟨K, mg⟩ m__law_pair) :=
  def_clo T.F__law_pair sc__law_pair fun cdv A outer s H E hr tk =>
  (iss_cons (is_par (ps_par (i := 1) (j := 2) rfl sc__law_pair.nd rfl rfl (by decide) rfl rfl (ia_cons (ie_fn (ok__law_number T) (hr.mono (by decide)) tk (by rfl) T.g__law_number T.F__law_number.kp (bd__law_number T) (ia_cons (ie_var (pv 0)) ia_nil)) (ia_cons (ie_fn (ok__law_number T) (hr.mono (by decide)) tk (by rfl) T.g__law_number T.F__law_number.kp (bd__law_number T) (ia_cons (ie_var (pv 0)) ia_nil)) ia_nil)) (by first | rfl | with_unfolding_all rfl)))
  (iss_cons (is_set (ps_set (i := 3) sc__law_pair.nd rfl (by first | exact Or.inl rfl | exact Or.inr rfl) (ie_fn (ok__law_pick T) (hr.mono (by decide)) tk (by rfl) T.g__law_pick T.F__law_pick.kp (bd__law_pick T) (ia_cons (ie_var (pv 0)) (ia_cons (ie_lst (ia_cons (ie_const (d := (.int 1)) rfl pe_int) (ia_cons (ie_const (d := (.int 1)) rfl pe_int) (ia_cons (ie_const (d := (.int 2)) rfl pe_int) (ia_cons (ie_const (d := (.int 6)) rfl pe_int) (ia_cons (ie_op or_pow (ie_const (d := (.int 10)) rfl pe_int) (ie_const (d := (.int 6)) rfl pe_int)) ia_nil)))))) ia_nil)))))
  (iss_one (is_ret (ie_tup (ia_cons (ie_op or_mul (ie_var (pv 1)) (ie_var (pv 3))) (ia_cons (ie_if (it_cmp (or_ne hr.units) (ie_var (pv 2)) (ie_const (d := (.int 0)) rfl pe_int) (nomark _)) (ie_op or_mul (ie_var (pv 3)) (ie_var (pv 2))) (ie_var (pv 3))) ia_nil)))))))
theorem bd__law_refused (T : Tx P K mg) : Binds K T.f__law_refused ["_law_one", "_law_by_ratio"] [] := T.F__law_refused.binds fun _ _ _ _ _ _ us hl => match us, hl with | [_, _], _ => rfl
theorem ok__law_refused (T : Tx P K mg) : FnOk P w K mg base (L2.CX P w) 5 T.a__law_refused T.f__law_refused ["_law_one", "_law_by_ratio"] (SpI ⟨K, mg⟩ m__law_refused) :=
  def_clo T.F__law_refused sc__law_refused fun cdv A outer s H E hr tk =>
  (iss_cons (is_try rfl rfl sc__law_refused.nd rfl rfl (by rfl) T.g_RoomError (by decide) tk (exm_InvalidNumber_RoomError T) (fun _ pn xe tk1 hp1 => (iss_one (is_if (it_tru (ie_var (pv 1))) (iss_one (is_expr (ie_fn (ok_ratio T) (hr.mono (by decide)) tk1 (by rfl) T.g_ratio T.F_ratio.kp (bd_ratio T) (ia_cons (ie_var (pv 0)) (ia_cons (ie_fn (ok_fraction_of T) (hr.mono (by decide)) tk1 (by rfl) T.g_fraction_of T.F_fraction_of.kp (bd_fraction_of T) (ia_cons (ie_const (d := (.int 0)) rfl pe_int) (ia_cons (ie_const (d := (.int 5)) rfl pe_int) ia_nil))) ia_nil))))) (iss_one (is_expr (ie_fnK0 (ok_fraction_of T) (hr.mono (by decide)) tk1 (by rfl) T.g_fraction_of T.F_fraction_of.kp (kx_fraction_of_0 T) (ik_cons (ie_ix (ie_var (pv 0)) (ie_const (d := (.int 0)) rfl pe_int) (fun _ _ => rfl)) (ik_cons (ie_const (d := (.int 0)) rfl pe_int) ik_nil)))))))) (xd_and (xd_isi (fun _ _ _ => pv 2) (by rfl) T.n_isinstance (by rfl) T.g_InvalidNumber (subT [("InvalidNumber", true)]) (isi_InvalidNumber_InvalidNumber T)) (xd_and (xd_not (xd_isi (fun _ _ _ => pv 2) (by rfl) T.n_isinstance (by rfl) T.g_Refused (subT [("InvalidNumber", false)]) (isi_InvalidNumber_Refused T))) (xx_one (xd_eq (k := (.str "bottom")) hr.units (xd_fld (fun _ _ _ => pv 2) (fun c => decide (c ∈ (["InvalidNumber"] : List Str))) (fun c C h m => (fld_InvalidNumber_word T c C (of_decide_eq_true h) m))) rfl fun _ => pe_str)))))
  (iss_one (is_ret (ie_const (d := (.bl false)) rfl pe_bl))))
theorem bd__law_truth (T : Tx P K mg) : Binds K T.f__law_truth ["_law_told", "_law_due"] [] := T.F__law_truth.binds fun _ _ _ _ _ _ us hl => match us, hl with | [_, _], _ => rfl
theorem ok__law_truth (T : Tx P K mg) : FnOk P w K mg base (L2.CX P w) 2 T.a__law_truth T.f__law_truth ["_law_told", "_law_due"] (SpI ⟨K, mg⟩ m__law_truth) :=
  def_clo T.F__law_truth sc__law_truth fun cdv A outer s H E hr tk =>
  (iss_one (is_ret (ie_if (it_tru (ie_var (pv 1))) (ie_cmp or_is (ie_var (pv 0)) (ie_const (d := (.bl true)) rfl pe_bl) (nomark _)) (ie_cmp or_is (ie_var (pv 0)) (ie_const (d := (.bl false)) rfl pe_bl) (nomark _)))))
theorem bd__law_almost (T : Tx P K mg) : Binds K T.f__law_almost ["_law_box_here", "_law_one"] [] := T.F__law_almost.binds fun _ _ _ _ _ _ us hl => match us, hl with | [_, _], _ => rfl
theorem ok__law_almost (T : Tx P K mg) : FnOk P w K mg base (L2.CX P w) 3 T.a__law_almost T.f__law_almost ["_law_box_here", "_law_one"] (SpI ⟨K, mg⟩ m__law_almost) :=
  def_clo T.F__law_almost sc__law_almost fun cdv A outer s H E hr tk =>
  (iss_cons (is_par3 (ps_par3 (i := 2) (j := 3) (l := 4) rfl sc__law_almost.nd rfl rfl rfl (by decide) (by decide) (by decide) rfl rfl rfl (ia_cons (ie_ix (ie_var (pv 1)) (ie_const (d := (.int 0)) rfl pe_int) (fun _ _ => rfl)) (ia_cons (ie_ix (ie_var (pv 1)) (ie_const (d := (.int 1)) rfl pe_int) (fun _ _ => rfl)) (ia_cons (ie_op or_add (ie_const (d := (.int 2)) rfl pe_int) (ie_fn (ok__law_take T) (hr.mono (by decide)) tk (by rfl) T.g__law_take T.F__law_take.kp (bd__law_take T) (ia_cons (ie_var (pv 0)) (ia_cons (ie_const (d := (.int 3)) rfl pe_int) ia_nil)))) ia_nil))) (by first | rfl | with_unfolding_all rfl)))
  (iss_cons (is_set (ps_set (i := 5) sc__law_almost.nd rfl (by first | exact Or.inl rfl | exact Or.inr rfl) (ie_lst (ia_cons (ie_var (pv 1)) (ia_cons (ie_tup (ia_cons (ie_op or_mul (ie_var (pv 2)) (ie_var (pv 4))) (ia_cons (ie_op or_mul (ie_var (pv 3)) (ie_var (pv 4))) ia_nil))) (ia_cons (ie_tup (ia_cons (ie_var (pv 2)) (ia_cons (ie_op or_sub (ie_const (d := (.int 0)) rfl pe_int) (ie_var (pv 3))) ia_nil))) (ia_cons (ie_tup (ia_cons (ie_op or_sub (ie_const (d := (.int 0)) rfl pe_int) (ie_var (pv 2))) (ia_cons (ie_op or_sub (ie_const (d := (.int 0)) rfl pe_int) (ie_var (pv 3))) ia_nil))) (ia_cons (ie_tup (ia_cons (ie_const (d := (.int 0)) rfl pe_int) (ia_cons (ie_const (d := (.int 1)) rfl pe_int) ia_nil))) (ia_cons (ie_tup (ia_cons (ie_const (d := (.int 0)) rfl pe_int) (ia_cons (ie_var (pv 4)) ia_nil))) (ia_cons (ie_tup (ia_cons (ie_const (d := (.int 0)) rfl pe_int) (ia_cons (ie_const (d := (.int 0)) rfl pe_int) ia_nil))) ia_nil))))))))))
  (iss_cons (is_set (ps_set (i := 5) sc__law_almost.nd rfl (by first | exact Or.inl rfl | exact Or.inr rfl) (ie_op or_add (ie_var (pv 5)) (ie_lst (ia_cons (ie_lst (ia_cons (ie_var (pv 2)) (ia_cons (ie_var (pv 3)) ia_nil))) (ia_cons (ie_tup (ia_cons (ie_var (pv 2)) (ia_cons (ie_var (pv 3)) (ia_cons (ie_const (d := (.int 1)) rfl pe_int) ia_nil)))) (ia_cons (ie_tup (ia_cons (ie_var (pv 2)) ia_nil)) (ia_cons (ie_tup ia_nil) (ia_cons (ie_tup (ia_cons (ie_var (pv 2)) (ia_cons (ie_const (d := (.int 0)) rfl pe_int) ia_nil))) (ia_cons (ie_tup (ia_cons (ie_const (d := (.bl true)) rfl pe_bl) (ia_cons (ie_const (d := (.int 1)) rfl pe_int) ia_nil))) (ia_cons (ie_tup (ia_cons (ie_const (d := (.int 1)) rfl pe_int) (ia_cons (ie_const (d := (.bl true)) rfl pe_bl) ia_nil))) (ia_cons (ie_tup (ia_cons (ie_var (pv 4)) (ia_cons (ie_const (d := (.int 1)) rfl pe_int) ia_nil))) (ia_cons (ie_tup (ia_cons (ie_var (pv 4)) (ia_cons (ie_var (pv 4)) ia_nil))) ia_nil)))))))))))))
  (iss_one (is_ret (ie_op or_add (ie_var (pv 5)) (ie_lst (ia_cons (ie_const (d := .non) rfl pe_non) (ia_cons (ie_var (pv 2)) (ia_cons (ie_const (d := (.str "1/2")) rfl pe_str) (ia_cons (ie_tup (ia_cons (ie_const (d := (.str "1")) rfl pe_str) (ia_cons (ie_const (d := (.int 2)) rfl pe_int) ia_nil))) (ia_cons (ie_tup (ia_cons (ie_const (d := .non) rfl pe_non) (ia_cons (ie_const (d := (.int 1)) rfl pe_int) ia_nil))) (ia_cons (ie_tup (ia_cons (ie_var (pv 2)) (ia_cons (ie_const (d := .non) rfl pe_non) ia_nil))) (ia_cons (ie_tup (ia_cons (ie_tup (ia_cons (ie_var (pv 2)) (ia_cons (ie_var (pv 3)) ia_nil))) (ia_cons (ie_const (d := (.int 1)) rfl pe_int) ia_nil))) (ia_cons (ie_tup (ia_cons (ie_op or_sub (ie_const (d := (.int 0)) rfl pe_int) (ie_const (d := (.int 1)) rfl pe_int)) (ia_cons (ie_const (d := (.int 1)) rfl pe_int) ia_nil))) (ia_cons (ie_tup (ia_cons (ie_var (pv 4)) (ia_cons (ie_op or_add (ie_var (pv 4)) (ie_const (d := (.int 1)) rfl pe_int)) ia_nil))) ia_nil))))))))))))))))
theorem bd_law (T : Tx P K mg) : Binds K T.f_law ["_law_script"] [] := T.F_law.binds fun _ _ _ _ _ _ us hl => match us, hl with | [_], _ => rfl
theorem ok_law (T : Tx P K mg) : FnOk P w K mg base (L2.CX P w) 6 T.a_law T.f_law ["_law_script"] (SpI ⟨K, mg⟩ m_law) :=
  def_clo T.F_law sc_law fun cdv A outer s H E hr tk =>
  (iss_cons (is_for (ps_for (passes_of rfl) rfl (ii_range1 (by rfl) T.n_range (ia_cons (ie_callB (cr_max2 rfl) (by rfl) T.n_max PyProof.Rows.boot_max (ia_cons (ie_const (d := (.int 1)) rfl pe_int) (ia_cons (ie_callB (cr_min2 rfl) (by rfl) T.n_min PyProof.Rows.boot_min (ia_cons (ie_const (d := (.int 3)) rfl pe_int) (ia_cons (ie_callB cr_len (by rfl) T.n_len PySem.boot_len (ia_cons (ie_var (pv 0)) ia_nil)) ia_nil))) ia_nil))) ia_nil)) (ig_name (pg_name (i := 1) sc_law.nd rfl (by first | exact Or.inl rfl | exact Or.inr rfl))) (iss_cons (is_set (ps_set (i := 2) sc_law.nd rfl (by first | exact Or.inl rfl | exact Or.inr rfl) (ie_fn (ok__law_box T) (hr.mono (by decide)) tk (by rfl) T.g__law_box T.F__law_box.kp (bd__law_box T) (ia_cons (ie_var (pv 0)) (ia_cons (ie_var (pv 1)) ia_nil)))))
  (iss_cons (is_par (ps_par (i := 3) (j := 4) rfl sc_law.nd rfl rfl (by decide) rfl rfl (ia_cons (ie_fn (ok__law_pair T) (hr.mono (by decide)) tk (by rfl) T.g__law_pair T.F__law_pair.kp (bd__law_pair T) (ia_cons (ie_var (pv 2)) ia_nil)) (ia_cons (ie_fn (ok__law_pair T) (hr.mono (by decide)) tk (by rfl) T.g__law_pair T.F__law_pair.kp (bd__law_pair T) (ia_cons (ie_var (pv 2)) ia_nil)) ia_nil)) (by first | rfl | with_unfolding_all rfl)))
  (iss_cons (is_par (ps_par (i := 5) (j := 6) rfl sc_law.nd rfl rfl (by decide) rfl rfl (ia_cons (ie_fn (ok_fraction_of T) (hr.mono (by decide)) tk (by rfl) T.g_fraction_of T.F_fraction_of.kp (bd_fraction_of T) (ia_cons (ie_ix (ie_var (pv 3)) (ie_const (d := (.int 0)) rfl pe_int) (fun _ _ => rfl)) (ia_cons (ie_ix (ie_var (pv 3)) (ie_const (d := (.int 1)) rfl pe_int) (fun _ _ => rfl)) ia_nil))) (ia_cons (ie_fnK0 (ok_fraction_of T) (hr.mono (by decide)) tk (by rfl) T.g_fraction_of T.F_fraction_of.kp (kx_fraction_of_1 T) (ik_cons (ie_ix (ie_var (pv 4)) (ie_const (d := (.int 1)) rfl pe_int) (fun _ _ => rfl)) (ik_cons (ie_ix (ie_var (pv 4)) (ie_const (d := (.int 0)) rfl pe_int) (fun _ _ => rfl)) ik_nil))) ia_nil)) (by first | rfl | with_unfolding_all rfl)))
  (iss_cons (is_if (it_w (iw_or (it_not (it_tru (ie_fn (ok__law_same T) (hr.mono (by decide)) tk (by rfl) T.g__law_same T.F__law_same.kp (bd__law_same T) (ia_cons (ie_var (pv 5)) (ia_cons (ie_var (pv 3)) ia_nil))))) (iw_or1 (it_not (it_tru (ie_fn (ok__law_same T) (hr.mono (by decide)) tk (by rfl) T.g__law_same T.F__law_same.kp (bd__law_same T) (ia_cons (ie_var (pv 6)) (ia_cons (ie_var (pv 4)) ia_nil)))))))) (iss_one (is_ret (ie_const (d := (.bl false)) rfl pe_bl))) iss_nil)
  (iss_cons (is_asg (ps_asg (ie_tup (ia_cons (ie_ix (ie_var (pv 3)) (ie_const (d := (.int 0)) rfl pe_int) (fun _ _ => rfl)) (ia_cons (ie_ix (ie_var (pv 3)) (ie_const (d := (.int 1)) rfl pe_int) (fun _ _ => rfl)) (ia_cons (ie_ix (ie_var (pv 4)) (ie_const (d := (.int 0)) rfl pe_int) (fun _ _ => rfl)) (ia_cons (ie_ix (ie_var (pv 4)) (ie_const (d := (.int 1)) rfl pe_int) (fun _ _ => rfl)) ia_nil))))) (ig_tup rfl (igs_cons (ig_name (pg_name (i := 7) sc_law.nd rfl (by first | exact Or.inl rfl | exact Or.inr rfl))) (igs_cons (ig_name (pg_name (i := 8) sc_law.nd rfl (by first | exact Or.inl rfl | exact Or.inr rfl))) (igs_cons (ig_name (pg_name (i := 9) sc_law.nd rfl (by first | exact Or.inl rfl | exact Or.inr rfl))) (igs_cons (ig_name (pg_name (i := 10) sc_law.nd rfl (by first | exact Or.inl rfl | exact Or.inr rfl))) igs_nil)))))))
  (iss_cons (is_if (it_w (iw_or (it_not (it_tru (ie_fn (ok__law_same T) (hr.mono (by decide)) tk (by rfl) T.g__law_same T.F__law_same.kp (bd__law_same T) (ia_cons (ie_fn (ok_plus T) (hr.mono (by decide)) tk (by rfl) T.g_plus T.F_plus.kp (bd_plus T) (ia_cons (ie_var (pv 5)) (ia_cons (ie_var (pv 6)) ia_nil))) (ia_cons (ie_tup (ia_cons (ie_op or_add (ie_op or_mul (ie_var (pv 7)) (ie_var (pv 10))) (ie_op or_mul (ie_var (pv 9)) (ie_var (pv 8)))) (ia_cons (ie_op or_mul (ie_var (pv 8)) (ie_var (pv 10))) ia_nil))) ia_nil))))) (iw_or1 (it_not (it_tru (ie_fn (ok__law_same T) (hr.mono (by decide)) tk (by rfl) T.g__law_same T.F__law_same.kp (bd__law_same T) (ia_cons (ie_fn (ok_times T) (hr.mono (by decide)) tk (by rfl) T.g_times T.F_times.kp (bd_times T) (ia_cons (ie_var (pv 5)) (ia_cons (ie_var (pv 6)) ia_nil))) (ia_cons (ie_tup (ia_cons (ie_op or_mul (ie_var (pv 7)) (ie_var (pv 9))) (ia_cons (ie_op or_mul (ie_var (pv 8)) (ie_var (pv 10))) ia_nil))) ia_nil)))))))) (iss_one (is_ret (ie_const (d := (.bl false)) rfl pe_bl))) iss_nil)
  (iss_cons (is_if (it_not (it_tru (ie_fn (ok__law_same T) (hr.mono (by decide)) tk (by rfl) T.g__law_same T.F__law_same.kp (bd__law_same T) (ia_cons (ie_fnK0 (ok_minus T) (hr.mono (by decide)) tk (by rfl) T.g_minus T.F_minus.kp (kx_minus_0 T) (ik_cons (ie_var (pv 6)) (ik_cons (ie_var (pv 5)) ik_nil))) (ia_cons (ie_tup (ia_cons (ie_op or_sub (ie_op or_mul (ie_var (pv 7)) (ie_var (pv 10))) (ie_op or_mul (ie_var (pv 9)) (ie_var (pv 8)))) (ia_cons (ie_op or_mul (ie_var (pv 8)) (ie_var (pv 10))) ia_nil))) ia_nil))))) (iss_one (is_ret (ie_const (d := (.bl false)) rfl pe_bl))) iss_nil)
  (iss_cons (is_if (it_w (iw_and (it_cmp (or_ne hr.units) (ie_var (pv 9)) (ie_const (d := (.int 0)) rfl pe_int) (nomark _)) (iw_and1 (it_not (it_tru (ie_fn (ok__law_same T) (hr.mono (by decide)) tk (by rfl) T.g__law_same T.F__law_same.kp (bd__law_same T) (ia_cons (ie_fn (ok_ratio T) (hr.mono (by decide)) tk (by rfl) T.g_ratio T.F_ratio.kp (bd_ratio T) (ia_cons (ie_var (pv 5)) (ia_cons (ie_var (pv 6)) ia_nil))) (ia_cons (ie_tup (ia_cons (ie_op or_mul (ie_var (pv 7)) (ie_var (pv 10))) (ia_cons (ie_op or_mul (ie_var (pv 8)) (ie_var (pv 9))) ia_nil))) ia_nil)))))))) (iss_one (is_ret (ie_const (d := (.bl false)) rfl pe_bl))) iss_nil)
  (iss_cons (is_if (it_w (iw_or (it_not (it_tru (ie_fn (ok__law_refused T) (hr.mono (by decide)) tk (by rfl) T.g__law_refused T.F__law_refused.kp (bd__law_refused T) (ia_cons (ie_var (pv 5)) (ia_cons (ie_const (d := (.bl true)) rfl pe_bl) ia_nil))))) (iw_or1 (it_not (it_tru (ie_fn (ok__law_refused T) (hr.mono (by decide)) tk (by rfl) T.g__law_refused T.F__law_refused.kp (bd__law_refused T) (ia_cons (ie_var (pv 5)) (ia_cons (ie_const (d := (.bl false)) rfl pe_bl) ia_nil)))))))) (iss_one (is_ret (ie_const (d := (.bl false)) rfl pe_bl))) iss_nil)
  (iss_cons (is_if (it_w (iw_or (it_not (it_tru (ie_fn (ok__law_truth T) (hr.mono (by decide)) tk (by rfl) T.g__law_truth T.F__law_truth.kp (bd__law_truth T) (ia_cons (ie_fn (ok_less T) (hr.mono (by decide)) tk (by rfl) T.g_less T.F_less.kp (bd_less T) (ia_cons (ie_var (pv 5)) (ia_cons (ie_var (pv 6)) ia_nil))) (ia_cons (ie_cmp or_lt (ie_op or_mul (ie_op or_mul (ie_op or_sub (ie_op or_mul (ie_var (pv 7)) (ie_var (pv 10))) (ie_op or_mul (ie_var (pv 9)) (ie_var (pv 8)))) (ie_var (pv 8))) (ie_var (pv 10))) (ie_const (d := (.int 0)) rfl pe_int) (nomark _)) ia_nil))))) (iw_or1 (it_cmp or_isNot (ie_fn (ok_less T) (hr.mono (by decide)) tk (by rfl) T.g_less T.F_less.kp (bd_less T) (ia_cons (ie_var (pv 5)) (ia_cons (ie_var (pv 5)) ia_nil))) (ie_const (d := (.bl false)) rfl pe_bl) (nomark _))))) (iss_one (is_ret (ie_const (d := (.bl false)) rfl pe_bl))) iss_nil)
  (iss_cons (is_if (it_not (it_tru (ie_fn (ok__law_truth T) (hr.mono (by decide)) tk (by rfl) T.g__law_truth T.F__law_truth.kp (bd__law_truth T) (ia_cons (ie_fn (ok_less T) (hr.mono (by decide)) tk (by rfl) T.g_less T.F_less.kp (bd_less T) (ia_cons (ie_var (pv 6)) (ia_cons (ie_var (pv 5)) ia_nil))) (ia_cons (ie_cmp or_lt (ie_op or_mul (ie_op or_mul (ie_op or_sub (ie_op or_mul (ie_var (pv 9)) (ie_var (pv 8))) (ie_op or_mul (ie_var (pv 7)) (ie_var (pv 10)))) (ie_var (pv 8))) (ie_var (pv 10))) (ie_const (d := (.int 0)) rfl pe_int) (nomark _)) ia_nil))))) (iss_one (is_ret (ie_const (d := (.bl false)) rfl pe_bl))) iss_nil)
  (iss_cons (is_if (it_w (iw_or (it_cmp (or_ne hr.units) (ie_fnK0 (ok_plus T) (hr.mono (by decide)) tk (by rfl) T.g_plus T.F_plus.kp (kx_plus_0 T) (ik_cons (ie_var (pv 6)) (ik_cons (ie_var (pv 5)) ik_nil))) (ie_fn (ok_plus T) (hr.mono (by decide)) tk (by rfl) T.g_plus T.F_plus.kp (bd_plus T) (ia_cons (ie_var (pv 5)) (ia_cons (ie_var (pv 6)) ia_nil))) (nomark _)) (iw_or1 (it_cmp (or_ne hr.units) (ie_fnK0 (ok_less T) (hr.mono (by decide)) tk (by rfl) T.g_less T.F_less.kp (kx_less_0 T) (ik_cons (ie_var (pv 5)) (ik_cons (ie_var (pv 6)) ik_nil))) (ie_fn (ok_less T) (hr.mono (by decide)) tk (by rfl) T.g_less T.F_less.kp (bd_less T) (ia_cons (ie_var (pv 6)) (ia_cons (ie_var (pv 5)) ia_nil))) (nomark _))))) (iss_one (is_ret (ie_const (d := (.bl false)) rfl pe_bl))) iss_nil)
  (iss_cons (is_if (it_w (iw_or (it_cmp (or_ne hr.units) (ie_fnK0 (ok_times T) (hr.mono (by decide)) tk (by rfl) T.g_times T.F_times.kp (kx_times_0 T) (ik_cons (ie_var (pv 6)) (ik_cons (ie_var (pv 5)) ik_nil))) (ie_fn (ok_times T) (hr.mono (by decide)) tk (by rfl) T.g_times T.F_times.kp (bd_times T) (ia_cons (ie_var (pv 5)) (ia_cons (ie_var (pv 6)) ia_nil))) (nomark _)) (iw_or1 (it_cmp or_isNot (ie_fnK0 (ok_is_fraction T) (hr.mono (by decide)) tk (by rfl) T.g_is_fraction T.F_is_fraction.kp (kx_is_fraction_0 T) (ik_cons (ie_var (pv 5)) ik_nil)) (ie_const (d := (.bl true)) rfl pe_bl) (nomark _))))) (iss_one (is_ret (ie_const (d := (.bl false)) rfl pe_bl))) iss_nil)
  (iss_cons (is_if (it_w (iw_or (it_cmp (or_ne hr.units) (ie_fnK0 (ok_sum_of T) (hr.mono (by decide)) tk (by rfl) T.g_sum_of T.F_sum_of.kp (kx_sum_of_0 T) (ik_cons (ie_tup (ia_cons (ie_var (pv 5)) (ia_cons (ie_var (pv 6)) ia_nil))) ik_nil)) (ie_fn (ok_plus T) (hr.mono (by decide)) tk (by rfl) T.g_plus T.F_plus.kp (bd_plus T) (ia_cons (ie_var (pv 5)) (ia_cons (ie_var (pv 6)) ia_nil))) (nomark _)) (iw_or1 (it_w (iw_and (it_cmp (or_ne hr.units) (ie_var (pv 9)) (ie_const (d := (.int 0)) rfl pe_int) (nomark _)) (iw_and1 (it_cmp (or_ne hr.units) (ie_fnK0 (ok_ratio T) (hr.mono (by decide)) tk (by rfl) T.g_ratio T.F_ratio.kp (kx_ratio_0 T) (ik_cons (ie_var (pv 6)) (ik_cons (ie_var (pv 5)) ik_nil))) (ie_fn (ok_ratio T) (hr.mono (by decide)) tk (by rfl) T.g_ratio T.F_ratio.kp (bd_ratio T) (ia_cons (ie_var (pv 5)) (ia_cons (ie_var (pv 6)) ia_nil))) (nomark _)))))))) (iss_one (is_ret (ie_const (d := (.bl false)) rfl pe_bl))) iss_nil)
  (iss_cons (is_setLcV (i := 11) [("_law_turn", 15)] rfl sc_law.nd rfl rfl (sw_true rfl rfl rfl (by decide +kernel)) (ii_range1 (by rfl) T.n_range (ia_cons (ie_fn (ok__law_take T) (hr.mono (by decide)) tk (by rfl) T.g__law_take T.F__law_take.kp (bd__law_take T) (ia_cons (ie_var (pv 2)) (ia_cons (ie_const (d := (.int 7)) rfl pe_int) ia_nil))) ia_nil)) (blkOk_by (own := [("_law_turn", 15)]) (N := ["_law_script", "_law_k", "_law_box_here", "_law_first", "_law_second", "_law_one", "_law_other", "_law_a", "_law_b", "_law_c", "_law_d", "_law_rest", "_law_top", "_law_bottom", "_law_pair_here", "_law_turn", "_law_value"]) (sc := defScope st_law) (by decide +kernel)) (fun _ _ _ _ _ => (ig_name (pg_name (i := 15) sc_law.nd rfl (by first | exact Or.inl rfl | exact Or.inr rfl)))) (fun _ _ _ _ _ => its_nil) (fun _ _ _ _ _ => (ie_fn (ok__law_pair T) (hr.mono (by decide)) takes0 (by rfl) T.g__law_pair T.F__law_pair.kp (bd__law_pair T) (ia_cons (ie_var (pv 2)) ia_nil))))
  (iss_cons (is_asg (ps_asg (ie_tup (ia_cons (ie_const (d := (.int 0)) rfl pe_int) (ia_cons (ie_const (d := (.int 1)) rfl pe_int) ia_nil))) (ig_tup rfl (igs_cons (ig_name (pg_name (i := 12) sc_law.nd rfl (by first | exact Or.inl rfl | exact Or.inr rfl))) (igs_cons (ig_name (pg_name (i := 13) sc_law.nd rfl (by first | exact Or.inl rfl | exact Or.inr rfl))) igs_nil)))))
  (iss_cons (is_for (ps_for (passes_of rfl) rfl (ii_any (ie_var (pv 11))) (ig_name (pg_name (i := 14) sc_law.nd rfl (by first | exact Or.inl rfl | exact Or.inr rfl))) (iss_one (is_par (ps_par (i := 12) (j := 13) rfl sc_law.nd rfl rfl (by decide) rfl rfl (ia_cons (ie_op or_add (ie_op or_mul (ie_var (pv 12)) (ie_ix (ie_var (pv 14)) (ie_const (d := (.int 1)) rfl pe_int) (fun _ _ => rfl))) (ie_op or_mul (ie_ix (ie_var (pv 14)) (ie_const (d := (.int 0)) rfl pe_int) (fun _ _ => rfl)) (ie_var (pv 13)))) (ia_cons (ie_op or_mul (ie_var (pv 13)) (ie_ix (ie_var (pv 14)) (ie_const (d := (.int 1)) rfl pe_int) (fun _ _ => rfl))) ia_nil)) (by first | rfl | with_unfolding_all rfl))))))
  (iss_cons (is_if (it_not (it_tru (ie_fn (ok__law_same T) (hr.mono (by decide)) tk (by rfl) T.g__law_same T.F__law_same.kp (bd__law_same T) (ia_cons (ie_fn (ok_sum_of T) (hr.mono (by decide)) tk (by rfl) T.g_sum_of T.F_sum_of.kp (bd_sum_of T) (ia_cons (ie_callTy cr_tuple (by rfl) T.n_tuple PyProof.Rows.boot_tuple (ia_cons (ie_lcV [("_law_pair_here", 14)] rfl sc_law.nd (ii_any (ie_var (pv 11))) (blkOk_by (own := [("_law_pair_here", 14)]) (N := ["_law_script", "_law_k", "_law_box_here", "_law_first", "_law_second", "_law_one", "_law_other", "_law_a", "_law_b", "_law_c", "_law_d", "_law_rest", "_law_top", "_law_bottom", "_law_pair_here", "_law_turn", "_law_value"]) (sc := defScope st_law) (by decide +kernel)) (fun _ _ _ _ _ => (ig_name (pg_name (i := 14) sc_law.nd rfl (by first | exact Or.inl rfl | exact Or.inr rfl)))) (fun _ _ _ _ _ => its_nil) (fun _ _ _ _ _ => (ie_fn (ok_fraction_of T) (hr.mono (by decide)) takes0 (by rfl) T.g_fraction_of T.F_fraction_of.kp (bd_fraction_of T) (ia_cons (ie_ix (ie_var (pv 14)) (ie_const (d := (.int 0)) rfl pe_int) (fun _ _ => rfl)) (ia_cons (ie_ix (ie_var (pv 14)) (ie_const (d := (.int 1)) rfl pe_int) (fun _ _ => rfl)) ia_nil))))) ia_nil)) ia_nil)) (ia_cons (ie_tup (ia_cons (ie_var (pv 12)) (ia_cons (ie_var (pv 13)) ia_nil))) ia_nil))))) (iss_one (is_ret (ie_const (d := (.bl false)) rfl pe_bl))) iss_nil)
  (iss_cons (is_if (it_w (iw_or (it_cmp (or_ne hr.units) (ie_fn (ok_sum_of T) (hr.mono (by decide)) tk (by rfl) T.g_sum_of T.F_sum_of.kp (bd_sum_of T) (ia_cons (ie_tup ia_nil) ia_nil)) (ie_tup (ia_cons (ie_const (d := (.int 0)) rfl pe_int) (ia_cons (ie_const (d := (.int 1)) rfl pe_int) ia_nil))) (nomark _)) (iw_or (it_cmp (or_ne hr.units) (ie_fn (ok_minus T) (hr.mono (by decide)) tk (by rfl) T.g_minus T.F_minus.kp (bd_minus T) (ia_cons (ie_var (pv 5)) (ia_cons (ie_var (pv 5)) ia_nil))) (ie_tup (ia_cons (ie_const (d := (.int 0)) rfl pe_int) (ia_cons (ie_const (d := (.int 1)) rfl pe_int) ia_nil))) (nomark _)) (iw_or1 (it_cmp (or_ne hr.units) (ie_fn (ok_times T) (hr.mono (by decide)) tk (by rfl) T.g_times T.F_times.kp (bd_times T) (ia_cons (ie_var (pv 5)) (ia_cons (ie_tup (ia_cons (ie_const (d := (.int 1)) rfl pe_int) (ia_cons (ie_const (d := (.int 1)) rfl pe_int) ia_nil))) ia_nil))) (ie_var (pv 5)) (nomark _)))))) (iss_one (is_ret (ie_const (d := (.bl false)) rfl pe_bl))) iss_nil)
  (iss_one (is_if (it_not (it_tru (ie_callB (cr_all' rfl) (by rfl) T.n_all PyProof.Rows.boot_all (ia_cons (ie_lcV [("_law_value", 16)] rfl sc_law.nd (ii_any (ie_fn (ok__law_almost T) (hr.mono (by decide)) tk (by rfl) T.g__law_almost T.F__law_almost.kp (bd__law_almost T) (ia_cons (ie_var (pv 2)) (ia_cons (ie_var (pv 5)) ia_nil)))) (blkOk_by (own := [("_law_value", 16)]) (N := ["_law_script", "_law_k", "_law_box_here", "_law_first", "_law_second", "_law_one", "_law_other", "_law_a", "_law_b", "_law_c", "_law_d", "_law_rest", "_law_top", "_law_bottom", "_law_pair_here", "_law_turn", "_law_value"]) (sc := defScope st_law) (by decide +kernel)) (fun _ _ _ _ _ => (ig_name (pg_name (i := 16) sc_law.nd rfl (by first | exact Or.inl rfl | exact Or.inr rfl)))) (fun _ _ _ _ _ => its_nil) (fun _ _ _ _ _ => (ie_fn (ok__law_truth T) (hr.mono (by decide)) takes0 (by rfl) T.g__law_truth T.F__law_truth.kp (bd__law_truth T) (ia_cons (ie_fn (ok_is_fraction T) (hr.mono (by decide)) takes0 (by rfl) T.g_is_fraction T.F_is_fraction.kp (bd_is_fraction T) (ia_cons (ie_var (pv 16)) ia_nil)) (ia_cons (ie_fn (ok__law_is_fraction T) (hr.mono (by decide)) takes0 (by rfl) T.g__law_is_fraction T.F__law_is_fraction.kp (bd__law_is_fraction T) (ia_cons (ie_var (pv 16)) ia_nil)) ia_nil))))) ia_nil)))) (iss_one (is_ret (ie_const (d := (.bl false)) rfl pe_bl))) iss_nil)))))))))))))))))))))))
  (iss_one (is_ret (ie_const (d := (.bl true)) rfl pe_bl))))
end
end K44

namespace K44
open PySem PySem.Spec PyProof.Rows L2 Mr
/-! ### divisors -/
theorem abs_nat (i : Int) : (if i < 0 then -i else i) = (i.natAbs : Int) := by split <;> omega
theorem ev_abs (i : Int) (m : Mu) : pAbs [.int i] m = .ok (.int (i.natAbs : Int)) m := by
  show Res.ok (D.int (if i < 0 then -i else i)) m = _
  rw [abs_nat]
theorem ev_int (i : Int) (m : Mu) : pInt [.int i] m = .ok (.int i) m := rfl
theorem gcd_turn (x y : Nat) : Nat.gcd y (x % y) = Nat.gcd x y := by rw [Nat.gcd_comm x y, Nat.gcd_rec y x, Nat.gcd_comm]
theorem cd_loop : ∀ (n x y : Nat), y ≤ n → ∀ m, sWhile (iTest (iOp oGt (iVar 1) (iK (.int 0)))) (sPar 0 1 (iCons (iVar 1) (iCons (iOp oMod (iVar 0) (iVar 1)) iNil))) [some (.int (x : Int)), some (.int (y : Int))] m = .nx [some (.int (Nat.gcd x y : Int)), some (.int 0)] m := by
  intro n
  induction n with
  | zero =>
    intro x y h m
    have : y = 0 := by omega
    subst this
    rw [ev_while]
    simp only [Res.bind_ok, Res.bind_err, Res.bind_bad, Res.thenS_ok, Res.thenS_err, Res.thenS_bad, SRes.bind_nx, SRes.bind_rt, SRes.bind_err, SRes.bind_bk, SRes.bind_ct, SRes.bind_bad, Res.safe_ok, ev_iVar, ev_getR, ev_iK, ev_iNil, ev_iCons, ev_op, ev_call, ev_callK, ev_iTest, ev_testR, ev_iTru, ev_truR, ev_truB, ev_truN, ev_truI, ev_iAnd, ev_iOr, ev_iNot, ev_iAndV, ev_iOrV, ev_iNotV, ev_iIf, ev_iNeg, ev_negR, ev_iTup, ev_iLst, ev_iLstO, ev_addI, ev_subI, ev_ltI, ev_leI, ev_gtI, ev_geI, ev_eq, ev_ne, ev_blR, eqD_int, eqD_pair, Option.map_some, ev_isB, ev_isNotB, ev_ixT, ev_ixL, ev_ixR, ev_ixR1, ev_gSub, ev_gsR, ev_gsR2, ev_sNil, ev_sSeq, ev_sAsg, ev_asgR, ev_gNm, ev_sExpr, ev_sRet, ev_sRetN, ev_sBreak, ev_sCont, ev_sIf, ev_sRaise, ev_sPar, ev_parR, ev_sPar3, ev_par3R, ev_whR, ev_whC, ev_whB, ev_whT, ev_clo1, ev_cloB, List.getElem?_cons_zero, List.getElem?_cons_succ, List.set_cons_zero, List.set_cons_succ, List.length_cons, List.length_nil, if_true, if_false, Bool.false_eq_true, Bool.not_true, Bool.not_false]
    simp
  | succ n ih =>
    intro x y h m
    rw [ev_while]
    by_cases hy : y = 0
    · subst hy
      simp only [Res.bind_ok, Res.bind_err, Res.bind_bad, Res.thenS_ok, Res.thenS_err, Res.thenS_bad, SRes.bind_nx, SRes.bind_rt, SRes.bind_err, SRes.bind_bk, SRes.bind_ct, SRes.bind_bad, Res.safe_ok, ev_iVar, ev_getR, ev_iK, ev_iNil, ev_iCons, ev_op, ev_call, ev_callK, ev_iTest, ev_testR, ev_iTru, ev_truR, ev_truB, ev_truN, ev_truI, ev_iAnd, ev_iOr, ev_iNot, ev_iAndV, ev_iOrV, ev_iNotV, ev_iIf, ev_iNeg, ev_negR, ev_iTup, ev_iLst, ev_iLstO, ev_addI, ev_subI, ev_ltI, ev_leI, ev_gtI, ev_geI, ev_eq, ev_ne, ev_blR, eqD_int, eqD_pair, Option.map_some, ev_isB, ev_isNotB, ev_ixT, ev_ixL, ev_ixR, ev_ixR1, ev_gSub, ev_gsR, ev_gsR2, ev_sNil, ev_sSeq, ev_sAsg, ev_asgR, ev_gNm, ev_sExpr, ev_sRet, ev_sRetN, ev_sBreak, ev_sCont, ev_sIf, ev_sRaise, ev_sPar, ev_parR, ev_sPar3, ev_par3R, ev_whR, ev_whC, ev_whB, ev_whT, ev_clo1, ev_cloB, List.getElem?_cons_zero, List.getElem?_cons_succ, List.set_cons_zero, List.set_cons_succ, List.length_cons, List.length_nil, if_true, if_false, Bool.false_eq_true, Bool.not_true, Bool.not_false]
      simp
    · have h1 : (0 : Int) < (y : Int) := by omega
      have h2 : ((x : Int) % (y : Int)) = ((x % y : Nat) : Int) := by omega
      simp only [Res.bind_ok, Res.bind_err, Res.bind_bad, Res.thenS_ok, Res.thenS_err, Res.thenS_bad, SRes.bind_nx, SRes.bind_rt, SRes.bind_err, SRes.bind_bk, SRes.bind_ct, SRes.bind_bad, Res.safe_ok, ev_iVar, ev_getR, ev_iK, ev_iNil, ev_iCons, ev_op, ev_call, ev_callK, ev_iTest, ev_testR, ev_iTru, ev_truR, ev_truB, ev_truN, ev_truI, ev_iAnd, ev_iOr, ev_iNot, ev_iAndV, ev_iOrV, ev_iNotV, ev_iIf, ev_iNeg, ev_negR, ev_iTup, ev_iLst, ev_iLstO, ev_addI, ev_subI, ev_ltI, ev_leI, ev_gtI, ev_geI, ev_eq, ev_ne, ev_blR, eqD_int, eqD_pair, Option.map_some, ev_isB, ev_isNotB, ev_ixT, ev_ixL, ev_ixR, ev_ixR1, ev_gSub, ev_gsR, ev_gsR2, ev_sNil, ev_sSeq, ev_sAsg, ev_asgR, ev_gNm, ev_sExpr, ev_sRet, ev_sRetN, ev_sBreak, ev_sCont, ev_sIf, ev_sRaise, ev_sPar, ev_parR, ev_sPar3, ev_par3R, ev_whR, ev_whC, ev_whB, ev_whT, ev_clo1, ev_cloB, List.getElem?_cons_zero, List.getElem?_cons_succ, List.set_cons_zero, List.set_cons_succ, List.length_cons, List.length_nil, if_true, if_false, Bool.false_eq_true, Bool.not_true, Bool.not_false, ev_modI _ _ _ h1, h1, decide_true, h2]
      rw [ih y (x % y) (by have := Nat.mod_lt x (by omega : y > 0); omega) m, gcd_turn]
theorem cd_is (a b : Int) (m : Mu) : m_common_divisor [.int a, .int b] m = .ok (.int (Int.gcd a b : Int)) m := by
  rw [ap_common_divisor]
  unfold b_common_divisor
  simp only [Res.bind_ok, Res.bind_err, Res.bind_bad, Res.thenS_ok, Res.thenS_err, Res.thenS_bad, SRes.bind_nx, SRes.bind_rt, SRes.bind_err, SRes.bind_bk, SRes.bind_ct, SRes.bind_bad, Res.safe_ok, ev_iVar, ev_getR, ev_iK, ev_iNil, ev_iCons, ev_op, ev_call, ev_callK, ev_iTest, ev_testR, ev_iTru, ev_truR, ev_truB, ev_truN, ev_truI, ev_iAnd, ev_iOr, ev_iNot, ev_iAndV, ev_iOrV, ev_iNotV, ev_iIf, ev_iNeg, ev_negR, ev_iTup, ev_iLst, ev_iLstO, ev_addI, ev_subI, ev_ltI, ev_leI, ev_gtI, ev_geI, ev_eq, ev_ne, ev_blR, eqD_int, eqD_pair, Option.map_some, ev_isB, ev_isNotB, ev_ixT, ev_ixL, ev_ixR, ev_ixR1, ev_gSub, ev_gsR, ev_gsR2, ev_sNil, ev_sSeq, ev_sAsg, ev_asgR, ev_gNm, ev_sExpr, ev_sRet, ev_sRetN, ev_sBreak, ev_sCont, ev_sIf, ev_sRaise, ev_sPar, ev_parR, ev_sPar3, ev_par3R, ev_whR, ev_whC, ev_whB, ev_whT, ev_clo1, ev_cloB, List.getElem?_cons_zero, List.getElem?_cons_succ, List.set_cons_zero, List.set_cons_succ, List.length_cons, List.length_nil, if_true, if_false, Bool.false_eq_true, Bool.not_true, Bool.not_false, ev_abs]
  rw [cd_loop _ _ _ (Nat.le_refl _)]
  simp only [Res.bind_ok, Res.bind_err, Res.bind_bad, Res.thenS_ok, Res.thenS_err, Res.thenS_bad, SRes.bind_nx, SRes.bind_rt, SRes.bind_err, SRes.bind_bk, SRes.bind_ct, SRes.bind_bad, Res.safe_ok, ev_iVar, ev_getR, ev_iK, ev_iNil, ev_iCons, ev_op, ev_call, ev_callK, ev_iTest, ev_testR, ev_iTru, ev_truR, ev_truB, ev_truN, ev_truI, ev_iAnd, ev_iOr, ev_iNot, ev_iAndV, ev_iOrV, ev_iNotV, ev_iIf, ev_iNeg, ev_negR, ev_iTup, ev_iLst, ev_iLstO, ev_addI, ev_subI, ev_ltI, ev_leI, ev_gtI, ev_geI, ev_eq, ev_ne, ev_blR, eqD_int, eqD_pair, Option.map_some, ev_isB, ev_isNotB, ev_ixT, ev_ixL, ev_ixR, ev_ixR1, ev_gSub, ev_gsR, ev_gsR2, ev_sNil, ev_sSeq, ev_sAsg, ev_asgR, ev_gNm, ev_sExpr, ev_sRet, ev_sRetN, ev_sBreak, ev_sCont, ev_sIf, ev_sRaise, ev_sPar, ev_parR, ev_sPar3, ev_par3R, ev_whR, ev_whC, ev_whB, ev_whT, ev_clo1, ev_cloB, List.getElem?_cons_zero, List.getElem?_cons_succ, List.set_cons_zero, List.set_cons_succ, List.length_cons, List.length_nil, if_true, if_false, Bool.false_eq_true, Bool.not_true, Bool.not_false]
  rfl
theorem ld_loop : ∀ (n x y : Nat) (a b : Option D), y ≤ n → ∀ m, sWhile (iTest (iOp oNe (iOp oIx (iVar 2) (iK (.int 1))) (iK (.int 0)))) (sAsg (iLst (iCons (iOp oIx (iVar 2) (iK (.int 1))) (iCons (iOp oMod (iCall pInt (iCons (iOp oIx (iVar 2) (iK (.int 0))) iNil)) (iOp oIx (iVar 2) (iK (.int 1)))) iNil))) (gNm 2)) [a, b, some (.lst [.int (x : Int), .int (y : Int)])] m = .nx [a, b, some (.lst [.int (Nat.gcd x y : Int), .int 0])] m := by
  intro n
  induction n with
  | zero =>
    intro x y a b h m
    have : y = 0 := by omega
    subst this
    rw [ev_while]
    simp only [Res.bind_ok, Res.bind_err, Res.bind_bad, Res.thenS_ok, Res.thenS_err, Res.thenS_bad, SRes.bind_nx, SRes.bind_rt, SRes.bind_err, SRes.bind_bk, SRes.bind_ct, SRes.bind_bad, Res.safe_ok, ev_iVar, ev_getR, ev_iK, ev_iNil, ev_iCons, ev_op, ev_call, ev_callK, ev_iTest, ev_testR, ev_iTru, ev_truR, ev_truB, ev_truN, ev_truI, ev_iAnd, ev_iOr, ev_iNot, ev_iAndV, ev_iOrV, ev_iNotV, ev_iIf, ev_iNeg, ev_negR, ev_iTup, ev_iLst, ev_iLstO, ev_addI, ev_subI, ev_ltI, ev_leI, ev_gtI, ev_geI, ev_eq, ev_ne, ev_blR, eqD_int, eqD_pair, Option.map_some, ev_isB, ev_isNotB, ev_ixT, ev_ixL, ev_ixR, ev_ixR1, ev_gSub, ev_gsR, ev_gsR2, ev_sNil, ev_sSeq, ev_sAsg, ev_asgR, ev_gNm, ev_sExpr, ev_sRet, ev_sRetN, ev_sBreak, ev_sCont, ev_sIf, ev_sRaise, ev_sPar, ev_parR, ev_sPar3, ev_par3R, ev_whR, ev_whC, ev_whB, ev_whT, ev_clo1, ev_cloB, List.getElem?_cons_zero, List.getElem?_cons_succ, List.set_cons_zero, List.set_cons_succ, List.length_cons, List.length_nil, if_true, if_false, Bool.false_eq_true, Bool.not_true, Bool.not_false, atI_nn (Int.zero_le_ofNat 1), atI_nn (Int.le_refl 0), Int.toNat_one, Int.toNat_zero]
    simp
  | succ n ih =>
    intro x y a b h m
    rw [ev_while]
    by_cases hy : y = 0
    · subst hy
      simp only [Res.bind_ok, Res.bind_err, Res.bind_bad, Res.thenS_ok, Res.thenS_err, Res.thenS_bad, SRes.bind_nx, SRes.bind_rt, SRes.bind_err, SRes.bind_bk, SRes.bind_ct, SRes.bind_bad, Res.safe_ok, ev_iVar, ev_getR, ev_iK, ev_iNil, ev_iCons, ev_op, ev_call, ev_callK, ev_iTest, ev_testR, ev_iTru, ev_truR, ev_truB, ev_truN, ev_truI, ev_iAnd, ev_iOr, ev_iNot, ev_iAndV, ev_iOrV, ev_iNotV, ev_iIf, ev_iNeg, ev_negR, ev_iTup, ev_iLst, ev_iLstO, ev_addI, ev_subI, ev_ltI, ev_leI, ev_gtI, ev_geI, ev_eq, ev_ne, ev_blR, eqD_int, eqD_pair, Option.map_some, ev_isB, ev_isNotB, ev_ixT, ev_ixL, ev_ixR, ev_ixR1, ev_gSub, ev_gsR, ev_gsR2, ev_sNil, ev_sSeq, ev_sAsg, ev_asgR, ev_gNm, ev_sExpr, ev_sRet, ev_sRetN, ev_sBreak, ev_sCont, ev_sIf, ev_sRaise, ev_sPar, ev_parR, ev_sPar3, ev_par3R, ev_whR, ev_whC, ev_whB, ev_whT, ev_clo1, ev_cloB, List.getElem?_cons_zero, List.getElem?_cons_succ, List.set_cons_zero, List.set_cons_succ, List.length_cons, List.length_nil, if_true, if_false, Bool.false_eq_true, Bool.not_true, Bool.not_false, atI_nn (Int.zero_le_ofNat 1), atI_nn (Int.le_refl 0), Int.toNat_one, Int.toNat_zero]
      simp
    · have h1 : (0 : Int) < (y : Int) := by omega
      have h0 : ¬ ((y : Int) = 0) := by omega
      have h2 : ((x : Int) % (y : Int)) = ((x % y : Nat) : Int) := by omega
      have h3 : ([D.int (y : Int), D.int ((x % y : Nat) : Int)] : List D).length ≤ sizeLine := by rw [sizeLine_eq]; exact (by decide : 2 ≤ 16777216)
      simp only [Res.bind_ok, Res.bind_err, Res.bind_bad, Res.thenS_ok, Res.thenS_err, Res.thenS_bad, SRes.bind_nx, SRes.bind_rt, SRes.bind_err, SRes.bind_bk, SRes.bind_ct, SRes.bind_bad, Res.safe_ok, ev_iVar, ev_getR, ev_iK, ev_iNil, ev_iCons, ev_op, ev_call, ev_callK, ev_iTest, ev_testR, ev_iTru, ev_truR, ev_truB, ev_truN, ev_truI, ev_iAnd, ev_iOr, ev_iNot, ev_iAndV, ev_iOrV, ev_iNotV, ev_iIf, ev_iNeg, ev_negR, ev_iTup, ev_iLst, ev_iLstO, ev_addI, ev_subI, ev_ltI, ev_leI, ev_gtI, ev_geI, ev_eq, ev_ne, ev_blR, eqD_int, eqD_pair, Option.map_some, ev_isB, ev_isNotB, ev_ixT, ev_ixL, ev_ixR, ev_ixR1, ev_gSub, ev_gsR, ev_gsR2, ev_sNil, ev_sSeq, ev_sAsg, ev_asgR, ev_gNm, ev_sExpr, ev_sRet, ev_sRetN, ev_sBreak, ev_sCont, ev_sIf, ev_sRaise, ev_sPar, ev_parR, ev_sPar3, ev_par3R, ev_whR, ev_whC, ev_whB, ev_whT, ev_clo1, ev_cloB, List.getElem?_cons_zero, List.getElem?_cons_succ, List.set_cons_zero, List.set_cons_succ, List.length_cons, List.length_nil, if_true, if_false, Bool.false_eq_true, Bool.not_true, Bool.not_false, atI_nn (Int.zero_le_ofNat 1), atI_nn (Int.le_refl 0), Int.toNat_one, Int.toNat_zero, ev_int, ev_modI _ _ _ h1, h0, decide_false, h2] at h3 ⊢
      simp only [h3, Res.bind_ok, Res.bind_err, Res.bind_bad, Res.thenS_ok, Res.thenS_err, Res.thenS_bad, SRes.bind_nx, SRes.bind_rt, SRes.bind_err, SRes.bind_bk, SRes.bind_ct, SRes.bind_bad, Res.safe_ok, ev_iVar, ev_getR, ev_iK, ev_iNil, ev_iCons, ev_op, ev_call, ev_callK, ev_iTest, ev_testR, ev_iTru, ev_truR, ev_truB, ev_truN, ev_truI, ev_iAnd, ev_iOr, ev_iNot, ev_iAndV, ev_iOrV, ev_iNotV, ev_iIf, ev_iNeg, ev_negR, ev_iTup, ev_iLst, ev_iLstO, ev_addI, ev_subI, ev_ltI, ev_leI, ev_gtI, ev_geI, ev_eq, ev_ne, ev_blR, eqD_int, eqD_pair, Option.map_some, ev_isB, ev_isNotB, ev_ixT, ev_ixL, ev_ixR, ev_ixR1, ev_gSub, ev_gsR, ev_gsR2, ev_sNil, ev_sSeq, ev_sAsg, ev_asgR, ev_gNm, ev_sExpr, ev_sRet, ev_sRetN, ev_sBreak, ev_sCont, ev_sIf, ev_sRaise, ev_sPar, ev_parR, ev_sPar3, ev_par3R, ev_whR, ev_whC, ev_whB, ev_whT, ev_clo1, ev_cloB, List.getElem?_cons_zero, List.getElem?_cons_succ, List.set_cons_zero, List.set_cons_succ, List.length_cons, List.length_nil, if_true, if_false, Bool.false_eq_true, Bool.not_true, Bool.not_false]
      rw [ih y (x % y) a b (by have := Nat.mod_lt x (by omega : y > 0); omega) m, gcd_turn]
theorem ld_is (a b : Int) (m : Mu) : m__law_divisor [.int a, .int b] m = .ok (.int (Int.gcd a b : Int)) m := by
  rw [ap__law_divisor]
  unfold b__law_divisor
  have h3 : (0 + 1 + 1 : Nat) ≤ sizeLine := by rw [sizeLine_eq]; exact (by decide : 2 ≤ 16777216)
  simp only [Res.bind_ok, Res.bind_err, Res.bind_bad, Res.thenS_ok, Res.thenS_err, Res.thenS_bad, SRes.bind_nx, SRes.bind_rt, SRes.bind_err, SRes.bind_bk, SRes.bind_ct, SRes.bind_bad, Res.safe_ok, ev_iVar, ev_getR, ev_iK, ev_iNil, ev_iCons, ev_op, ev_call, ev_callK, ev_iTest, ev_testR, ev_iTru, ev_truR, ev_truB, ev_truN, ev_truI, ev_iAnd, ev_iOr, ev_iNot, ev_iAndV, ev_iOrV, ev_iNotV, ev_iIf, ev_iNeg, ev_negR, ev_iTup, ev_iLst, ev_iLstO, ev_addI, ev_subI, ev_ltI, ev_leI, ev_gtI, ev_geI, ev_eq, ev_ne, ev_blR, eqD_int, eqD_pair, Option.map_some, ev_isB, ev_isNotB, ev_ixT, ev_ixL, ev_ixR, ev_ixR1, ev_gSub, ev_gsR, ev_gsR2, ev_sNil, ev_sSeq, ev_sAsg, ev_asgR, ev_gNm, ev_sExpr, ev_sRet, ev_sRetN, ev_sBreak, ev_sCont, ev_sIf, ev_sRaise, ev_sPar, ev_parR, ev_sPar3, ev_par3R, ev_whR, ev_whC, ev_whB, ev_whT, ev_clo1, ev_cloB, List.getElem?_cons_zero, List.getElem?_cons_succ, List.set_cons_zero, List.set_cons_succ, List.length_cons, List.length_nil, if_true, if_false, Bool.false_eq_true, Bool.not_true, Bool.not_false, ev_abs, h3]
  rw [ld_loop _ _ _ _ _ (Nat.le_refl _)]
  simp only [Res.bind_ok, Res.bind_err, Res.bind_bad, Res.thenS_ok, Res.thenS_err, Res.thenS_bad, SRes.bind_nx, SRes.bind_rt, SRes.bind_err, SRes.bind_bk, SRes.bind_ct, SRes.bind_bad, Res.safe_ok, ev_iVar, ev_getR, ev_iK, ev_iNil, ev_iCons, ev_op, ev_call, ev_callK, ev_iTest, ev_testR, ev_iTru, ev_truR, ev_truB, ev_truN, ev_truI, ev_iAnd, ev_iOr, ev_iNot, ev_iAndV, ev_iOrV, ev_iNotV, ev_iIf, ev_iNeg, ev_negR, ev_iTup, ev_iLst, ev_iLstO, ev_addI, ev_subI, ev_ltI, ev_leI, ev_gtI, ev_geI, ev_eq, ev_ne, ev_blR, eqD_int, eqD_pair, Option.map_some, ev_isB, ev_isNotB, ev_ixT, ev_ixL, ev_ixR, ev_ixR1, ev_gSub, ev_gsR, ev_gsR2, ev_sNil, ev_sSeq, ev_sAsg, ev_asgR, ev_gNm, ev_sExpr, ev_sRet, ev_sRetN, ev_sBreak, ev_sCont, ev_sIf, ev_sRaise, ev_sPar, ev_parR, ev_sPar3, ev_par3R, ev_whR, ev_whC, ev_whB, ev_whT, ev_clo1, ev_cloB, List.getElem?_cons_zero, List.getElem?_cons_succ, List.set_cons_zero, List.set_cons_succ, List.length_cons, List.length_nil, if_true, if_false, Bool.false_eq_true, Bool.not_true, Bool.not_false, atI_nn (Int.le_refl 0), Int.toNat_zero]
  rfl
/-! ### sizes -/
def Bd (k : Nat) (x : Int) : Prop := x.natAbs < 2 ^ k
theorem Bd.mono {j k : Nat} {x : Int} (h : Bd j x) (hk : j ≤ k) : Bd k x := Nat.lt_of_lt_of_le h (Nat.pow_le_pow_right (by decide) hk)
theorem Bd.mul {j k : Nat} {x y : Int} (h : Bd j x) (h2 : Bd k y) : Bd (j + k) (x * y) := by
  unfold Bd at *
  rw [Int.natAbs_mul, Nat.pow_add]
  exact Nat.mul_lt_mul'' h h2
theorem Bd.add {k : Nat} {x y : Int} (h : Bd k x) (h2 : Bd k y) : Bd (k + 1) (x + y) := by
  unfold Bd at *
  rw [Nat.pow_succ]
  omega
theorem Bd.sub {k : Nat} {x y : Int} (h : Bd k x) (h2 : Bd k y) : Bd (k + 1) (x - y) := by
  unfold Bd at *
  rw [Nat.pow_succ]
  omega
theorem Bd.log {k : Nat} {x : Int} (h : Bd k x) : x.natAbs.log2 ≤ k := by
  unfold Bd at h
  by_cases hx : x.natAbs = 0
  · rw [hx]
    exact Nat.zero_le _
  · exact Nat.le_of_lt ((Nat.log2_lt hx).mpr h)
theorem Bd.c {j k : Nat} {x y : Int} (h : Bd j x) (h2 : Bd k y) (hk : j + k < 1000000) : CMulW x y := by
  have a := h.log
  have b := h2.log
  show x.natAbs.log2 + y.natAbs.log2 < 1000000
  omega
theorem Bd.of_le {k : Nat} {x y : Int} (h : Bd k y) (hl : x.natAbs ≤ y.natAbs) : Bd k x := Nat.lt_of_le_of_lt hl h
theorem Bd.one : Bd 1 1 := by
  show (1 : Int).natAbs < 2 ^ 1
  decide
theorem Bd.zero (k : Nat) : Bd k 0 := Nat.two_pow_pos k
/-! ### fractions -/
def part (t b : Int) : Int := if 0 < b then (Int.gcd t b : Int) else -(Int.gcd t b : Int)
def nu (t b : Int) : Int := t.fdiv (part t b)
def de (t b : Int) : Int := b.fdiv (part t b)
def frD (t b : Int) : D := .tup [.int (nu t b), .int (de t b)]
theorem part_abs (t b : Int) : (part t b).natAbs = Int.gcd t b := by
  unfold part
  split <;> simp
theorem part_ne {t b : Int} (hb : b ≠ 0) : part t b ≠ 0 := by
  intro h
  have := part_abs t b
  rw [h] at this
  have h2 : Int.gcd t b = 0 := this.symm
  rw [Int.gcd_eq_zero_iff] at h2
  exact hb h2.2
theorem part_dvd (t b : Int) : part t b ∣ t ∧ part t b ∣ b := by
  unfold part
  split
  · exact ⟨Int.gcd_dvd_left .., Int.gcd_dvd_right ..⟩
  · exact ⟨Int.neg_dvd.mpr (Int.gcd_dvd_left ..), Int.neg_dvd.mpr (Int.gcd_dvd_right ..)⟩
theorem nu_mul (t b : Int) : nu t b * part t b = t := by
  unfold nu
  rw [Int.fdiv_eq_ediv_of_dvd (part_dvd t b).1]
  exact Int.ediv_mul_cancel (part_dvd t b).1
theorem de_mul (t b : Int) : de t b * part t b = b := by
  unfold de
  rw [Int.fdiv_eq_ediv_of_dvd (part_dvd t b).2]
  exact Int.ediv_mul_cancel (part_dvd t b).2
theorem de_pos {t b : Int} (hb : b ≠ 0) : 0 < de t b := by
  have h := de_mul t b
  have hp := part_ne (t := t) hb
  unfold part at h hp
  split at h
  · rename_i h0
    rw [if_pos h0] at hp
    have hg : (0 : Int) < (Int.gcd t b : Int) := by omega
    rcases Int.lt_trichotomy (de t b) 0 with z | z | z
    · have := Int.mul_neg_of_neg_of_pos z hg
      omega
    · rw [z, Int.zero_mul] at h
      omega
    · exact z
  · rename_i h0
    rw [if_neg h0] at hp
    have hg : (0 : Int) < (Int.gcd t b : Int) := by omega
    rcases Int.lt_trichotomy (de t b) 0 with z | z | z
    · have := Int.mul_neg_of_neg_of_pos z hg
      rw [Int.mul_neg] at h
      omega
    · rw [z, Int.zero_mul] at h
      omega
    · exact z
theorem nd_gcd {t b : Int} (hb : b ≠ 0) : Int.gcd (nu t b) (de t b) = 1 := by
  have h : Int.gcd t b = Int.gcd (nu t b) (de t b) * Int.gcd t b := by
    have := Int.gcd_mul_right (nu t b) (part t b) (de t b)
    rw [nu_mul, de_mul, part_abs] at this
    exact this
  have hg : 0 < Int.gcd t b := by
    rcases Nat.eq_zero_or_pos (Int.gcd t b) with z | z
    · rw [Int.gcd_eq_zero_iff] at z
      exact (hb z.2).elim
    · exact z
  have h1 : 1 * Int.gcd t b = Int.gcd (nu t b) (de t b) * Int.gcd t b := by rw [Nat.one_mul]; exact h
  exact (Nat.eq_of_mul_eq_mul_right hg h1).symm
theorem nd_cross (t b : Int) : nu t b * b = t * de t b := by
  have h1 := nu_mul t b
  have h2 := de_mul t b
  grind
theorem abs_le_mul {x y : Int} (hy : y ≠ 0) : x.natAbs ≤ (x * y).natAbs := by
  rw [Int.natAbs_mul]
  exact Nat.le_mul_of_pos_right _ (by omega)
theorem nu_le {t b : Int} (hb : b ≠ 0) : (nu t b).natAbs ≤ t.natAbs := by
  have := abs_le_mul (x := nu t b) (part_ne (t := t) hb)
  rw [nu_mul] at this
  exact this
theorem de_le {t b : Int} (hb : b ≠ 0) : (de t b).natAbs ≤ b.natAbs := by
  have := abs_le_mul (x := de t b) (part_ne (t := t) hb)
  rw [de_mul] at this
  exact this
/-- a fraction in lowest terms is what its parts say -/
theorem fr_uniq {p q p' q' : Int} (hq : 0 < q) (hq' : 0 < q') (h : Int.gcd p q = 1) (h' : Int.gcd p' q' = 1) (e : p * q' = p' * q) : p = p' ∧ q = q' := by
  have hn : p.natAbs * q'.natAbs = p'.natAbs * q.natAbs := by rw [← Int.natAbs_mul, ← Int.natAbs_mul, e]
  have d1 : q.natAbs ∣ q'.natAbs := by
    have c : Nat.Coprime q.natAbs p.natAbs := by
      show Nat.gcd _ _ = 1
      rw [Nat.gcd_comm]
      exact h
    refine c.dvd_of_dvd_mul_left ⟨p'.natAbs, ?_⟩
    rw [hn, Nat.mul_comm]
  have d2 : q'.natAbs ∣ q.natAbs := by
    have c : Nat.Coprime q'.natAbs p'.natAbs := by
      show Nat.gcd _ _ = 1
      rw [Nat.gcd_comm]
      exact h'
    refine c.dvd_of_dvd_mul_left ⟨p.natAbs, ?_⟩
    rw [← hn, Nat.mul_comm]
  have eq : q.natAbs = q'.natAbs := Nat.dvd_antisymm d1 d2
  have eq2 : q = q' := by omega
  subst eq2
  exact ⟨Int.eq_of_mul_eq_mul_right (by omega) e, rfl⟩
theorem fr_same {t b t' b' : Int} (hb : b ≠ 0) (hb' : b' ≠ 0) (e : t * b' = t' * b) : nu t b = nu t' b' ∧ de t b = de t' b' := by
  refine fr_uniq (de_pos hb) (de_pos hb') (nd_gcd hb) (nd_gcd hb') ?_
  have h1 := nd_cross t b
  have h2 := nd_cross t' b'
  have hz : b * b' ≠ 0 := Int.mul_ne_zero hb hb'
  refine Int.eq_of_mul_eq_mul_right hz ?_
  grind
/-- what is in lowest terms stays -/
theorem fr_low {p q : Int} (hq : 0 < q) (h : Int.gcd p q = 1) : nu p q = p ∧ de p q = q := by
  have hb : q ≠ 0 := by omega
  exact fr_uniq (de_pos hb) hq (nd_gcd hb) h (nd_cross p q)
theorem fo_is {t b : Int} (hb : b ≠ 0) (hs : b.natAbs.log2 < 9000) (m : Mu) : m_fraction_of [.int t, .int b] m = .ok (frD t b) m := by
  rw [ap_fraction_of]
  unfold b_fraction_of
  have h3 : (0 + 1 + 1 : Nat) ≤ sizeLine := by rw [sizeLine_eq]; exact (by decide : 2 ≤ 16777216)
  have hd : part t b ≠ 0 ∧ (part t b).natAbs.log2 < 9000 := by
    refine ⟨part_ne hb, ?_⟩
    have : (part t b).natAbs ≤ b.natAbs := by
      have hx := abs_le_mul (x := part t b) (y := de t b) (by have := de_pos (t := t) hb; omega)
      rw [Int.mul_comm, de_mul] at hx
      exact hx
    have hp := part_ne (t := t) hb
    have h4 : (part t b).natAbs < 2 ^ 9000 := Nat.lt_of_le_of_lt this ((Nat.log2_lt (by omega)).mp hs)
    exact (Nat.log2_lt (by omega)).mpr h4
  have hp : part t b = if 0 < b then (Int.gcd t b : Int) else -(Int.gcd t b : Int) := rfl
  by_cases h0 : 0 < b
  · rw [if_pos h0] at hp
    rw [hp] at hd
    simp only [Res.bind_ok, Res.bind_err, Res.bind_bad, Res.thenS_ok, Res.thenS_err, Res.thenS_bad, SRes.bind_nx, SRes.bind_rt, SRes.bind_err, SRes.bind_bk, SRes.bind_ct, SRes.bind_bad, Res.safe_ok, ev_iVar, ev_getR, ev_iK, ev_iNil, ev_iCons, ev_op, ev_call, ev_callK, ev_iTest, ev_testR, ev_iTru, ev_truR, ev_truB, ev_truN, ev_truI, ev_iAnd, ev_iOr, ev_iNot, ev_iAndV, ev_iOrV, ev_iNotV, ev_iIf, ev_iNeg, ev_negR, ev_iTup, ev_iLst, ev_iLstO, ev_addI, ev_subI, ev_ltI, ev_leI, ev_gtI, ev_geI, ev_eq, ev_ne, ev_blR, eqD_int, eqD_pair, Option.map_some, ev_isB, ev_isNotB, ev_ixT, ev_ixL, ev_ixR, ev_ixR1, ev_gSub, ev_gsR, ev_gsR2, ev_sNil, ev_sSeq, ev_sAsg, ev_asgR, ev_gNm, ev_sExpr, ev_sRet, ev_sRetN, ev_sBreak, ev_sCont, ev_sIf, ev_sRaise, ev_sPar, ev_parR, ev_sPar3, ev_par3R, ev_whR, ev_whC, ev_whB, ev_whT, ev_clo1, ev_cloB, List.getElem?_cons_zero, List.getElem?_cons_succ, List.set_cons_zero, List.set_cons_succ, List.length_cons, List.length_nil, if_true, if_false, Bool.false_eq_true, Bool.not_true, Bool.not_false, hb, h0, decide_false, decide_true, cd_is, ev_divI _ _ _ hd, h3]
    rw [ev_cloO _ _ _ rfl rfl]
    unfold frD nu de
    rw [hp]
  · rw [if_neg h0] at hp
    rw [hp] at hd
    simp only [Res.bind_ok, Res.bind_err, Res.bind_bad, Res.thenS_ok, Res.thenS_err, Res.thenS_bad, SRes.bind_nx, SRes.bind_rt, SRes.bind_err, SRes.bind_bk, SRes.bind_ct, SRes.bind_bad, Res.safe_ok, ev_iVar, ev_getR, ev_iK, ev_iNil, ev_iCons, ev_op, ev_call, ev_callK, ev_iTest, ev_testR, ev_iTru, ev_truR, ev_truB, ev_truN, ev_truI, ev_iAnd, ev_iOr, ev_iNot, ev_iAndV, ev_iOrV, ev_iNotV, ev_iIf, ev_iNeg, ev_negR, ev_iTup, ev_iLst, ev_iLstO, ev_addI, ev_subI, ev_ltI, ev_leI, ev_gtI, ev_geI, ev_eq, ev_ne, ev_blR, eqD_int, eqD_pair, Option.map_some, ev_isB, ev_isNotB, ev_ixT, ev_ixL, ev_ixR, ev_ixR1, ev_gSub, ev_gsR, ev_gsR2, ev_sNil, ev_sSeq, ev_sAsg, ev_asgR, ev_gNm, ev_sExpr, ev_sRet, ev_sRetN, ev_sBreak, ev_sCont, ev_sIf, ev_sRaise, ev_sPar, ev_parR, ev_sPar3, ev_par3R, ev_whR, ev_whC, ev_whB, ev_whT, ev_clo1, ev_cloB, List.getElem?_cons_zero, List.getElem?_cons_succ, List.set_cons_zero, List.set_cons_succ, List.length_cons, List.length_nil, if_true, if_false, Bool.false_eq_true, Bool.not_true, Bool.not_false, hb, h0, decide_false, decide_true, cd_is, ev_divI _ _ _ hd, h3]
    rw [ev_cloO _ _ _ rfl rfl]
    unfold frD nu de
    rw [hp]
theorem fo_zero (t : Int) (m : Mu) : m_fraction_of [.int t, .int 0] m = .err "InvalidNumber" [("word", .str "bottom")] m := by
  rw [ap_fraction_of]
  unfold b_fraction_of
  simp only [Res.bind_ok, Res.bind_err, Res.bind_bad, Res.thenS_ok, Res.thenS_err, Res.thenS_bad, SRes.bind_nx, SRes.bind_rt, SRes.bind_err, SRes.bind_bk, SRes.bind_ct, SRes.bind_bad, Res.safe_ok, ev_iVar, ev_getR, ev_iK, ev_iNil, ev_iCons, ev_op, ev_call, ev_callK, ev_iTest, ev_testR, ev_iTru, ev_truR, ev_truB, ev_truN, ev_truI, ev_iAnd, ev_iOr, ev_iNot, ev_iAndV, ev_iOrV, ev_iNotV, ev_iIf, ev_iNeg, ev_negR, ev_iTup, ev_iLst, ev_iLstO, ev_addI, ev_subI, ev_ltI, ev_leI, ev_gtI, ev_geI, ev_eq, ev_ne, ev_blR, eqD_int, eqD_pair, Option.map_some, ev_isB, ev_isNotB, ev_ixT, ev_ixL, ev_ixR, ev_ixR1, ev_gSub, ev_gsR, ev_gsR2, ev_sNil, ev_sSeq, ev_sAsg, ev_asgR, ev_gNm, ev_sExpr, ev_sRet, ev_sRetN, ev_sBreak, ev_sCont, ev_sIf, ev_sRaise, ev_sPar, ev_parR, ev_sPar3, ev_par3R, ev_whR, ev_whC, ev_whB, ev_whT, ev_clo1, ev_cloB, List.getElem?_cons_zero, List.getElem?_cons_succ, List.set_cons_zero, List.set_cons_succ, List.length_cons, List.length_nil, if_true, if_false, Bool.false_eq_true, Bool.not_true, Bool.not_false, decide_true]
  rw [ev_cloE _ _ _ _ _ rfl rfl]
theorem at0 {A : Type} (xs : List A) : atI xs 0 = xs[0]? := atI_nn (Int.le_refl 0)
theorem at1 {A : Type} (xs : List A) : atI xs 1 = xs[1]? := atI_nn (by decide)
theorem at2 {A : Type} (xs : List A) : atI xs 2 = xs[2]? := atI_nn (by decide)
theorem log_ok {x y : Int} (hx : Bd 4000 x) (hy : Bd 4000 y) : (x * y).natAbs.log2 < 9000 := Nat.lt_of_le_of_lt (hx.mul hy).log (by decide)
abbrev pr (p q : Int) : D := .tup [.int p, .int q]
section
variable {p q r s : Int} (hp : Bd 4000 p) (hq : Bd 4000 q) (hr : Bd 4000 r) (hs : Bd 4000 s)
include hp hq hr hs
theorem plus_is (h1 : q ≠ 0) (h2 : s ≠ 0) (m : Mu) : m_plus [pr p q, pr r s] m = .ok (frD (p * s + r * q) (q * s)) m := by
  rw [ap_plus]
  unfold b_plus
  simp only [Res.bind_ok, Res.bind_err, Res.bind_bad, Res.thenS_ok, Res.thenS_err, Res.thenS_bad, SRes.bind_nx, SRes.bind_rt, SRes.bind_err, SRes.bind_bk, SRes.bind_ct, SRes.bind_bad, Res.safe_ok, ev_iVar, ev_getR, ev_iK, ev_iNil, ev_iCons, ev_op, ev_call, ev_callK, ev_iTest, ev_testR, ev_iTru, ev_truR, ev_truB, ev_truN, ev_truI, ev_iAnd, ev_iOr, ev_iNot, ev_iAndV, ev_iOrV, ev_iNotV, ev_iIf, ev_iNeg, ev_negR, ev_iTup, ev_iLst, ev_iLstO, ev_addI, ev_subI, ev_ltI, ev_leI, ev_gtI, ev_geI, ev_eq, ev_ne, ev_blR, eqD_int, eqD_pair, Option.map_some, ev_isB, ev_isNotB, ev_ixT, ev_ixL, ev_ixR, ev_ixR1, ev_gSub, ev_gsR, ev_gsR2, ev_sNil, ev_sSeq, ev_sAsg, ev_asgR, ev_gNm, ev_sExpr, ev_sRet, ev_sRetN, ev_sBreak, ev_sCont, ev_sIf, ev_sRaise, ev_sPar, ev_parR, ev_sPar3, ev_par3R, ev_whR, ev_whC, ev_whB, ev_whT, ev_clo1, ev_cloB, List.getElem?_cons_zero, List.getElem?_cons_succ, List.set_cons_zero, List.set_cons_succ, List.length_cons, List.length_nil, if_true, if_false, Bool.false_eq_true, Bool.not_true, Bool.not_false, at0, at1, ev_mulI _ _ _ (hp.c hs (by decide)), ev_mulI _ _ _ (hr.c hq (by decide)), ev_mulI _ _ _ (hq.c hs (by decide)), fo_is (Int.mul_ne_zero h1 h2) (log_ok hq hs)]
  rw [ev_cloO _ _ _ rfl rfl]
theorem minus_is (h1 : q ≠ 0) (h2 : s ≠ 0) (m : Mu) : m_minus [pr p q, pr r s] m = .ok (frD (p * s - r * q) (q * s)) m := by
  rw [ap_minus]
  unfold b_minus
  simp only [Res.bind_ok, Res.bind_err, Res.bind_bad, Res.thenS_ok, Res.thenS_err, Res.thenS_bad, SRes.bind_nx, SRes.bind_rt, SRes.bind_err, SRes.bind_bk, SRes.bind_ct, SRes.bind_bad, Res.safe_ok, ev_iVar, ev_getR, ev_iK, ev_iNil, ev_iCons, ev_op, ev_call, ev_callK, ev_iTest, ev_testR, ev_iTru, ev_truR, ev_truB, ev_truN, ev_truI, ev_iAnd, ev_iOr, ev_iNot, ev_iAndV, ev_iOrV, ev_iNotV, ev_iIf, ev_iNeg, ev_negR, ev_iTup, ev_iLst, ev_iLstO, ev_addI, ev_subI, ev_ltI, ev_leI, ev_gtI, ev_geI, ev_eq, ev_ne, ev_blR, eqD_int, eqD_pair, Option.map_some, ev_isB, ev_isNotB, ev_ixT, ev_ixL, ev_ixR, ev_ixR1, ev_gSub, ev_gsR, ev_gsR2, ev_sNil, ev_sSeq, ev_sAsg, ev_asgR, ev_gNm, ev_sExpr, ev_sRet, ev_sRetN, ev_sBreak, ev_sCont, ev_sIf, ev_sRaise, ev_sPar, ev_parR, ev_sPar3, ev_par3R, ev_whR, ev_whC, ev_whB, ev_whT, ev_clo1, ev_cloB, List.getElem?_cons_zero, List.getElem?_cons_succ, List.set_cons_zero, List.set_cons_succ, List.length_cons, List.length_nil, if_true, if_false, Bool.false_eq_true, Bool.not_true, Bool.not_false, at0, at1, ev_mulI _ _ _ (hp.c hs (by decide)), ev_mulI _ _ _ (hr.c hq (by decide)), ev_mulI _ _ _ (hq.c hs (by decide)), fo_is (Int.mul_ne_zero h1 h2) (log_ok hq hs)]
  rw [ev_cloO _ _ _ rfl rfl]
theorem times_is (h1 : q ≠ 0) (h2 : s ≠ 0) (m : Mu) : m_times [pr p q, pr r s] m = .ok (frD (p * r) (q * s)) m := by
  rw [ap_times]
  unfold b_times
  simp only [Res.bind_ok, Res.bind_err, Res.bind_bad, Res.thenS_ok, Res.thenS_err, Res.thenS_bad, SRes.bind_nx, SRes.bind_rt, SRes.bind_err, SRes.bind_bk, SRes.bind_ct, SRes.bind_bad, Res.safe_ok, ev_iVar, ev_getR, ev_iK, ev_iNil, ev_iCons, ev_op, ev_call, ev_callK, ev_iTest, ev_testR, ev_iTru, ev_truR, ev_truB, ev_truN, ev_truI, ev_iAnd, ev_iOr, ev_iNot, ev_iAndV, ev_iOrV, ev_iNotV, ev_iIf, ev_iNeg, ev_negR, ev_iTup, ev_iLst, ev_iLstO, ev_addI, ev_subI, ev_ltI, ev_leI, ev_gtI, ev_geI, ev_eq, ev_ne, ev_blR, eqD_int, eqD_pair, Option.map_some, ev_isB, ev_isNotB, ev_ixT, ev_ixL, ev_ixR, ev_ixR1, ev_gSub, ev_gsR, ev_gsR2, ev_sNil, ev_sSeq, ev_sAsg, ev_asgR, ev_gNm, ev_sExpr, ev_sRet, ev_sRetN, ev_sBreak, ev_sCont, ev_sIf, ev_sRaise, ev_sPar, ev_parR, ev_sPar3, ev_par3R, ev_whR, ev_whC, ev_whB, ev_whT, ev_clo1, ev_cloB, List.getElem?_cons_zero, List.getElem?_cons_succ, List.set_cons_zero, List.set_cons_succ, List.length_cons, List.length_nil, if_true, if_false, Bool.false_eq_true, Bool.not_true, Bool.not_false, at0, at1, ev_mulI _ _ _ (hp.c hr (by decide)), ev_mulI _ _ _ (hq.c hs (by decide)), fo_is (Int.mul_ne_zero h1 h2) (log_ok hq hs)]
  rw [ev_cloO _ _ _ rfl rfl]
theorem ratio_is (h1 : q ≠ 0) (h2 : r ≠ 0) (m : Mu) : m_ratio [pr p q, pr r s] m = .ok (frD (p * s) (q * r)) m := by
  rw [ap_ratio]
  unfold b_ratio
  simp only [Res.bind_ok, Res.bind_err, Res.bind_bad, Res.thenS_ok, Res.thenS_err, Res.thenS_bad, SRes.bind_nx, SRes.bind_rt, SRes.bind_err, SRes.bind_bk, SRes.bind_ct, SRes.bind_bad, Res.safe_ok, ev_iVar, ev_getR, ev_iK, ev_iNil, ev_iCons, ev_op, ev_call, ev_callK, ev_iTest, ev_testR, ev_iTru, ev_truR, ev_truB, ev_truN, ev_truI, ev_iAnd, ev_iOr, ev_iNot, ev_iAndV, ev_iOrV, ev_iNotV, ev_iIf, ev_iNeg, ev_negR, ev_iTup, ev_iLst, ev_iLstO, ev_addI, ev_subI, ev_ltI, ev_leI, ev_gtI, ev_geI, ev_eq, ev_ne, ev_blR, eqD_int, eqD_pair, Option.map_some, ev_isB, ev_isNotB, ev_ixT, ev_ixL, ev_ixR, ev_ixR1, ev_gSub, ev_gsR, ev_gsR2, ev_sNil, ev_sSeq, ev_sAsg, ev_asgR, ev_gNm, ev_sExpr, ev_sRet, ev_sRetN, ev_sBreak, ev_sCont, ev_sIf, ev_sRaise, ev_sPar, ev_parR, ev_sPar3, ev_par3R, ev_whR, ev_whC, ev_whB, ev_whT, ev_clo1, ev_cloB, List.getElem?_cons_zero, List.getElem?_cons_succ, List.set_cons_zero, List.set_cons_succ, List.length_cons, List.length_nil, if_true, if_false, Bool.false_eq_true, Bool.not_true, Bool.not_false, at0, at1, ev_mulI _ _ _ (hp.c hs (by decide)), ev_mulI _ _ _ (hq.c hr (by decide)), fo_is (Int.mul_ne_zero h1 h2) (log_ok hq hr)]
  rw [ev_cloO _ _ _ rfl rfl]
theorem less_is (m : Mu) : m_less [pr p q, pr r s] m = .ok (.bl (decide (p * s < r * q))) m := by
  rw [ap_less]
  unfold b_less
  simp only [Res.bind_ok, Res.bind_err, Res.bind_bad, Res.thenS_ok, Res.thenS_err, Res.thenS_bad, SRes.bind_nx, SRes.bind_rt, SRes.bind_err, SRes.bind_bk, SRes.bind_ct, SRes.bind_bad, Res.safe_ok, ev_iVar, ev_getR, ev_iK, ev_iNil, ev_iCons, ev_op, ev_call, ev_callK, ev_iTest, ev_testR, ev_iTru, ev_truR, ev_truB, ev_truN, ev_truI, ev_iAnd, ev_iOr, ev_iNot, ev_iAndV, ev_iOrV, ev_iNotV, ev_iIf, ev_iNeg, ev_negR, ev_iTup, ev_iLst, ev_iLstO, ev_addI, ev_subI, ev_ltI, ev_leI, ev_gtI, ev_geI, ev_eq, ev_ne, ev_blR, eqD_int, eqD_pair, Option.map_some, ev_isB, ev_isNotB, ev_ixT, ev_ixL, ev_ixR, ev_ixR1, ev_gSub, ev_gsR, ev_gsR2, ev_sNil, ev_sSeq, ev_sAsg, ev_asgR, ev_gNm, ev_sExpr, ev_sRet, ev_sRetN, ev_sBreak, ev_sCont, ev_sIf, ev_sRaise, ev_sPar, ev_parR, ev_sPar3, ev_par3R, ev_whR, ev_whC, ev_whB, ev_whT, ev_clo1, ev_cloB, List.getElem?_cons_zero, List.getElem?_cons_succ, List.set_cons_zero, List.set_cons_succ, List.length_cons, List.length_nil, if_true, if_false, Bool.false_eq_true, Bool.not_true, Bool.not_false, at0, at1, ev_mulI _ _ _ (hp.c hs (by decide)), ev_mulI _ _ _ (hr.c hq (by decide))]
end
/-! ### what is a fraction -/
def isI : D → Bool
  | .int _ => true
  | _ => false
def frB : D → Bool
  | .tup [.int p, .int q] => decide (0 < q) && decide (Int.gcd p q = 1)
  | _ => false
/-- a value whose kind is known -/
def plainD : D → Bool
  | .tup ds => ds.all fun d => (tyName d).isSome
  | d => (tyName d).isSome
theorem isi_of {d : D} {t c : String} {b : Bool} {m : Mu} (ht : tyName d = some t) (hk : kitB t c = some b) : pIsi [d, .ty c] m = .ok (.bl b) m := by
  unfold pIsi
  simp only [ht, Option.bind_some, hk]
theorem is_int {d : D} (h : (tyName d).isSome = true) (m : Mu) : m_is_integer [d] m = .ok (.bl (isI d)) m := by
  rw [ap_is_integer]
  unfold b_is_integer
  cases d with
  | int i => simp only [Res.bind_ok, Res.bind_err, Res.bind_bad, Res.thenS_ok, Res.thenS_err, Res.thenS_bad, SRes.bind_nx, SRes.bind_rt, SRes.bind_err, SRes.bind_bk, SRes.bind_ct, SRes.bind_bad, Res.safe_ok, ev_iVar, ev_getR, ev_iK, ev_iNil, ev_iCons, ev_op, ev_call, ev_callK, ev_iTest, ev_testR, ev_iTru, ev_truR, ev_truB, ev_truN, ev_truI, ev_iAnd, ev_iOr, ev_iNot, ev_iAndV, ev_iOrV, ev_iNotV, ev_iIf, ev_iNeg, ev_negR, ev_iTup, ev_iLst, ev_iLstO, ev_addI, ev_subI, ev_ltI, ev_leI, ev_gtI, ev_geI, ev_eq, ev_ne, ev_blR, eqD_int, eqD_pair, Option.map_some, ev_isB, ev_isNotB, ev_ixT, ev_ixL, ev_ixR, ev_ixR1, ev_gSub, ev_gsR, ev_gsR2, ev_sNil, ev_sSeq, ev_sAsg, ev_asgR, ev_gNm, ev_sExpr, ev_sRet, ev_sRetN, ev_sBreak, ev_sCont, ev_sIf, ev_sRaise, ev_sPar, ev_parR, ev_sPar3, ev_par3R, ev_whR, ev_whC, ev_whB, ev_whT, ev_clo1, ev_cloB, List.getElem?_cons_zero, List.getElem?_cons_succ, List.set_cons_zero, List.set_cons_succ, List.length_cons, List.length_nil, if_true, if_false, Bool.false_eq_true, Bool.not_true, Bool.not_false, isi_of (d := .int i) (c := "int") rfl (by decide +kernel : kitB "int" "int" = some true), isi_of (d := .int i) (c := "bool") rfl (by decide +kernel : kitB "int" "bool" = some false)]; rfl
  | bl i => simp only [Res.bind_ok, Res.bind_err, Res.bind_bad, Res.thenS_ok, Res.thenS_err, Res.thenS_bad, SRes.bind_nx, SRes.bind_rt, SRes.bind_err, SRes.bind_bk, SRes.bind_ct, SRes.bind_bad, Res.safe_ok, ev_iVar, ev_getR, ev_iK, ev_iNil, ev_iCons, ev_op, ev_call, ev_callK, ev_iTest, ev_testR, ev_iTru, ev_truR, ev_truB, ev_truN, ev_truI, ev_iAnd, ev_iOr, ev_iNot, ev_iAndV, ev_iOrV, ev_iNotV, ev_iIf, ev_iNeg, ev_negR, ev_iTup, ev_iLst, ev_iLstO, ev_addI, ev_subI, ev_ltI, ev_leI, ev_gtI, ev_geI, ev_eq, ev_ne, ev_blR, eqD_int, eqD_pair, Option.map_some, ev_isB, ev_isNotB, ev_ixT, ev_ixL, ev_ixR, ev_ixR1, ev_gSub, ev_gsR, ev_gsR2, ev_sNil, ev_sSeq, ev_sAsg, ev_asgR, ev_gNm, ev_sExpr, ev_sRet, ev_sRetN, ev_sBreak, ev_sCont, ev_sIf, ev_sRaise, ev_sPar, ev_parR, ev_sPar3, ev_par3R, ev_whR, ev_whC, ev_whB, ev_whT, ev_clo1, ev_cloB, List.getElem?_cons_zero, List.getElem?_cons_succ, List.set_cons_zero, List.set_cons_succ, List.length_cons, List.length_nil, if_true, if_false, Bool.false_eq_true, Bool.not_true, Bool.not_false, isi_of (d := .bl i) (c := "int") rfl (by decide +kernel : kitB "bool" "int" = some true), isi_of (d := .bl i) (c := "bool") rfl (by decide +kernel : kitB "bool" "bool" = some true)]; rfl
  | non => simp only [Res.bind_ok, Res.bind_err, Res.bind_bad, Res.thenS_ok, Res.thenS_err, Res.thenS_bad, SRes.bind_nx, SRes.bind_rt, SRes.bind_err, SRes.bind_bk, SRes.bind_ct, SRes.bind_bad, Res.safe_ok, ev_iVar, ev_getR, ev_iK, ev_iNil, ev_iCons, ev_op, ev_call, ev_callK, ev_iTest, ev_testR, ev_iTru, ev_truR, ev_truB, ev_truN, ev_truI, ev_iAnd, ev_iOr, ev_iNot, ev_iAndV, ev_iOrV, ev_iNotV, ev_iIf, ev_iNeg, ev_negR, ev_iTup, ev_iLst, ev_iLstO, ev_addI, ev_subI, ev_ltI, ev_leI, ev_gtI, ev_geI, ev_eq, ev_ne, ev_blR, eqD_int, eqD_pair, Option.map_some, ev_isB, ev_isNotB, ev_ixT, ev_ixL, ev_ixR, ev_ixR1, ev_gSub, ev_gsR, ev_gsR2, ev_sNil, ev_sSeq, ev_sAsg, ev_asgR, ev_gNm, ev_sExpr, ev_sRet, ev_sRetN, ev_sBreak, ev_sCont, ev_sIf, ev_sRaise, ev_sPar, ev_parR, ev_sPar3, ev_par3R, ev_whR, ev_whC, ev_whB, ev_whT, ev_clo1, ev_cloB, List.getElem?_cons_zero, List.getElem?_cons_succ, List.set_cons_zero, List.set_cons_succ, List.length_cons, List.length_nil, if_true, if_false, Bool.false_eq_true, Bool.not_true, Bool.not_false, isi_of (d := .non) (c := "int") rfl (by decide +kernel : kitB "NoneType" "int" = some false)]; rfl
  | str i => simp only [Res.bind_ok, Res.bind_err, Res.bind_bad, Res.thenS_ok, Res.thenS_err, Res.thenS_bad, SRes.bind_nx, SRes.bind_rt, SRes.bind_err, SRes.bind_bk, SRes.bind_ct, SRes.bind_bad, Res.safe_ok, ev_iVar, ev_getR, ev_iK, ev_iNil, ev_iCons, ev_op, ev_call, ev_callK, ev_iTest, ev_testR, ev_iTru, ev_truR, ev_truB, ev_truN, ev_truI, ev_iAnd, ev_iOr, ev_iNot, ev_iAndV, ev_iOrV, ev_iNotV, ev_iIf, ev_iNeg, ev_negR, ev_iTup, ev_iLst, ev_iLstO, ev_addI, ev_subI, ev_ltI, ev_leI, ev_gtI, ev_geI, ev_eq, ev_ne, ev_blR, eqD_int, eqD_pair, Option.map_some, ev_isB, ev_isNotB, ev_ixT, ev_ixL, ev_ixR, ev_ixR1, ev_gSub, ev_gsR, ev_gsR2, ev_sNil, ev_sSeq, ev_sAsg, ev_asgR, ev_gNm, ev_sExpr, ev_sRet, ev_sRetN, ev_sBreak, ev_sCont, ev_sIf, ev_sRaise, ev_sPar, ev_parR, ev_sPar3, ev_par3R, ev_whR, ev_whC, ev_whB, ev_whT, ev_clo1, ev_cloB, List.getElem?_cons_zero, List.getElem?_cons_succ, List.set_cons_zero, List.set_cons_succ, List.length_cons, List.length_nil, if_true, if_false, Bool.false_eq_true, Bool.not_true, Bool.not_false, isi_of (d := .str i) (c := "int") rfl (by decide +kernel : kitB "str" "int" = some false)]; rfl
  | tup i => simp only [Res.bind_ok, Res.bind_err, Res.bind_bad, Res.thenS_ok, Res.thenS_err, Res.thenS_bad, SRes.bind_nx, SRes.bind_rt, SRes.bind_err, SRes.bind_bk, SRes.bind_ct, SRes.bind_bad, Res.safe_ok, ev_iVar, ev_getR, ev_iK, ev_iNil, ev_iCons, ev_op, ev_call, ev_callK, ev_iTest, ev_testR, ev_iTru, ev_truR, ev_truB, ev_truN, ev_truI, ev_iAnd, ev_iOr, ev_iNot, ev_iAndV, ev_iOrV, ev_iNotV, ev_iIf, ev_iNeg, ev_negR, ev_iTup, ev_iLst, ev_iLstO, ev_addI, ev_subI, ev_ltI, ev_leI, ev_gtI, ev_geI, ev_eq, ev_ne, ev_blR, eqD_int, eqD_pair, Option.map_some, ev_isB, ev_isNotB, ev_ixT, ev_ixL, ev_ixR, ev_ixR1, ev_gSub, ev_gsR, ev_gsR2, ev_sNil, ev_sSeq, ev_sAsg, ev_asgR, ev_gNm, ev_sExpr, ev_sRet, ev_sRetN, ev_sBreak, ev_sCont, ev_sIf, ev_sRaise, ev_sPar, ev_parR, ev_sPar3, ev_par3R, ev_whR, ev_whC, ev_whB, ev_whT, ev_clo1, ev_cloB, List.getElem?_cons_zero, List.getElem?_cons_succ, List.set_cons_zero, List.set_cons_succ, List.length_cons, List.length_nil, if_true, if_false, Bool.false_eq_true, Bool.not_true, Bool.not_false, isi_of (d := .tup i) (c := "int") rfl (by decide +kernel : kitB "tuple" "int" = some false)]; rfl
  | lst i => simp only [Res.bind_ok, Res.bind_err, Res.bind_bad, Res.thenS_ok, Res.thenS_err, Res.thenS_bad, SRes.bind_nx, SRes.bind_rt, SRes.bind_err, SRes.bind_bk, SRes.bind_ct, SRes.bind_bad, Res.safe_ok, ev_iVar, ev_getR, ev_iK, ev_iNil, ev_iCons, ev_op, ev_call, ev_callK, ev_iTest, ev_testR, ev_iTru, ev_truR, ev_truB, ev_truN, ev_truI, ev_iAnd, ev_iOr, ev_iNot, ev_iAndV, ev_iOrV, ev_iNotV, ev_iIf, ev_iNeg, ev_negR, ev_iTup, ev_iLst, ev_iLstO, ev_addI, ev_subI, ev_ltI, ev_leI, ev_gtI, ev_geI, ev_eq, ev_ne, ev_blR, eqD_int, eqD_pair, Option.map_some, ev_isB, ev_isNotB, ev_ixT, ev_ixL, ev_ixR, ev_ixR1, ev_gSub, ev_gsR, ev_gsR2, ev_sNil, ev_sSeq, ev_sAsg, ev_asgR, ev_gNm, ev_sExpr, ev_sRet, ev_sRetN, ev_sBreak, ev_sCont, ev_sIf, ev_sRaise, ev_sPar, ev_parR, ev_sPar3, ev_par3R, ev_whR, ev_whC, ev_whB, ev_whT, ev_clo1, ev_cloB, List.getElem?_cons_zero, List.getElem?_cons_succ, List.set_cons_zero, List.set_cons_succ, List.length_cons, List.length_nil, if_true, if_false, Bool.false_eq_true, Bool.not_true, Bool.not_false, isi_of (d := .lst i) (c := "int") rfl (by decide +kernel : kitB "list" "int" = some false)]; rfl
  | rol i => simp only [Res.bind_ok, Res.bind_err, Res.bind_bad, Res.thenS_ok, Res.thenS_err, Res.thenS_bad, SRes.bind_nx, SRes.bind_rt, SRes.bind_err, SRes.bind_bk, SRes.bind_ct, SRes.bind_bad, Res.safe_ok, ev_iVar, ev_getR, ev_iK, ev_iNil, ev_iCons, ev_op, ev_call, ev_callK, ev_iTest, ev_testR, ev_iTru, ev_truR, ev_truB, ev_truN, ev_truI, ev_iAnd, ev_iOr, ev_iNot, ev_iAndV, ev_iOrV, ev_iNotV, ev_iIf, ev_iNeg, ev_negR, ev_iTup, ev_iLst, ev_iLstO, ev_addI, ev_subI, ev_ltI, ev_leI, ev_gtI, ev_geI, ev_eq, ev_ne, ev_blR, eqD_int, eqD_pair, Option.map_some, ev_isB, ev_isNotB, ev_ixT, ev_ixL, ev_ixR, ev_ixR1, ev_gSub, ev_gsR, ev_gsR2, ev_sNil, ev_sSeq, ev_sAsg, ev_asgR, ev_gNm, ev_sExpr, ev_sRet, ev_sRetN, ev_sBreak, ev_sCont, ev_sIf, ev_sRaise, ev_sPar, ev_parR, ev_sPar3, ev_par3R, ev_whR, ev_whC, ev_whB, ev_whT, ev_clo1, ev_cloB, List.getElem?_cons_zero, List.getElem?_cons_succ, List.set_cons_zero, List.set_cons_succ, List.length_cons, List.length_nil, if_true, if_false, Bool.false_eq_true, Bool.not_true, Bool.not_false, isi_of (d := .rol i) (c := "int") rfl (by decide +kernel : kitB "list" "int" = some false)]; rfl
  | loc i => simp only [Res.bind_ok, Res.bind_err, Res.bind_bad, Res.thenS_ok, Res.thenS_err, Res.thenS_bad, SRes.bind_nx, SRes.bind_rt, SRes.bind_err, SRes.bind_bk, SRes.bind_ct, SRes.bind_bad, Res.safe_ok, ev_iVar, ev_getR, ev_iK, ev_iNil, ev_iCons, ev_op, ev_call, ev_callK, ev_iTest, ev_testR, ev_iTru, ev_truR, ev_truB, ev_truN, ev_truI, ev_iAnd, ev_iOr, ev_iNot, ev_iAndV, ev_iOrV, ev_iNotV, ev_iIf, ev_iNeg, ev_negR, ev_iTup, ev_iLst, ev_iLstO, ev_addI, ev_subI, ev_ltI, ev_leI, ev_gtI, ev_geI, ev_eq, ev_ne, ev_blR, eqD_int, eqD_pair, Option.map_some, ev_isB, ev_isNotB, ev_ixT, ev_ixL, ev_ixR, ev_ixR1, ev_gSub, ev_gsR, ev_gsR2, ev_sNil, ev_sSeq, ev_sAsg, ev_asgR, ev_gNm, ev_sExpr, ev_sRet, ev_sRetN, ev_sBreak, ev_sCont, ev_sIf, ev_sRaise, ev_sPar, ev_parR, ev_sPar3, ev_par3R, ev_whR, ev_whC, ev_whB, ev_whT, ev_clo1, ev_cloB, List.getElem?_cons_zero, List.getElem?_cons_succ, List.set_cons_zero, List.set_cons_succ, List.length_cons, List.length_nil, if_true, if_false, Bool.false_eq_true, Bool.not_true, Bool.not_false, isi_of (d := .loc i) (c := "int") rfl (by decide +kernel : kitB "list" "int" = some false)]; rfl
  | dct i => simp only [Res.bind_ok, Res.bind_err, Res.bind_bad, Res.thenS_ok, Res.thenS_err, Res.thenS_bad, SRes.bind_nx, SRes.bind_rt, SRes.bind_err, SRes.bind_bk, SRes.bind_ct, SRes.bind_bad, Res.safe_ok, ev_iVar, ev_getR, ev_iK, ev_iNil, ev_iCons, ev_op, ev_call, ev_callK, ev_iTest, ev_testR, ev_iTru, ev_truR, ev_truB, ev_truN, ev_truI, ev_iAnd, ev_iOr, ev_iNot, ev_iAndV, ev_iOrV, ev_iNotV, ev_iIf, ev_iNeg, ev_negR, ev_iTup, ev_iLst, ev_iLstO, ev_addI, ev_subI, ev_ltI, ev_leI, ev_gtI, ev_geI, ev_eq, ev_ne, ev_blR, eqD_int, eqD_pair, Option.map_some, ev_isB, ev_isNotB, ev_ixT, ev_ixL, ev_ixR, ev_ixR1, ev_gSub, ev_gsR, ev_gsR2, ev_sNil, ev_sSeq, ev_sAsg, ev_asgR, ev_gNm, ev_sExpr, ev_sRet, ev_sRetN, ev_sBreak, ev_sCont, ev_sIf, ev_sRaise, ev_sPar, ev_parR, ev_sPar3, ev_par3R, ev_whR, ev_whC, ev_whB, ev_whT, ev_clo1, ev_cloB, List.getElem?_cons_zero, List.getElem?_cons_succ, List.set_cons_zero, List.set_cons_succ, List.length_cons, List.length_nil, if_true, if_false, Bool.false_eq_true, Bool.not_true, Bool.not_false, isi_of (d := .dct i) (c := "int") rfl (by decide +kernel : kitB "dict" "int" = some false)]; rfl
  | ty n => simp [tyName] at h
  | ins c fs => simp [tyName] at h
theorem ev_lenT (ds : List D) (m : Mu) : pLen [.tup ds] m = .ok (.int (ds.length : Int)) m := rfl
theorem all_is (ds : List D) (f : D → Bool) (m : Mu) : pAll [.lst (ds.map fun d => .bl (f d))] m = .ok (.bl (ds.all f)) m := by
  have h : ∀ l : List D, blsOf (l.map fun d => .bl (f d)) = some (l.map f) := by
    intro l
    induction l with
    | nil => rfl
    | cons d l ih =>
      show (blsOf (l.map fun d => .bl (f d))).map _ = _
      rw [ih]
      rfl
  show (match (viewQ m (.lst (ds.map fun d => .bl (f d)))).bind blsOf with | some bs => Res.ok (D.bl (bs.all id)) m | none => .bad) = _
  show (match blsOf (ds.map fun d => .bl (f d)) with | some bs => Res.ok (D.bl (bs.all id)) m | none => .bad) = _
  rw [h]
  simp
theorem sz (n : Nat) (h : n ≤ 1000 := by decide) : n ≤ sizeLine := by rw [sizeLine_eq]; exact Nat.le_trans h (by decide)
theorem tup_split (ds : List D) : ds.length ≠ 2 ∨ ∃ a b, ds = [a, b] := by
  match ds with
  | [] => exact .inl (by decide)
  | [_] => exact .inl (by simp)
  | [a, b] => exact .inr ⟨a, b, rfl⟩
  | _ :: _ :: _ :: l => exact .inl (by simp)
theorem frB_len {ds : List D} (h : ds.length ≠ 2) : frB (.tup ds) = false := by
  unfold frB
  split
  · rename_i e
    cases e
    exact (h rfl).elim
  · rfl
theorem frB_not {a b : D} (h : ([a, b].all isI) = false) : frB (.tup [a, b]) = false := by
  unfold frB
  split
  · rename_i e
    cases e
    simp [isI] at h
  · rfl
theorem all_int {a b : D} (h : ([a, b].all isI) = true) : ∃ p q, a = .int p ∧ b = .int q := by
  simp only [List.all_cons, List.all_nil, Bool.and_true, Bool.and_eq_true] at h
  cases a with
  | int p =>
    cases b with
    | int q => exact ⟨p, q, rfl, rfl⟩
    | _ => simp [isI] at h
  | _ => simp [isI] at h
theorem ev_it1 (ds : List D) (r : Rho) (m : Mu) (k : Nat) (h : r[k]? = some (some (.tup ds))) : iItA (iVar k) r m = .ok (ds, none) m := by
  unfold iItA iVar
  simp only [h]
  rfl
theorem fr_end (p q : Int) (m : Mu) : (Res.ok (D.bl (decide ((0 : Int) < q))) m : Res D) = .ok (.bl (decide (0 < q))) m := rfl
theorem isf_tup {ds : List D} (h : (ds.all fun d => (tyName d).isSome) = true) (m : Mu) : m_is_fraction [.tup ds] m = .ok (.bl (frB (.tup ds))) m := by
  rw [ap_is_fraction]
  unfold b_is_fraction
  have h1 := fun m => isi_of (d := .tup ds) (c := "tuple") (m := m) rfl (by decide +kernel : kitB "tuple" "tuple" = some true)
  rcases tup_split ds with hl | ⟨a, b, rfl⟩
  · have h2 : ¬ ((ds.length : Int) = 2) := by omega
    simp only [Res.bind_ok, Res.bind_err, Res.bind_bad, Res.thenS_ok, Res.thenS_err, Res.thenS_bad, SRes.bind_nx, SRes.bind_rt, SRes.bind_err, SRes.bind_bk, SRes.bind_ct, SRes.bind_bad, Res.safe_ok, ev_iVar, ev_getR, ev_iK, ev_iNil, ev_iCons, ev_op, ev_call, ev_callK, ev_iTest, ev_testR, ev_iTru, ev_truR, ev_truB, ev_truN, ev_truI, ev_iAnd, ev_iOr, ev_iNot, ev_iAndV, ev_iOrV, ev_iNotV, ev_iIf, ev_iNeg, ev_negR, ev_iTup, ev_iLst, ev_iLstO, ev_addI, ev_subI, ev_ltI, ev_leI, ev_gtI, ev_geI, ev_eq, ev_ne, ev_blR, eqD_int, eqD_pair, Option.map_some, ev_isB, ev_isNotB, ev_ixT, ev_ixL, ev_ixR, ev_ixR1, ev_gSub, ev_gsR, ev_gsR2, ev_sNil, ev_sSeq, ev_sAsg, ev_asgR, ev_gNm, ev_sExpr, ev_sRet, ev_sRetN, ev_sBreak, ev_sCont, ev_sIf, ev_sRaise, ev_sPar, ev_parR, ev_sPar3, ev_par3R, ev_whR, ev_whC, ev_whB, ev_whT, ev_clo1, ev_cloB, List.getElem?_cons_zero, List.getElem?_cons_succ, List.set_cons_zero, List.set_cons_succ, List.length_cons, List.length_nil, if_true, if_false, Bool.false_eq_true, Bool.not_true, Bool.not_false, h1, ev_lenT, h2, decide_false]
    rw [frB_len hl]
  · have hlc : ∀ m, iLc (iItA (iVar 0)) [1] (gNm 1) tYesM (iCall m_is_integer (iCons (iVar 1) iNil)) [some (.tup [a, b]), none] m = .ok (.lst ([a, b].map fun d => .bl (isI d))) m := fun m =>
      lc_pure (fun d => .bl (isI d)) (ev_it1 _ _ _ _ rfl) (show [a, b].length ≤ sizeLine from sz 2) (fun d hd m' => by
        show iCall m_is_integer (iCons (iVar 1) iNil) [some (.tup [a, b]), some d] m' = _
        simp only [Res.bind_ok, Res.bind_err, Res.bind_bad, Res.thenS_ok, Res.thenS_err, Res.thenS_bad, SRes.bind_nx, SRes.bind_rt, SRes.bind_err, SRes.bind_bk, SRes.bind_ct, SRes.bind_bad, Res.safe_ok, ev_iVar, ev_getR, ev_iK, ev_iNil, ev_iCons, ev_op, ev_call, ev_callK, ev_iTest, ev_testR, ev_iTru, ev_truR, ev_truB, ev_truN, ev_truI, ev_iAnd, ev_iOr, ev_iNot, ev_iAndV, ev_iOrV, ev_iNotV, ev_iIf, ev_iNeg, ev_negR, ev_iTup, ev_iLst, ev_iLstO, ev_addI, ev_subI, ev_ltI, ev_leI, ev_gtI, ev_geI, ev_eq, ev_ne, ev_blR, eqD_int, eqD_pair, Option.map_some, ev_isB, ev_isNotB, ev_ixT, ev_ixL, ev_ixR, ev_ixR1, ev_gSub, ev_gsR, ev_gsR2, ev_sNil, ev_sSeq, ev_sAsg, ev_asgR, ev_gNm, ev_sExpr, ev_sRet, ev_sRetN, ev_sBreak, ev_sCont, ev_sIf, ev_sRaise, ev_sPar, ev_parR, ev_sPar3, ev_par3R, ev_whR, ev_whC, ev_whB, ev_whT, ev_clo1, ev_cloB, List.getElem?_cons_zero, List.getElem?_cons_succ, List.set_cons_zero, List.set_cons_succ, List.length_cons, List.length_nil, if_true, if_false, Bool.false_eq_true, Bool.not_true, Bool.not_false]
        exact is_int (List.all_eq_true.mp h d hd) m') fun _ _ => rfl
    have h2 : (((0 + 1 + 1 : Nat) : Int) = 2) := rfl
    cases hb : ([a, b].all isI) with
    | false =>
      simp only [Res.bind_ok, Res.bind_err, Res.bind_bad, Res.thenS_ok, Res.thenS_err, Res.thenS_bad, SRes.bind_nx, SRes.bind_rt, SRes.bind_err, SRes.bind_bk, SRes.bind_ct, SRes.bind_bad, Res.safe_ok, ev_iVar, ev_getR, ev_iK, ev_iNil, ev_iCons, ev_op, ev_call, ev_callK, ev_iTest, ev_testR, ev_iTru, ev_truR, ev_truB, ev_truN, ev_truI, ev_iAnd, ev_iOr, ev_iNot, ev_iAndV, ev_iOrV, ev_iNotV, ev_iIf, ev_iNeg, ev_negR, ev_iTup, ev_iLst, ev_iLstO, ev_addI, ev_subI, ev_ltI, ev_leI, ev_gtI, ev_geI, ev_eq, ev_ne, ev_blR, eqD_int, eqD_pair, Option.map_some, ev_isB, ev_isNotB, ev_ixT, ev_ixL, ev_ixR, ev_ixR1, ev_gSub, ev_gsR, ev_gsR2, ev_sNil, ev_sSeq, ev_sAsg, ev_asgR, ev_gNm, ev_sExpr, ev_sRet, ev_sRetN, ev_sBreak, ev_sCont, ev_sIf, ev_sRaise, ev_sPar, ev_parR, ev_sPar3, ev_par3R, ev_whR, ev_whC, ev_whB, ev_whT, ev_clo1, ev_cloB, List.getElem?_cons_zero, List.getElem?_cons_succ, List.set_cons_zero, List.set_cons_succ, List.length_cons, List.length_nil, if_true, if_false, Bool.false_eq_true, Bool.not_true, Bool.not_false, h1, ev_lenT, h2, hlc, all_is, hb, decide_true]
      rw [frB_not hb]
    | true =>
      obtain ⟨p, q, rfl, rfl⟩ := all_int hb
      simp only [Res.bind_ok, Res.bind_err, Res.bind_bad, Res.thenS_ok, Res.thenS_err, Res.thenS_bad, SRes.bind_nx, SRes.bind_rt, SRes.bind_err, SRes.bind_bk, SRes.bind_ct, SRes.bind_bad, Res.safe_ok, ev_iVar, ev_getR, ev_iK, ev_iNil, ev_iCons, ev_op, ev_call, ev_callK, ev_iTest, ev_testR, ev_iTru, ev_truR, ev_truB, ev_truN, ev_truI, ev_iAnd, ev_iOr, ev_iNot, ev_iAndV, ev_iOrV, ev_iNotV, ev_iIf, ev_iNeg, ev_negR, ev_iTup, ev_iLst, ev_iLstO, ev_addI, ev_subI, ev_ltI, ev_leI, ev_gtI, ev_geI, ev_eq, ev_ne, ev_blR, eqD_int, eqD_pair, Option.map_some, ev_isB, ev_isNotB, ev_ixT, ev_ixL, ev_ixR, ev_ixR1, ev_gSub, ev_gsR, ev_gsR2, ev_sNil, ev_sSeq, ev_sAsg, ev_asgR, ev_gNm, ev_sExpr, ev_sRet, ev_sRetN, ev_sBreak, ev_sCont, ev_sIf, ev_sRaise, ev_sPar, ev_parR, ev_sPar3, ev_par3R, ev_whR, ev_whC, ev_whB, ev_whT, ev_clo1, ev_cloB, List.getElem?_cons_zero, List.getElem?_cons_succ, List.set_cons_zero, List.set_cons_succ, List.length_cons, List.length_nil, if_true, if_false, Bool.false_eq_true, Bool.not_true, Bool.not_false, h1, ev_lenT, h2, hlc, all_is, hb, decide_true, at0, at1, cd_is]
      by_cases hq : 0 < q
      · simp only [Res.bind_ok, Res.bind_err, Res.bind_bad, Res.thenS_ok, Res.thenS_err, Res.thenS_bad, SRes.bind_nx, SRes.bind_rt, SRes.bind_err, SRes.bind_bk, SRes.bind_ct, SRes.bind_bad, Res.safe_ok, ev_iVar, ev_getR, ev_iK, ev_iNil, ev_iCons, ev_op, ev_call, ev_callK, ev_iTest, ev_testR, ev_iTru, ev_truR, ev_truB, ev_truN, ev_truI, ev_iAnd, ev_iOr, ev_iNot, ev_iAndV, ev_iOrV, ev_iNotV, ev_iIf, ev_iNeg, ev_negR, ev_iTup, ev_iLst, ev_iLstO, ev_addI, ev_subI, ev_ltI, ev_leI, ev_gtI, ev_geI, ev_eq, ev_ne, ev_blR, eqD_int, eqD_pair, Option.map_some, ev_isB, ev_isNotB, ev_ixT, ev_ixL, ev_ixR, ev_ixR1, ev_gSub, ev_gsR, ev_gsR2, ev_sNil, ev_sSeq, ev_sAsg, ev_asgR, ev_gNm, ev_sExpr, ev_sRet, ev_sRetN, ev_sBreak, ev_sCont, ev_sIf, ev_sRaise, ev_sPar, ev_parR, ev_sPar3, ev_par3R, ev_whR, ev_whC, ev_whB, ev_whT, ev_clo1, ev_cloB, List.getElem?_cons_zero, List.getElem?_cons_succ, List.set_cons_zero, List.set_cons_succ, List.length_cons, List.length_nil, if_true, if_false, Bool.false_eq_true, Bool.not_true, Bool.not_false, hq, decide_true]
        unfold frB
        simp only [hq, decide_true, Bool.true_and]
        congr 2
        by_cases hg : Int.gcd p q = 1
        · rw [hg]; rfl
        · have : ¬ ((Int.gcd p q : Int) = 1) := by omega
          simp only [hg, this]
      · simp only [Res.bind_ok, Res.bind_err, Res.bind_bad, Res.thenS_ok, Res.thenS_err, Res.thenS_bad, SRes.bind_nx, SRes.bind_rt, SRes.bind_err, SRes.bind_bk, SRes.bind_ct, SRes.bind_bad, Res.safe_ok, ev_iVar, ev_getR, ev_iK, ev_iNil, ev_iCons, ev_op, ev_call, ev_callK, ev_iTest, ev_testR, ev_iTru, ev_truR, ev_truB, ev_truN, ev_truI, ev_iAnd, ev_iOr, ev_iNot, ev_iAndV, ev_iOrV, ev_iNotV, ev_iIf, ev_iNeg, ev_negR, ev_iTup, ev_iLst, ev_iLstO, ev_addI, ev_subI, ev_ltI, ev_leI, ev_gtI, ev_geI, ev_eq, ev_ne, ev_blR, eqD_int, eqD_pair, Option.map_some, ev_isB, ev_isNotB, ev_ixT, ev_ixL, ev_ixR, ev_ixR1, ev_gSub, ev_gsR, ev_gsR2, ev_sNil, ev_sSeq, ev_sAsg, ev_asgR, ev_gNm, ev_sExpr, ev_sRet, ev_sRetN, ev_sBreak, ev_sCont, ev_sIf, ev_sRaise, ev_sPar, ev_parR, ev_sPar3, ev_par3R, ev_whR, ev_whC, ev_whB, ev_whT, ev_clo1, ev_cloB, List.getElem?_cons_zero, List.getElem?_cons_succ, List.set_cons_zero, List.set_cons_succ, List.length_cons, List.length_nil, if_true, if_false, Bool.false_eq_true, Bool.not_true, Bool.not_false, hq, decide_false]
        unfold frB
        simp only [hq, decide_false, Bool.false_and]
theorem lif_tup {ds : List D} (h : (ds.all fun d => (tyName d).isSome) = true) (m : Mu) : m__law_is_fraction [.tup ds] m = .ok (.bl (frB (.tup ds))) m := by
  rw [ap__law_is_fraction]
  unfold b__law_is_fraction
  have h1 := fun m => isi_of (d := .tup ds) (c := "tuple") (m := m) rfl (by decide +kernel : kitB "tuple" "tuple" = some true)
  rcases tup_split ds with hl | ⟨a, b, rfl⟩
  · have h2 : ¬ ((ds.length : Int) = 2) := by omega
    simp only [Res.bind_ok, Res.bind_err, Res.bind_bad, Res.thenS_ok, Res.thenS_err, Res.thenS_bad, SRes.bind_nx, SRes.bind_rt, SRes.bind_err, SRes.bind_bk, SRes.bind_ct, SRes.bind_bad, Res.safe_ok, ev_iVar, ev_getR, ev_iK, ev_iNil, ev_iCons, ev_op, ev_call, ev_callK, ev_iTest, ev_testR, ev_iTru, ev_truR, ev_truB, ev_truN, ev_truI, ev_iAnd, ev_iOr, ev_iNot, ev_iAndV, ev_iOrV, ev_iNotV, ev_iIf, ev_iNeg, ev_negR, ev_iTup, ev_iLst, ev_iLstO, ev_addI, ev_subI, ev_ltI, ev_leI, ev_gtI, ev_geI, ev_eq, ev_ne, ev_blR, eqD_int, eqD_pair, Option.map_some, ev_isB, ev_isNotB, ev_ixT, ev_ixL, ev_ixR, ev_ixR1, ev_gSub, ev_gsR, ev_gsR2, ev_sNil, ev_sSeq, ev_sAsg, ev_asgR, ev_gNm, ev_sExpr, ev_sRet, ev_sRetN, ev_sBreak, ev_sCont, ev_sIf, ev_sRaise, ev_sPar, ev_parR, ev_sPar3, ev_par3R, ev_whR, ev_whC, ev_whB, ev_whT, ev_clo1, ev_cloB, List.getElem?_cons_zero, List.getElem?_cons_succ, List.set_cons_zero, List.set_cons_succ, List.length_cons, List.length_nil, if_true, if_false, Bool.false_eq_true, Bool.not_true, Bool.not_false, h1, ev_lenT, h2, decide_false]
    rw [frB_len hl]
  · have hlc : ∀ m, iLc (iItA (iVar 0)) [1] (gNm 1) tYesM (iAndV (iCall pIsi (iCons (iVar 1) (iCons (iK (.ty "int")) iNil))) (iNotV (iCall pIsi (iCons (iVar 1) (iCons (iK (.ty "bool")) iNil))))) [some (.tup [a, b]), none] m = .ok (.lst ([a, b].map fun d => .bl (isI d))) m := fun m =>
      lc_pure (fun d => .bl (isI d)) (ev_it1 _ _ _ _ rfl) (show [a, b].length ≤ sizeLine from sz 2) (fun d hd m' => by
        have := is_int (List.all_eq_true.mp h d hd) m'
        rw [ap_is_integer] at this
        unfold b_is_integer at this
        show iAndV _ _ [some (.tup [a, b]), some d] m' = _
        have hd2 := List.all_eq_true.mp h d hd
        cases d with
        | int i => simp only [Res.bind_ok, Res.bind_err, Res.bind_bad, Res.thenS_ok, Res.thenS_err, Res.thenS_bad, SRes.bind_nx, SRes.bind_rt, SRes.bind_err, SRes.bind_bk, SRes.bind_ct, SRes.bind_bad, Res.safe_ok, ev_iVar, ev_getR, ev_iK, ev_iNil, ev_iCons, ev_op, ev_call, ev_callK, ev_iTest, ev_testR, ev_iTru, ev_truR, ev_truB, ev_truN, ev_truI, ev_iAnd, ev_iOr, ev_iNot, ev_iAndV, ev_iOrV, ev_iNotV, ev_iIf, ev_iNeg, ev_negR, ev_iTup, ev_iLst, ev_iLstO, ev_addI, ev_subI, ev_ltI, ev_leI, ev_gtI, ev_geI, ev_eq, ev_ne, ev_blR, eqD_int, eqD_pair, Option.map_some, ev_isB, ev_isNotB, ev_ixT, ev_ixL, ev_ixR, ev_ixR1, ev_gSub, ev_gsR, ev_gsR2, ev_sNil, ev_sSeq, ev_sAsg, ev_asgR, ev_gNm, ev_sExpr, ev_sRet, ev_sRetN, ev_sBreak, ev_sCont, ev_sIf, ev_sRaise, ev_sPar, ev_parR, ev_sPar3, ev_par3R, ev_whR, ev_whC, ev_whB, ev_whT, ev_clo1, ev_cloB, List.getElem?_cons_zero, List.getElem?_cons_succ, List.set_cons_zero, List.set_cons_succ, List.length_cons, List.length_nil, if_true, if_false, Bool.false_eq_true, Bool.not_true, Bool.not_false, isi_of (d := .int i) (c := "int") rfl (by decide +kernel : kitB "int" "int" = some true), isi_of (d := .int i) (c := "bool") rfl (by decide +kernel : kitB "int" "bool" = some false)]; rfl
        | bl i => simp only [Res.bind_ok, Res.bind_err, Res.bind_bad, Res.thenS_ok, Res.thenS_err, Res.thenS_bad, SRes.bind_nx, SRes.bind_rt, SRes.bind_err, SRes.bind_bk, SRes.bind_ct, SRes.bind_bad, Res.safe_ok, ev_iVar, ev_getR, ev_iK, ev_iNil, ev_iCons, ev_op, ev_call, ev_callK, ev_iTest, ev_testR, ev_iTru, ev_truR, ev_truB, ev_truN, ev_truI, ev_iAnd, ev_iOr, ev_iNot, ev_iAndV, ev_iOrV, ev_iNotV, ev_iIf, ev_iNeg, ev_negR, ev_iTup, ev_iLst, ev_iLstO, ev_addI, ev_subI, ev_ltI, ev_leI, ev_gtI, ev_geI, ev_eq, ev_ne, ev_blR, eqD_int, eqD_pair, Option.map_some, ev_isB, ev_isNotB, ev_ixT, ev_ixL, ev_ixR, ev_ixR1, ev_gSub, ev_gsR, ev_gsR2, ev_sNil, ev_sSeq, ev_sAsg, ev_asgR, ev_gNm, ev_sExpr, ev_sRet, ev_sRetN, ev_sBreak, ev_sCont, ev_sIf, ev_sRaise, ev_sPar, ev_parR, ev_sPar3, ev_par3R, ev_whR, ev_whC, ev_whB, ev_whT, ev_clo1, ev_cloB, List.getElem?_cons_zero, List.getElem?_cons_succ, List.set_cons_zero, List.set_cons_succ, List.length_cons, List.length_nil, if_true, if_false, Bool.false_eq_true, Bool.not_true, Bool.not_false, isi_of (d := .bl i) (c := "int") rfl (by decide +kernel : kitB "bool" "int" = some true), isi_of (d := .bl i) (c := "bool") rfl (by decide +kernel : kitB "bool" "bool" = some true)]; rfl
        | non => simp only [Res.bind_ok, Res.bind_err, Res.bind_bad, Res.thenS_ok, Res.thenS_err, Res.thenS_bad, SRes.bind_nx, SRes.bind_rt, SRes.bind_err, SRes.bind_bk, SRes.bind_ct, SRes.bind_bad, Res.safe_ok, ev_iVar, ev_getR, ev_iK, ev_iNil, ev_iCons, ev_op, ev_call, ev_callK, ev_iTest, ev_testR, ev_iTru, ev_truR, ev_truB, ev_truN, ev_truI, ev_iAnd, ev_iOr, ev_iNot, ev_iAndV, ev_iOrV, ev_iNotV, ev_iIf, ev_iNeg, ev_negR, ev_iTup, ev_iLst, ev_iLstO, ev_addI, ev_subI, ev_ltI, ev_leI, ev_gtI, ev_geI, ev_eq, ev_ne, ev_blR, eqD_int, eqD_pair, Option.map_some, ev_isB, ev_isNotB, ev_ixT, ev_ixL, ev_ixR, ev_ixR1, ev_gSub, ev_gsR, ev_gsR2, ev_sNil, ev_sSeq, ev_sAsg, ev_asgR, ev_gNm, ev_sExpr, ev_sRet, ev_sRetN, ev_sBreak, ev_sCont, ev_sIf, ev_sRaise, ev_sPar, ev_parR, ev_sPar3, ev_par3R, ev_whR, ev_whC, ev_whB, ev_whT, ev_clo1, ev_cloB, List.getElem?_cons_zero, List.getElem?_cons_succ, List.set_cons_zero, List.set_cons_succ, List.length_cons, List.length_nil, if_true, if_false, Bool.false_eq_true, Bool.not_true, Bool.not_false, isi_of (d := .non) (c := "int") rfl (by decide +kernel : kitB "NoneType" "int" = some false)]; rfl
        | str i => simp only [Res.bind_ok, Res.bind_err, Res.bind_bad, Res.thenS_ok, Res.thenS_err, Res.thenS_bad, SRes.bind_nx, SRes.bind_rt, SRes.bind_err, SRes.bind_bk, SRes.bind_ct, SRes.bind_bad, Res.safe_ok, ev_iVar, ev_getR, ev_iK, ev_iNil, ev_iCons, ev_op, ev_call, ev_callK, ev_iTest, ev_testR, ev_iTru, ev_truR, ev_truB, ev_truN, ev_truI, ev_iAnd, ev_iOr, ev_iNot, ev_iAndV, ev_iOrV, ev_iNotV, ev_iIf, ev_iNeg, ev_negR, ev_iTup, ev_iLst, ev_iLstO, ev_addI, ev_subI, ev_ltI, ev_leI, ev_gtI, ev_geI, ev_eq, ev_ne, ev_blR, eqD_int, eqD_pair, Option.map_some, ev_isB, ev_isNotB, ev_ixT, ev_ixL, ev_ixR, ev_ixR1, ev_gSub, ev_gsR, ev_gsR2, ev_sNil, ev_sSeq, ev_sAsg, ev_asgR, ev_gNm, ev_sExpr, ev_sRet, ev_sRetN, ev_sBreak, ev_sCont, ev_sIf, ev_sRaise, ev_sPar, ev_parR, ev_sPar3, ev_par3R, ev_whR, ev_whC, ev_whB, ev_whT, ev_clo1, ev_cloB, List.getElem?_cons_zero, List.getElem?_cons_succ, List.set_cons_zero, List.set_cons_succ, List.length_cons, List.length_nil, if_true, if_false, Bool.false_eq_true, Bool.not_true, Bool.not_false, isi_of (d := .str i) (c := "int") rfl (by decide +kernel : kitB "str" "int" = some false)]; rfl
        | tup i => simp only [Res.bind_ok, Res.bind_err, Res.bind_bad, Res.thenS_ok, Res.thenS_err, Res.thenS_bad, SRes.bind_nx, SRes.bind_rt, SRes.bind_err, SRes.bind_bk, SRes.bind_ct, SRes.bind_bad, Res.safe_ok, ev_iVar, ev_getR, ev_iK, ev_iNil, ev_iCons, ev_op, ev_call, ev_callK, ev_iTest, ev_testR, ev_iTru, ev_truR, ev_truB, ev_truN, ev_truI, ev_iAnd, ev_iOr, ev_iNot, ev_iAndV, ev_iOrV, ev_iNotV, ev_iIf, ev_iNeg, ev_negR, ev_iTup, ev_iLst, ev_iLstO, ev_addI, ev_subI, ev_ltI, ev_leI, ev_gtI, ev_geI, ev_eq, ev_ne, ev_blR, eqD_int, eqD_pair, Option.map_some, ev_isB, ev_isNotB, ev_ixT, ev_ixL, ev_ixR, ev_ixR1, ev_gSub, ev_gsR, ev_gsR2, ev_sNil, ev_sSeq, ev_sAsg, ev_asgR, ev_gNm, ev_sExpr, ev_sRet, ev_sRetN, ev_sBreak, ev_sCont, ev_sIf, ev_sRaise, ev_sPar, ev_parR, ev_sPar3, ev_par3R, ev_whR, ev_whC, ev_whB, ev_whT, ev_clo1, ev_cloB, List.getElem?_cons_zero, List.getElem?_cons_succ, List.set_cons_zero, List.set_cons_succ, List.length_cons, List.length_nil, if_true, if_false, Bool.false_eq_true, Bool.not_true, Bool.not_false, isi_of (d := .tup i) (c := "int") rfl (by decide +kernel : kitB "tuple" "int" = some false)]; rfl
        | lst i => simp only [Res.bind_ok, Res.bind_err, Res.bind_bad, Res.thenS_ok, Res.thenS_err, Res.thenS_bad, SRes.bind_nx, SRes.bind_rt, SRes.bind_err, SRes.bind_bk, SRes.bind_ct, SRes.bind_bad, Res.safe_ok, ev_iVar, ev_getR, ev_iK, ev_iNil, ev_iCons, ev_op, ev_call, ev_callK, ev_iTest, ev_testR, ev_iTru, ev_truR, ev_truB, ev_truN, ev_truI, ev_iAnd, ev_iOr, ev_iNot, ev_iAndV, ev_iOrV, ev_iNotV, ev_iIf, ev_iNeg, ev_negR, ev_iTup, ev_iLst, ev_iLstO, ev_addI, ev_subI, ev_ltI, ev_leI, ev_gtI, ev_geI, ev_eq, ev_ne, ev_blR, eqD_int, eqD_pair, Option.map_some, ev_isB, ev_isNotB, ev_ixT, ev_ixL, ev_ixR, ev_ixR1, ev_gSub, ev_gsR, ev_gsR2, ev_sNil, ev_sSeq, ev_sAsg, ev_asgR, ev_gNm, ev_sExpr, ev_sRet, ev_sRetN, ev_sBreak, ev_sCont, ev_sIf, ev_sRaise, ev_sPar, ev_parR, ev_sPar3, ev_par3R, ev_whR, ev_whC, ev_whB, ev_whT, ev_clo1, ev_cloB, List.getElem?_cons_zero, List.getElem?_cons_succ, List.set_cons_zero, List.set_cons_succ, List.length_cons, List.length_nil, if_true, if_false, Bool.false_eq_true, Bool.not_true, Bool.not_false, isi_of (d := .lst i) (c := "int") rfl (by decide +kernel : kitB "list" "int" = some false)]; rfl
        | rol i => simp only [Res.bind_ok, Res.bind_err, Res.bind_bad, Res.thenS_ok, Res.thenS_err, Res.thenS_bad, SRes.bind_nx, SRes.bind_rt, SRes.bind_err, SRes.bind_bk, SRes.bind_ct, SRes.bind_bad, Res.safe_ok, ev_iVar, ev_getR, ev_iK, ev_iNil, ev_iCons, ev_op, ev_call, ev_callK, ev_iTest, ev_testR, ev_iTru, ev_truR, ev_truB, ev_truN, ev_truI, ev_iAnd, ev_iOr, ev_iNot, ev_iAndV, ev_iOrV, ev_iNotV, ev_iIf, ev_iNeg, ev_negR, ev_iTup, ev_iLst, ev_iLstO, ev_addI, ev_subI, ev_ltI, ev_leI, ev_gtI, ev_geI, ev_eq, ev_ne, ev_blR, eqD_int, eqD_pair, Option.map_some, ev_isB, ev_isNotB, ev_ixT, ev_ixL, ev_ixR, ev_ixR1, ev_gSub, ev_gsR, ev_gsR2, ev_sNil, ev_sSeq, ev_sAsg, ev_asgR, ev_gNm, ev_sExpr, ev_sRet, ev_sRetN, ev_sBreak, ev_sCont, ev_sIf, ev_sRaise, ev_sPar, ev_parR, ev_sPar3, ev_par3R, ev_whR, ev_whC, ev_whB, ev_whT, ev_clo1, ev_cloB, List.getElem?_cons_zero, List.getElem?_cons_succ, List.set_cons_zero, List.set_cons_succ, List.length_cons, List.length_nil, if_true, if_false, Bool.false_eq_true, Bool.not_true, Bool.not_false, isi_of (d := .rol i) (c := "int") rfl (by decide +kernel : kitB "list" "int" = some false)]; rfl
        | loc i => simp only [Res.bind_ok, Res.bind_err, Res.bind_bad, Res.thenS_ok, Res.thenS_err, Res.thenS_bad, SRes.bind_nx, SRes.bind_rt, SRes.bind_err, SRes.bind_bk, SRes.bind_ct, SRes.bind_bad, Res.safe_ok, ev_iVar, ev_getR, ev_iK, ev_iNil, ev_iCons, ev_op, ev_call, ev_callK, ev_iTest, ev_testR, ev_iTru, ev_truR, ev_truB, ev_truN, ev_truI, ev_iAnd, ev_iOr, ev_iNot, ev_iAndV, ev_iOrV, ev_iNotV, ev_iIf, ev_iNeg, ev_negR, ev_iTup, ev_iLst, ev_iLstO, ev_addI, ev_subI, ev_ltI, ev_leI, ev_gtI, ev_geI, ev_eq, ev_ne, ev_blR, eqD_int, eqD_pair, Option.map_some, ev_isB, ev_isNotB, ev_ixT, ev_ixL, ev_ixR, ev_ixR1, ev_gSub, ev_gsR, ev_gsR2, ev_sNil, ev_sSeq, ev_sAsg, ev_asgR, ev_gNm, ev_sExpr, ev_sRet, ev_sRetN, ev_sBreak, ev_sCont, ev_sIf, ev_sRaise, ev_sPar, ev_parR, ev_sPar3, ev_par3R, ev_whR, ev_whC, ev_whB, ev_whT, ev_clo1, ev_cloB, List.getElem?_cons_zero, List.getElem?_cons_succ, List.set_cons_zero, List.set_cons_succ, List.length_cons, List.length_nil, if_true, if_false, Bool.false_eq_true, Bool.not_true, Bool.not_false, isi_of (d := .loc i) (c := "int") rfl (by decide +kernel : kitB "list" "int" = some false)]; rfl
        | dct i => simp only [Res.bind_ok, Res.bind_err, Res.bind_bad, Res.thenS_ok, Res.thenS_err, Res.thenS_bad, SRes.bind_nx, SRes.bind_rt, SRes.bind_err, SRes.bind_bk, SRes.bind_ct, SRes.bind_bad, Res.safe_ok, ev_iVar, ev_getR, ev_iK, ev_iNil, ev_iCons, ev_op, ev_call, ev_callK, ev_iTest, ev_testR, ev_iTru, ev_truR, ev_truB, ev_truN, ev_truI, ev_iAnd, ev_iOr, ev_iNot, ev_iAndV, ev_iOrV, ev_iNotV, ev_iIf, ev_iNeg, ev_negR, ev_iTup, ev_iLst, ev_iLstO, ev_addI, ev_subI, ev_ltI, ev_leI, ev_gtI, ev_geI, ev_eq, ev_ne, ev_blR, eqD_int, eqD_pair, Option.map_some, ev_isB, ev_isNotB, ev_ixT, ev_ixL, ev_ixR, ev_ixR1, ev_gSub, ev_gsR, ev_gsR2, ev_sNil, ev_sSeq, ev_sAsg, ev_asgR, ev_gNm, ev_sExpr, ev_sRet, ev_sRetN, ev_sBreak, ev_sCont, ev_sIf, ev_sRaise, ev_sPar, ev_parR, ev_sPar3, ev_par3R, ev_whR, ev_whC, ev_whB, ev_whT, ev_clo1, ev_cloB, List.getElem?_cons_zero, List.getElem?_cons_succ, List.set_cons_zero, List.set_cons_succ, List.length_cons, List.length_nil, if_true, if_false, Bool.false_eq_true, Bool.not_true, Bool.not_false, isi_of (d := .dct i) (c := "int") rfl (by decide +kernel : kitB "dict" "int" = some false)]; rfl
        | ty n => simp [tyName] at hd2
        | ins c fs => simp [tyName] at hd2) fun _ _ => rfl
    have h2 : (((0 + 1 + 1 : Nat) : Int) = 2) := rfl
    cases hb : ([a, b].all isI) with
    | false =>
      simp only [Res.bind_ok, Res.bind_err, Res.bind_bad, Res.thenS_ok, Res.thenS_err, Res.thenS_bad, SRes.bind_nx, SRes.bind_rt, SRes.bind_err, SRes.bind_bk, SRes.bind_ct, SRes.bind_bad, Res.safe_ok, ev_iVar, ev_getR, ev_iK, ev_iNil, ev_iCons, ev_op, ev_call, ev_callK, ev_iTest, ev_testR, ev_iTru, ev_truR, ev_truB, ev_truN, ev_truI, ev_iAnd, ev_iOr, ev_iNot, ev_iAndV, ev_iOrV, ev_iNotV, ev_iIf, ev_iNeg, ev_negR, ev_iTup, ev_iLst, ev_iLstO, ev_addI, ev_subI, ev_ltI, ev_leI, ev_gtI, ev_geI, ev_eq, ev_ne, ev_blR, eqD_int, eqD_pair, Option.map_some, ev_isB, ev_isNotB, ev_ixT, ev_ixL, ev_ixR, ev_ixR1, ev_gSub, ev_gsR, ev_gsR2, ev_sNil, ev_sSeq, ev_sAsg, ev_asgR, ev_gNm, ev_sExpr, ev_sRet, ev_sRetN, ev_sBreak, ev_sCont, ev_sIf, ev_sRaise, ev_sPar, ev_parR, ev_sPar3, ev_par3R, ev_whR, ev_whC, ev_whB, ev_whT, ev_clo1, ev_cloB, List.getElem?_cons_zero, List.getElem?_cons_succ, List.set_cons_zero, List.set_cons_succ, List.length_cons, List.length_nil, if_true, if_false, Bool.false_eq_true, Bool.not_true, Bool.not_false, h1, ev_lenT, h2, hlc, all_is, hb, decide_true]
      rw [frB_not hb]
    | true =>
      obtain ⟨p, q, rfl, rfl⟩ := all_int hb
      simp only [Res.bind_ok, Res.bind_err, Res.bind_bad, Res.thenS_ok, Res.thenS_err, Res.thenS_bad, SRes.bind_nx, SRes.bind_rt, SRes.bind_err, SRes.bind_bk, SRes.bind_ct, SRes.bind_bad, Res.safe_ok, ev_iVar, ev_getR, ev_iK, ev_iNil, ev_iCons, ev_op, ev_call, ev_callK, ev_iTest, ev_testR, ev_iTru, ev_truR, ev_truB, ev_truN, ev_truI, ev_iAnd, ev_iOr, ev_iNot, ev_iAndV, ev_iOrV, ev_iNotV, ev_iIf, ev_iNeg, ev_negR, ev_iTup, ev_iLst, ev_iLstO, ev_addI, ev_subI, ev_ltI, ev_leI, ev_gtI, ev_geI, ev_eq, ev_ne, ev_blR, eqD_int, eqD_pair, Option.map_some, ev_isB, ev_isNotB, ev_ixT, ev_ixL, ev_ixR, ev_ixR1, ev_gSub, ev_gsR, ev_gsR2, ev_sNil, ev_sSeq, ev_sAsg, ev_asgR, ev_gNm, ev_sExpr, ev_sRet, ev_sRetN, ev_sBreak, ev_sCont, ev_sIf, ev_sRaise, ev_sPar, ev_parR, ev_sPar3, ev_par3R, ev_whR, ev_whC, ev_whB, ev_whT, ev_clo1, ev_cloB, List.getElem?_cons_zero, List.getElem?_cons_succ, List.set_cons_zero, List.set_cons_succ, List.length_cons, List.length_nil, if_true, if_false, Bool.false_eq_true, Bool.not_true, Bool.not_false, h1, ev_lenT, h2, hlc, all_is, hb, decide_true, at0, at1, ld_is]
      by_cases hq : 0 < q
      · simp only [Res.bind_ok, Res.bind_err, Res.bind_bad, Res.thenS_ok, Res.thenS_err, Res.thenS_bad, SRes.bind_nx, SRes.bind_rt, SRes.bind_err, SRes.bind_bk, SRes.bind_ct, SRes.bind_bad, Res.safe_ok, ev_iVar, ev_getR, ev_iK, ev_iNil, ev_iCons, ev_op, ev_call, ev_callK, ev_iTest, ev_testR, ev_iTru, ev_truR, ev_truB, ev_truN, ev_truI, ev_iAnd, ev_iOr, ev_iNot, ev_iAndV, ev_iOrV, ev_iNotV, ev_iIf, ev_iNeg, ev_negR, ev_iTup, ev_iLst, ev_iLstO, ev_addI, ev_subI, ev_ltI, ev_leI, ev_gtI, ev_geI, ev_eq, ev_ne, ev_blR, eqD_int, eqD_pair, Option.map_some, ev_isB, ev_isNotB, ev_ixT, ev_ixL, ev_ixR, ev_ixR1, ev_gSub, ev_gsR, ev_gsR2, ev_sNil, ev_sSeq, ev_sAsg, ev_asgR, ev_gNm, ev_sExpr, ev_sRet, ev_sRetN, ev_sBreak, ev_sCont, ev_sIf, ev_sRaise, ev_sPar, ev_parR, ev_sPar3, ev_par3R, ev_whR, ev_whC, ev_whB, ev_whT, ev_clo1, ev_cloB, List.getElem?_cons_zero, List.getElem?_cons_succ, List.set_cons_zero, List.set_cons_succ, List.length_cons, List.length_nil, if_true, if_false, Bool.false_eq_true, Bool.not_true, Bool.not_false, hq, decide_true]
        unfold frB
        simp only [hq, decide_true, Bool.true_and]
        congr 2
        by_cases hg : Int.gcd p q = 1
        · rw [hg]; rfl
        · have : ¬ ((Int.gcd p q : Int) = 1) := by omega
          simp only [hg, this]
      · simp only [Res.bind_ok, Res.bind_err, Res.bind_bad, Res.thenS_ok, Res.thenS_err, Res.thenS_bad, SRes.bind_nx, SRes.bind_rt, SRes.bind_err, SRes.bind_bk, SRes.bind_ct, SRes.bind_bad, Res.safe_ok, ev_iVar, ev_getR, ev_iK, ev_iNil, ev_iCons, ev_op, ev_call, ev_callK, ev_iTest, ev_testR, ev_iTru, ev_truR, ev_truB, ev_truN, ev_truI, ev_iAnd, ev_iOr, ev_iNot, ev_iAndV, ev_iOrV, ev_iNotV, ev_iIf, ev_iNeg, ev_negR, ev_iTup, ev_iLst, ev_iLstO, ev_addI, ev_subI, ev_ltI, ev_leI, ev_gtI, ev_geI, ev_eq, ev_ne, ev_blR, eqD_int, eqD_pair, Option.map_some, ev_isB, ev_isNotB, ev_ixT, ev_ixL, ev_ixR, ev_ixR1, ev_gSub, ev_gsR, ev_gsR2, ev_sNil, ev_sSeq, ev_sAsg, ev_asgR, ev_gNm, ev_sExpr, ev_sRet, ev_sRetN, ev_sBreak, ev_sCont, ev_sIf, ev_sRaise, ev_sPar, ev_parR, ev_sPar3, ev_par3R, ev_whR, ev_whC, ev_whB, ev_whT, ev_clo1, ev_cloB, List.getElem?_cons_zero, List.getElem?_cons_succ, List.set_cons_zero, List.set_cons_succ, List.length_cons, List.length_nil, if_true, if_false, Bool.false_eq_true, Bool.not_true, Bool.not_false, hq, decide_false]
        unfold frB
        simp only [hq, decide_false, Bool.false_and]
/-- no tuple -/
theorem isf_not {d : D} {t : String} (ht : tyName d = some t) (hk : kitB t "tuple" = some false) (m : Mu) : m_is_fraction [d] m = .ok (.bl false) m ∧ m__law_is_fraction [d] m = .ok (.bl false) m := by
  constructor
  · rw [ap_is_fraction]
    unfold b_is_fraction
    simp only [Res.bind_ok, Res.bind_err, Res.bind_bad, Res.thenS_ok, Res.thenS_err, Res.thenS_bad, SRes.bind_nx, SRes.bind_rt, SRes.bind_err, SRes.bind_bk, SRes.bind_ct, SRes.bind_bad, Res.safe_ok, ev_iVar, ev_getR, ev_iK, ev_iNil, ev_iCons, ev_op, ev_call, ev_callK, ev_iTest, ev_testR, ev_iTru, ev_truR, ev_truB, ev_truN, ev_truI, ev_iAnd, ev_iOr, ev_iNot, ev_iAndV, ev_iOrV, ev_iNotV, ev_iIf, ev_iNeg, ev_negR, ev_iTup, ev_iLst, ev_iLstO, ev_addI, ev_subI, ev_ltI, ev_leI, ev_gtI, ev_geI, ev_eq, ev_ne, ev_blR, eqD_int, eqD_pair, Option.map_some, ev_isB, ev_isNotB, ev_ixT, ev_ixL, ev_ixR, ev_ixR1, ev_gSub, ev_gsR, ev_gsR2, ev_sNil, ev_sSeq, ev_sAsg, ev_asgR, ev_gNm, ev_sExpr, ev_sRet, ev_sRetN, ev_sBreak, ev_sCont, ev_sIf, ev_sRaise, ev_sPar, ev_parR, ev_sPar3, ev_par3R, ev_whR, ev_whC, ev_whB, ev_whT, ev_clo1, ev_cloB, List.getElem?_cons_zero, List.getElem?_cons_succ, List.set_cons_zero, List.set_cons_succ, List.length_cons, List.length_nil, if_true, if_false, Bool.false_eq_true, Bool.not_true, Bool.not_false, isi_of ht hk]
  · rw [ap__law_is_fraction]
    unfold b__law_is_fraction
    simp only [Res.bind_ok, Res.bind_err, Res.bind_bad, Res.thenS_ok, Res.thenS_err, Res.thenS_bad, SRes.bind_nx, SRes.bind_rt, SRes.bind_err, SRes.bind_bk, SRes.bind_ct, SRes.bind_bad, Res.safe_ok, ev_iVar, ev_getR, ev_iK, ev_iNil, ev_iCons, ev_op, ev_call, ev_callK, ev_iTest, ev_testR, ev_iTru, ev_truR, ev_truB, ev_truN, ev_truI, ev_iAnd, ev_iOr, ev_iNot, ev_iAndV, ev_iOrV, ev_iNotV, ev_iIf, ev_iNeg, ev_negR, ev_iTup, ev_iLst, ev_iLstO, ev_addI, ev_subI, ev_ltI, ev_leI, ev_gtI, ev_geI, ev_eq, ev_ne, ev_blR, eqD_int, eqD_pair, Option.map_some, ev_isB, ev_isNotB, ev_ixT, ev_ixL, ev_ixR, ev_ixR1, ev_gSub, ev_gsR, ev_gsR2, ev_sNil, ev_sSeq, ev_sAsg, ev_asgR, ev_gNm, ev_sExpr, ev_sRet, ev_sRetN, ev_sBreak, ev_sCont, ev_sIf, ev_sRaise, ev_sPar, ev_parR, ev_sPar3, ev_par3R, ev_whR, ev_whC, ev_whB, ev_whT, ev_clo1, ev_cloB, List.getElem?_cons_zero, List.getElem?_cons_succ, List.set_cons_zero, List.set_cons_succ, List.length_cons, List.length_nil, if_true, if_false, Bool.false_eq_true, Bool.not_true, Bool.not_false, isi_of ht hk]
/-- both tell the same of every plain value -/
theorem both_is {d : D} (h : plainD d = true) (m : Mu) : ∃ b, m_is_fraction [d] m = .ok (.bl b) m ∧ m__law_is_fraction [d] m = .ok (.bl b) m := by
  cases d with
  | tup ds => exact ⟨_, isf_tup h m, lif_tup h m⟩
  | int i => exact ⟨false, isf_not (t := "int") rfl (by decide +kernel) m⟩
  | bl i => exact ⟨false, isf_not (t := "bool") rfl (by decide +kernel) m⟩
  | non => exact ⟨false, isf_not (t := "NoneType") rfl (by decide +kernel) m⟩
  | str i => exact ⟨false, isf_not (t := "str") rfl (by decide +kernel) m⟩
  | lst i => exact ⟨false, isf_not (t := "list") rfl (by decide +kernel) m⟩
  | rol i => exact ⟨false, isf_not (t := "list") rfl (by decide +kernel) m⟩
  | loc i => exact ⟨false, isf_not (t := "list") rfl (by decide +kernel) m⟩
  | dct i => exact ⟨false, isf_not (t := "dict") rfl (by decide +kernel) m⟩
  | ty n => simp [plainD, tyName] at h
  | ins c fs => simp [plainD, tyName] at h
theorem truth_is (b : Bool) (m : Mu) : m__law_truth [.bl b, .bl b] m = .ok (.bl true) m := by
  rw [ap__law_truth]
  unfold b__law_truth
  cases b <;> simp only [Res.bind_ok, Res.bind_err, Res.bind_bad, Res.thenS_ok, Res.thenS_err, Res.thenS_bad, SRes.bind_nx, SRes.bind_rt, SRes.bind_err, SRes.bind_bk, SRes.bind_ct, SRes.bind_bad, Res.safe_ok, ev_iVar, ev_getR, ev_iK, ev_iNil, ev_iCons, ev_op, ev_call, ev_callK, ev_iTest, ev_testR, ev_iTru, ev_truR, ev_truB, ev_truN, ev_truI, ev_iAnd, ev_iOr, ev_iNot, ev_iAndV, ev_iOrV, ev_iNotV, ev_iIf, ev_iNeg, ev_negR, ev_iTup, ev_iLst, ev_iLstO, ev_addI, ev_subI, ev_ltI, ev_leI, ev_gtI, ev_geI, ev_eq, ev_ne, ev_blR, eqD_int, eqD_pair, Option.map_some, ev_isB, ev_isNotB, ev_ixT, ev_ixL, ev_ixR, ev_ixR1, ev_gSub, ev_gsR, ev_gsR2, ev_sNil, ev_sSeq, ev_sAsg, ev_asgR, ev_gNm, ev_sExpr, ev_sRet, ev_sRetN, ev_sBreak, ev_sCont, ev_sIf, ev_sRaise, ev_sPar, ev_parR, ev_sPar3, ev_par3R, ev_whR, ev_whC, ev_whB, ev_whT, ev_clo1, ev_cloB, List.getElem?_cons_zero, List.getElem?_cons_succ, List.set_cons_zero, List.set_cons_succ, List.length_cons, List.length_nil, if_true, if_false, Bool.false_eq_true, Bool.not_true, Bool.not_false, decide_true]
theorem frB_fr {t b : Int} (hb : b ≠ 0) : frB (frD t b) = true := by
  unfold frD frB
  simp [de_pos hb, nd_gcd hb]
theorem same_is {t b t' b' : Int} (hb : b ≠ 0) (ht : Bd 4000 t) (hb4 : Bd 4000 b) (ht' : Bd 4000 t') (hb' : Bd 4000 b') (e : nu t b * b' = t' * de t b) (m : Mu) : m__law_same [frD t b, pr t' b'] m = .ok (.bl true) m := by
  rw [ap__law_same]
  unfold b__law_same
  have h0 : ∀ m, m__law_is_fraction [.tup [.int (nu t b), .int (de t b)]] m = .ok (.bl true) m := fun m => by
    have := lif_tup (ds := [.int (nu t b), .int (de t b)]) rfl m
    rw [show frB (.tup [.int (nu t b), .int (de t b)]) = true from frB_fr hb] at this
    exact this
  have c1 : CMulW (nu t b) b' := (ht.of_le (nu_le hb)).c hb' (by decide)
  have c2 : CMulW t' (de t b) := ht'.c (hb4.of_le (de_le hb)) (by decide)
  unfold frD
  simp only [Res.bind_ok, Res.bind_err, Res.bind_bad, Res.thenS_ok, Res.thenS_err, Res.thenS_bad, SRes.bind_nx, SRes.bind_rt, SRes.bind_err, SRes.bind_bk, SRes.bind_ct, SRes.bind_bad, Res.safe_ok, ev_iVar, ev_getR, ev_iK, ev_iNil, ev_iCons, ev_op, ev_call, ev_callK, ev_iTest, ev_testR, ev_iTru, ev_truR, ev_truB, ev_truN, ev_truI, ev_iAnd, ev_iOr, ev_iNot, ev_iAndV, ev_iOrV, ev_iNotV, ev_iIf, ev_iNeg, ev_negR, ev_iTup, ev_iLst, ev_iLstO, ev_addI, ev_subI, ev_ltI, ev_leI, ev_gtI, ev_geI, ev_eq, ev_ne, ev_blR, eqD_int, eqD_pair, Option.map_some, ev_isB, ev_isNotB, ev_ixT, ev_ixL, ev_ixR, ev_ixR1, ev_gSub, ev_gsR, ev_gsR2, ev_sNil, ev_sSeq, ev_sAsg, ev_asgR, ev_gNm, ev_sExpr, ev_sRet, ev_sRetN, ev_sBreak, ev_sCont, ev_sIf, ev_sRaise, ev_sPar, ev_parR, ev_sPar3, ev_par3R, ev_whR, ev_whC, ev_whB, ev_whT, ev_clo1, ev_cloB, List.getElem?_cons_zero, List.getElem?_cons_succ, List.set_cons_zero, List.set_cons_succ, List.length_cons, List.length_nil, if_true, if_false, Bool.false_eq_true, Bool.not_true, Bool.not_false, h0, at0, at1, ev_mulI _ _ _ c1, ev_mulI _ _ _ c2, e, decide_true]
/-! ### draws -/
def Bx (L : Nat) (c : List D) : Prop := ∃ a b e : Int, c = [.int a, .int b, .int e] ∧ 0 ≤ a ∧ 0 ≤ b ∧ b < 2 ^ 31 ∧ 0 ≤ e ∧ e ≤ (L : Int)
theorem Bx.old {L : Nat} {c : List D} (h : Bx L c) (n : Nat) : oldA n c = true := by
  obtain ⟨a, b, e, rfl, _⟩ := h
  rfl
theorem ix30 : ixN 3 0 = some 0 := by decide
theorem ix31 : ixN 3 1 = some 1 := by decide
theorem ix32 : ixN 3 2 = some 2 := by decide
theorem bd_of {k : Nat} {x : Int} (h0 : 0 ≤ x) (h : x < ((2 ^ k : Nat) : Int)) : Bd k x := by
  unfold Bd
  omega
theorem set2 {m : Mu} {n : Nat} (c c' : List D) : (m.set n c).set n c' = m.set n c' := by rw [List.set_set]
theorem take_is {m : Mu} {n L : Nat} {c : List D} {k : Int} (hc : m[n]? = some c) (hb : Bx L c) (hL : L ≤ 1000000) (hk : 0 < k) (hk2 : k.natAbs.log2 < 9000) :
    ∃ d c', m__law_take [.loc n, .int k] m = .ok (.int d) (m.set n c') ∧ 0 ≤ d ∧ d < k ∧ Bx (L + 1) c' := by
  obtain ⟨a, b, e, rfl, ha, hb0, hb1, he0, he1⟩ := hb
  have hlt : n < m.length := (List.getElem?_eq_some_iff.mp hc).1
  rw [ap__law_take]
  unfold b__law_take
  have hdiv : k ≠ 0 ∧ k.natAbs.log2 < 9000 := ⟨by omega, hk2⟩
  have g1 : ∀ c' : List D, (m.set n c')[n]? = some c' := fun c' => List.getElem?_set_self hlt
  by_cases h : 0 < a
  · refine ⟨a % k, [.int (a.fdiv k), .int b, .int e], ?_, Int.emod_nonneg _ (by omega), Int.emod_lt_of_pos _ hk, a.fdiv k, b, e, rfl, Int.fdiv_nonneg ha (by omega), hb0, hb1, he0, by omega⟩
    simp only [Res.bind_ok, Res.bind_err, Res.bind_bad, Res.thenS_ok, Res.thenS_err, Res.thenS_bad, SRes.bind_nx, SRes.bind_rt, SRes.bind_err, SRes.bind_bk, SRes.bind_ct, SRes.bind_bad, Res.safe_ok, ev_iVar, ev_getR, ev_iK, ev_iNil, ev_iCons, ev_op, ev_call, ev_callK, ev_iTest, ev_testR, ev_iTru, ev_truR, ev_truB, ev_truN, ev_truI, ev_iAnd, ev_iOr, ev_iNot, ev_iAndV, ev_iOrV, ev_iNotV, ev_iIf, ev_iNeg, ev_negR, ev_iTup, ev_iLst, ev_iLstO, ev_addI, ev_subI, ev_ltI, ev_leI, ev_gtI, ev_geI, ev_eq, ev_ne, ev_blR, eqD_int, eqD_pair, Option.map_some, ev_isB, ev_isNotB, ev_ixT, ev_ixL, ev_ixR, ev_ixR1, ev_gSub, ev_gsR, ev_gsR2, ev_sNil, ev_sSeq, ev_sAsg, ev_asgR, ev_gNm, ev_sExpr, ev_sRet, ev_sRetN, ev_sBreak, ev_sCont, ev_sIf, ev_sRaise, ev_sPar, ev_parR, ev_sPar3, ev_par3R, ev_whR, ev_whC, ev_whB, ev_whT, ev_clo1, ev_cloB, List.getElem?_cons_zero, List.getElem?_cons_succ, List.set_cons_zero, List.set_cons_succ, List.length_cons, List.length_nil, if_true, if_false, Bool.false_eq_true, Bool.not_true, Bool.not_false, ev_ixO _ _ _ _ hc, at0, h, decide_true, ev_int, ev_modI _ _ _ hk, ev_divI _ _ _ hdiv, ev_put hc ix30 (old_int _ _)]
    rw [ev_cloI _ _ _ (by rw [List.length_set])]
  · have q1 : (0 : Int) < 2147483563 := by decide
    have q2 : (0 : Int) < 2147483629 := by decide
    have q3 : ((8191 : Int) ≠ 0 ∧ (8191 : Int).natAbs.log2 < 9000) := by decide +kernel
    have c1 : CMulW 99991 (e + 1) := Bd.c (j := 17) (k := 30) (by show (99991 : Int).natAbs < 2 ^ 17; decide) (bd_of (by omega) (by omega)) (by decide)
    have c2 : CMulW (b + 99991 * (e + 1)) 69621 := Bd.c (j := 60) (k := 17) (bd_of (by omega) (by omega)) (by show (69621 : Int).natAbs < 2 ^ 17; decide) (by decide)
    generalize hraw : ((b + 99991 * (e + 1)) * 69621 + 53) % 2147483563 = raw
    have r0 : 0 ≤ raw := by rw [← hraw]; exact Int.emod_nonneg _ (by decide)
    have r1 : raw < 2147483563 := by rw [← hraw]; exact Int.emod_lt_of_pos _ (by decide)
    have c3 : CMulW raw 40692 := Bd.c (j := 31) (k := 17) (bd_of (by omega) (by omega)) (by show (40692 : Int).natAbs < 2 ^ 17; decide) (by decide)
    have c4 : CMulW raw 2147483647 := Bd.c (j := 31) (k := 31) (bd_of (by omega) (by omega)) (by show (2147483647 : Int).natAbs < 2 ^ 31; decide) (by decide)
    have b0 : 0 ≤ (raw * 40692 + 27011) % 2147483629 + 1 := by have := Int.emod_nonneg (raw * 40692 + 27011) (b := 2147483629) (by decide); omega
    have b1 : (raw * 40692 + 27011) % 2147483629 + 1 < 2 ^ 31 := by have := Int.emod_lt_of_pos (raw * 40692 + 27011) (b := 2147483629) (by decide); omega
    refine ⟨((raw * 2147483647 + ((raw * 40692 + 27011) % 2147483629 + 1)).fdiv 8191) % k, [.int a, .int ((raw * 40692 + 27011) % 2147483629 + 1), .int (e + 1)], ?_, Int.emod_nonneg _ (by omega), Int.emod_lt_of_pos _ hk, a, _, e + 1, rfl, ha, b0, b1, by omega, by omega⟩
    simp only [Res.bind_ok, Res.bind_err, Res.bind_bad, Res.thenS_ok, Res.thenS_err, Res.thenS_bad, SRes.bind_nx, SRes.bind_rt, SRes.bind_err, SRes.bind_bk, SRes.bind_ct, SRes.bind_bad, Res.safe_ok, ev_iVar, ev_getR, ev_iK, ev_iNil, ev_iCons, ev_op, ev_call, ev_callK, ev_iTest, ev_testR, ev_iTru, ev_truR, ev_truB, ev_truN, ev_truI, ev_iAnd, ev_iOr, ev_iNot, ev_iAndV, ev_iOrV, ev_iNotV, ev_iIf, ev_iNeg, ev_negR, ev_iTup, ev_iLst, ev_iLstO, ev_addI, ev_subI, ev_ltI, ev_leI, ev_gtI, ev_geI, ev_eq, ev_ne, ev_blR, eqD_int, eqD_pair, Option.map_some, ev_isB, ev_isNotB, ev_ixT, ev_ixL, ev_ixR, ev_ixR1, ev_gSub, ev_gsR, ev_gsR2, ev_sNil, ev_sSeq, ev_sAsg, ev_asgR, ev_gNm, ev_sExpr, ev_sRet, ev_sRetN, ev_sBreak, ev_sCont, ev_sIf, ev_sRaise, ev_sPar, ev_parR, ev_sPar3, ev_par3R, ev_whR, ev_whC, ev_whB, ev_whT, ev_clo1, ev_cloB, List.getElem?_cons_zero, List.getElem?_cons_succ, List.set_cons_zero, List.set_cons_succ, List.length_cons, List.length_nil, if_true, if_false, Bool.false_eq_true, Bool.not_true, Bool.not_false, ev_ixO _ _ _ _ hc, at0, at1, at2, h, decide_false, ev_put hc ix32 (old_int _ _), ev_ixO _ _ _ _ (g1 _), ev_mulI _ _ _ c1, ev_mulI _ _ _ c2, ev_int, ev_modI _ _ _ q1, hraw, ev_mulI _ _ _ c3, ev_modI _ _ _ q2, ev_put (g1 [.int a, .int b, .int (e + 1)]) ix31 (old_int _ _), set2, ev_mulI _ _ _ c4, ev_divI _ _ _ q3, ev_modI _ _ _ hk]
    rw [ev_cloI _ _ _ (by rw [List.length_set])]
theorem pow_is (k : Nat) (v : Int) (hv : (10 : Int) ^ k = v) (hk : k ≤ 1000) (m : Mu) : oPow (.int 10) (.int (k : Int)) m = .ok (.int v) m := by
  rw [ev_powI _ _ _ ⟨by omega, by omega, by decide⟩]
  rw [Int.toNat_natCast, hv]
theorem pow6 (m : Mu) : oPow (.int 10) (.int 6) m = .ok (.int 1000000) m := pow_is 6 _ (by decide) (by decide) m
theorem pow12 (m : Mu) : oPow (.int 10) (.int 12) m = .ok (.int 1000000000000) m := pow_is 12 _ (by decide) (by decide) m
theorem pow18 (m : Mu) : oPow (.int 10) (.int 18) m = .ok (.int 1000000000000000000) m := pow_is 18 _ (by decide) (by decide) m
theorem pow20 (m : Mu) : oPow (.int 10) (.int 20) m = .ok (.int 100000000000000000000) m := pow_is 20 _ (by decide) (by decide) m
theorem setAt {m : Mu} {n : Nat} {c c' : List D} (hc : m[n]? = some c) : (m.set n c')[n]? = some c' := List.getElem?_set_self (List.getElem?_eq_some_iff.mp hc).1
theorem number_is {m : Mu} {n L : Nat} {c : List D} (hc : m[n]? = some c) (hb : Bx L c) (hL : L ≤ 900000) :
    ∃ d c', m__law_number [.loc n] m = .ok (.int d) (m.set n c') ∧ Bd 67 d ∧ Bx (L + 2) c' := by
  rw [ap__law_number]
  unfold b__law_number
  obtain ⟨d1, c1, e1, l1, u1, b1⟩ := take_is (k := 3) hc hb (by omega) (by decide) (by decide +kernel)
  by_cases h : d1 = 0
  · obtain ⟨d2, c2, e2, l2, u2, b2⟩ := take_is (k := 100000000000000000000) (setAt (c' := c1) hc) b1 (by omega) (by decide) (by decide +kernel)
    rw [set2] at e2
    refine ⟨d2 - 1000000000000, c2, ?_, by unfold Bd; omega, b2⟩
    simp only [Res.bind_ok, Res.bind_err, Res.bind_bad, Res.thenS_ok, Res.thenS_err, Res.thenS_bad, SRes.bind_nx, SRes.bind_rt, SRes.bind_err, SRes.bind_bk, SRes.bind_ct, SRes.bind_bad, Res.safe_ok, ev_iVar, ev_getR, ev_iK, ev_iNil, ev_iCons, ev_op, ev_call, ev_callK, ev_iTest, ev_testR, ev_iTru, ev_truR, ev_truB, ev_truN, ev_truI, ev_iAnd, ev_iOr, ev_iNot, ev_iAndV, ev_iOrV, ev_iNotV, ev_iIf, ev_iNeg, ev_negR, ev_iTup, ev_iLst, ev_iLstO, ev_addI, ev_subI, ev_ltI, ev_leI, ev_gtI, ev_geI, ev_eq, ev_ne, ev_blR, eqD_int, eqD_pair, Option.map_some, ev_isB, ev_isNotB, ev_ixT, ev_ixL, ev_ixR, ev_ixR1, ev_gSub, ev_gsR, ev_gsR2, ev_sNil, ev_sSeq, ev_sAsg, ev_asgR, ev_gNm, ev_sExpr, ev_sRet, ev_sRetN, ev_sBreak, ev_sCont, ev_sIf, ev_sRaise, ev_sPar, ev_parR, ev_sPar3, ev_par3R, ev_whR, ev_whC, ev_whB, ev_whT, ev_clo1, ev_cloB, List.getElem?_cons_zero, List.getElem?_cons_succ, List.set_cons_zero, List.set_cons_succ, List.length_cons, List.length_nil, if_true, if_false, Bool.false_eq_true, Bool.not_true, Bool.not_false, e1, h, decide_true, pow20, e2, pow12]
    rw [ev_cloI _ _ _ (by rw [List.length_set])]
  · obtain ⟨d2, c2, e2, l2, u2, b2⟩ := take_is (k := 19) (setAt (c' := c1) hc) b1 (by omega) (by decide) (by decide +kernel)
    rw [set2] at e2
    refine ⟨d2 - 9, c2, ?_, by unfold Bd; omega, b2⟩
    simp only [Res.bind_ok, Res.bind_err, Res.bind_bad, Res.thenS_ok, Res.thenS_err, Res.thenS_bad, SRes.bind_nx, SRes.bind_rt, SRes.bind_err, SRes.bind_bk, SRes.bind_ct, SRes.bind_bad, Res.safe_ok, ev_iVar, ev_getR, ev_iK, ev_iNil, ev_iCons, ev_op, ev_call, ev_callK, ev_iTest, ev_testR, ev_iTru, ev_truR, ev_truB, ev_truN, ev_truI, ev_iAnd, ev_iOr, ev_iNot, ev_iAndV, ev_iOrV, ev_iNotV, ev_iIf, ev_iNeg, ev_negR, ev_iTup, ev_iLst, ev_iLstO, ev_addI, ev_subI, ev_ltI, ev_leI, ev_gtI, ev_geI, ev_eq, ev_ne, ev_blR, eqD_int, eqD_pair, Option.map_some, ev_isB, ev_isNotB, ev_ixT, ev_ixL, ev_ixR, ev_ixR1, ev_gSub, ev_gsR, ev_gsR2, ev_sNil, ev_sSeq, ev_sAsg, ev_asgR, ev_gNm, ev_sExpr, ev_sRet, ev_sRetN, ev_sBreak, ev_sCont, ev_sIf, ev_sRaise, ev_sPar, ev_parR, ev_sPar3, ev_par3R, ev_whR, ev_whC, ev_whB, ev_whT, ev_clo1, ev_cloB, List.getElem?_cons_zero, List.getElem?_cons_succ, List.set_cons_zero, List.set_cons_succ, List.length_cons, List.length_nil, if_true, if_false, Bool.false_eq_true, Bool.not_true, Bool.not_false, e1, h, decide_false, e2]
    rw [ev_cloI _ _ _ (by rw [List.length_set])]
theorem ev_lenL (ds : List D) (m : Mu) : pLen [.lst ds] m = .ok (.int (ds.length : Int)) m := rfl
theorem ev_lenR (ds : List D) (m : Mu) : pLen [.rol ds] m = .ok (.int (ds.length : Int)) m := rfl
theorem pick_is {m : Mu} {n L : Nat} {c : List D} (hc : m[n]? = some c) (hb : Bx L c) (hL : L ≤ 900000) :
    ∃ d c', m__law_pick [.loc n, .lst [.int 1, .int 1, .int 2, .int 6, .int 1000000]] m = .ok (.int d) (m.set n c') ∧ 1 ≤ d ∧ d ≤ 1000000 ∧ Bx (L + 1) c' := by
  rw [ap__law_pick]
  unfold b__law_pick
  obtain ⟨d1, c1, e1, l1, u1, b1⟩ := take_is (k := 5) hc hb (by omega) (by decide) (by decide +kernel)
  have h5 : ((0 + 1 + 1 + 1 + 1 + 1 : Nat) : Int) = 5 := rfl
  have hd : d1 = 0 ∨ d1 = 1 ∨ d1 = 2 ∨ d1 = 3 ∨ d1 = 4 := by omega
  have hx : ∃ d, ([.int 1, .int 1, .int 2, .int 6, .int 1000000] : List D)[d1.toNat]? = some (.int d) ∧ 1 ≤ d ∧ d ≤ 1000000 := by
    rcases hd with rfl | rfl | rfl | rfl | rfl
    · exact ⟨1, rfl, by decide, by decide⟩
    · exact ⟨1, rfl, by decide, by decide⟩
    · exact ⟨2, rfl, by decide, by decide⟩
    · exact ⟨6, rfl, by decide, by decide⟩
    · exact ⟨1000000, rfl, by decide, by decide⟩
  obtain ⟨d, hx, hx1, hx2⟩ := hx
  refine ⟨d, c1, ?_, hx1, hx2, b1⟩
  simp only [Res.bind_ok, Res.bind_err, Res.bind_bad, Res.thenS_ok, Res.thenS_err, Res.thenS_bad, SRes.bind_nx, SRes.bind_rt, SRes.bind_err, SRes.bind_bk, SRes.bind_ct, SRes.bind_bad, Res.safe_ok, ev_iVar, ev_getR, ev_iK, ev_iNil, ev_iCons, ev_op, ev_call, ev_callK, ev_iTest, ev_testR, ev_iTru, ev_truR, ev_truB, ev_truN, ev_truI, ev_iAnd, ev_iOr, ev_iNot, ev_iAndV, ev_iOrV, ev_iNotV, ev_iIf, ev_iNeg, ev_negR, ev_iTup, ev_iLst, ev_iLstO, ev_addI, ev_subI, ev_ltI, ev_leI, ev_gtI, ev_geI, ev_eq, ev_ne, ev_blR, eqD_int, eqD_pair, Option.map_some, ev_isB, ev_isNotB, ev_ixT, ev_ixL, ev_ixR, ev_ixR1, ev_gSub, ev_gsR, ev_gsR2, ev_sNil, ev_sSeq, ev_sAsg, ev_asgR, ev_gNm, ev_sExpr, ev_sRet, ev_sRetN, ev_sBreak, ev_sCont, ev_sIf, ev_sRaise, ev_sPar, ev_parR, ev_sPar3, ev_par3R, ev_whR, ev_whC, ev_whB, ev_whT, ev_clo1, ev_cloB, List.getElem?_cons_zero, List.getElem?_cons_succ, List.set_cons_zero, List.set_cons_succ, List.length_cons, List.length_nil, if_true, if_false, Bool.false_eq_true, Bool.not_true, Bool.not_false, ev_lenL, h5, e1, atI_nn l1, hx]
  rw [ev_cloI _ _ _ (by rw [List.length_set])]
theorem pair_is {m : Mu} {n L : Nat} {c : List D} (hc : m[n]? = some c) (hb : Bx L c) (hL : L ≤ 800000) :
    ∃ t b c', m__law_pair [.loc n] m = .ok (pr t b) (m.set n c') ∧ b ≠ 0 ∧ Bd 87 t ∧ Bd 87 b ∧ Bx (L + 5) c' := by
  rw [ap__law_pair]
  unfold b__law_pair
  obtain ⟨d1, c1, e1, s1, b1⟩ := number_is hc hb (by omega)
  obtain ⟨d2, c2, e2, s2, b2⟩ := number_is (setAt (c' := c1) hc) b1 (by omega)
  rw [set2] at e2
  obtain ⟨d3, c3, e3, l3, u3, b3⟩ := pick_is (setAt (c' := c2) hc) b2 (by omega)
  rw [set2] at e3
  have s3 : Bd 20 d3 := bd_of (by omega) (by omega)
  have q1 : CMulW d1 d3 := s1.c s3 (by decide)
  have q2 : CMulW d3 d2 := s3.c s2 (by decide)
  have h5 : (0 + 1 + 1 + 1 + 1 + 1 : Nat) ≤ sizeLine := sz 5
  have h2 : (0 + 1 + 1 : Nat) ≤ sizeLine := sz 2
  by_cases h : d2 = 0
  · refine ⟨d1 * d3, d3, c3, ?_, by omega, (s1.mul s3).mono (by decide), s3.mono (by decide), b3⟩
    simp only [Res.bind_ok, Res.bind_err, Res.bind_bad, Res.thenS_ok, Res.thenS_err, Res.thenS_bad, SRes.bind_nx, SRes.bind_rt, SRes.bind_err, SRes.bind_bk, SRes.bind_ct, SRes.bind_bad, Res.safe_ok, ev_iVar, ev_getR, ev_iK, ev_iNil, ev_iCons, ev_op, ev_call, ev_callK, ev_iTest, ev_testR, ev_iTru, ev_truR, ev_truB, ev_truN, ev_truI, ev_iAnd, ev_iOr, ev_iNot, ev_iAndV, ev_iOrV, ev_iNotV, ev_iIf, ev_iNeg, ev_negR, ev_iTup, ev_iLst, ev_iLstO, ev_addI, ev_subI, ev_ltI, ev_leI, ev_gtI, ev_geI, ev_eq, ev_ne, ev_blR, eqD_int, eqD_pair, Option.map_some, ev_isB, ev_isNotB, ev_ixT, ev_ixL, ev_ixR, ev_ixR1, ev_gSub, ev_gsR, ev_gsR2, ev_sNil, ev_sSeq, ev_sAsg, ev_asgR, ev_gNm, ev_sExpr, ev_sRet, ev_sRetN, ev_sBreak, ev_sCont, ev_sIf, ev_sRaise, ev_sPar, ev_parR, ev_sPar3, ev_par3R, ev_whR, ev_whC, ev_whB, ev_whT, ev_clo1, ev_cloB, List.getElem?_cons_zero, List.getElem?_cons_succ, List.set_cons_zero, List.set_cons_succ, List.length_cons, List.length_nil, if_true, if_false, Bool.false_eq_true, Bool.not_true, Bool.not_false, e1, e2, pow6, h5, e3, ev_mulI _ _ _ q1, h, decide_true, h2]
    rw [ev_cloO _ _ _ (by rw [List.length_set]) rfl]
  · refine ⟨d1 * d3, d3 * d2, c3, ?_, Int.mul_ne_zero (by omega) h, (s1.mul s3).mono (by decide), (s3.mul s2).mono (by decide), b3⟩
    simp only [Res.bind_ok, Res.bind_err, Res.bind_bad, Res.thenS_ok, Res.thenS_err, Res.thenS_bad, SRes.bind_nx, SRes.bind_rt, SRes.bind_err, SRes.bind_bk, SRes.bind_ct, SRes.bind_bad, Res.safe_ok, ev_iVar, ev_getR, ev_iK, ev_iNil, ev_iCons, ev_op, ev_call, ev_callK, ev_iTest, ev_testR, ev_iTru, ev_truR, ev_truB, ev_truN, ev_truI, ev_iAnd, ev_iOr, ev_iNot, ev_iAndV, ev_iOrV, ev_iNotV, ev_iIf, ev_iNeg, ev_negR, ev_iTup, ev_iLst, ev_iLstO, ev_addI, ev_subI, ev_ltI, ev_leI, ev_gtI, ev_geI, ev_eq, ev_ne, ev_blR, eqD_int, eqD_pair, Option.map_some, ev_isB, ev_isNotB, ev_ixT, ev_ixL, ev_ixR, ev_ixR1, ev_gSub, ev_gsR, ev_gsR2, ev_sNil, ev_sSeq, ev_sAsg, ev_asgR, ev_gNm, ev_sExpr, ev_sRet, ev_sRetN, ev_sBreak, ev_sCont, ev_sIf, ev_sRaise, ev_sPar, ev_parR, ev_sPar3, ev_par3R, ev_whR, ev_whC, ev_whB, ev_whT, ev_clo1, ev_cloB, List.getElem?_cons_zero, List.getElem?_cons_succ, List.set_cons_zero, List.set_cons_succ, List.length_cons, List.length_nil, if_true, if_false, Bool.false_eq_true, Bool.not_true, Bool.not_false, e1, e2, pow6, h5, e3, ev_mulI _ _ _ q1, ev_mulI _ _ _ q2, h, decide_false, h2]
    rw [ev_cloO _ _ _ (by rw [List.length_set]) rfl]
theorem open_is {ds : List D} {m : Mu} (h : ds.length ≤ sizeLine) (ho : oldA m.length ds = true) : openL ds m = .ok (.loc m.length) (m ++ [ds]) := by
  unfold openL
  rw [if_pos ⟨h, ho⟩]
theorem ev_intB (b : Bool) (m : Mu) : pInt [.bl b] m = .ok (.int (if b then 1 else 0)) m := rfl
theorem box_is {m : Mu} {ns : List Int} {k : Nat} (hk : k ≤ 100) :
    ∃ c, m__law_box [.rol (ns.map D.int), .int (k : Int)] m = .ok (.loc m.length) (m ++ [c]) ∧ Bx 0 c := by
  rw [ap__law_box]
  unfold b__law_box
  have q1 : CMulW 7919 (k : Int) := Bd.c (j := 13) (k := 7) (by show (7919 : Int).natAbs < 2 ^ 13; decide) (bd_of (by omega) (by omega)) (by decide)
  have q4 : CMulW 61007 (k : Int) := Bd.c (j := 16) (k := 7) (by show (61007 : Int).natAbs < 2 ^ 16; decide) (bd_of (by omega) (by omega)) (by decide)
  have q2 : (0 : Int) < 2147483629 := by decide
  have h2 : (0 + 1 + 1 : Nat) ≤ sizeLine := sz 2
  -- what follows the cell
  have rest : ∀ cell : Int, 0 ≤ cell → ∃ c, ∀ m, opnR ((sRet (iLstO (iCons (iOp oIx (iLst (iCons (iK (.int 0)) (iCons (iVar 2) iNil))) (iCall pInt (iCons (iOp oGe (iVar 2) (iOp oPow (iK (.int 10)) (iK (.int 18)))) iNil))) (iCons (iOp oAdd (iOp oMod (iCall pInt (iCons (iOp oAdd (iOp oAdd (iOp oMul (iOp oMod (iCall pInt (iCons (iVar 2) iNil)) (iK (.int 2147483629))) (iK (.int 48271))) (iOp oMul (iK (.int 61007)) (iVar 1))) (iK (.int 977))) iNil)) (iK (.int 2147483629))) (iK (.int 1))) (iCons (iK (.int 0)) iNil))))) [some (.rol (ns.map D.int)), some (.int (k : Int)), some (.int cell)] m) = .ok (.loc m.length) (m ++ [c]) ∧ Bx 0 c := by
    intro cell h0
    have m0 : 0 ≤ cell % 2147483629 := Int.emod_nonneg _ (by decide)
    have m1 : cell % 2147483629 < 2147483629 := Int.emod_lt_of_pos _ (by decide)
    have q3 : CMulW (cell % 2147483629) 48271 := Bd.c (j := 31) (k := 16) (bd_of m0 (by omega)) (by show (48271 : Int).natAbs < 2 ^ 16; decide) (by decide)
    have b0 := Int.emod_nonneg (cell % 2147483629 * 48271 + 61007 * (k : Int) + 977) (b := 2147483629) (by decide)
    have b1 := Int.emod_lt_of_pos (cell % 2147483629 * 48271 + 61007 * (k : Int) + 977) (b := 2147483629) (by decide)
    by_cases h : (1000000000000000000 : Int) ≤ cell
    · refine ⟨[.int cell, .int ((cell % 2147483629 * 48271 + 61007 * (k : Int) + 977) % 2147483629 + 1), .int 0], fun m => ⟨?_, cell, _, 0, rfl, h0, by omega, by omega, by omega, by omega⟩⟩
      have ho := open_is (ds := [.int cell, .int ((cell % 2147483629 * 48271 + 61007 * (k : Int) + 977) % 2147483629 + 1), .int 0]) (m := m) (sz 3) rfl
      simp only [Res.bind_ok, Res.bind_err, Res.bind_bad, Res.thenS_ok, Res.thenS_err, Res.thenS_bad, SRes.bind_nx, SRes.bind_rt, SRes.bind_err, SRes.bind_bk, SRes.bind_ct, SRes.bind_bad, Res.safe_ok, ev_iVar, ev_getR, ev_iK, ev_iNil, ev_iCons, ev_op, ev_call, ev_callK, ev_iTest, ev_testR, ev_iTru, ev_truR, ev_truB, ev_truN, ev_truI, ev_iAnd, ev_iOr, ev_iNot, ev_iAndV, ev_iOrV, ev_iNotV, ev_iIf, ev_iNeg, ev_negR, ev_iTup, ev_iLst, ev_iLstO, ev_addI, ev_subI, ev_ltI, ev_leI, ev_gtI, ev_geI, ev_eq, ev_ne, ev_blR, eqD_int, eqD_pair, Option.map_some, ev_isB, ev_isNotB, ev_ixT, ev_ixL, ev_ixR, ev_ixR1, ev_gSub, ev_gsR, ev_gsR2, ev_sNil, ev_sSeq, ev_sAsg, ev_asgR, ev_gNm, ev_sExpr, ev_sRet, ev_sRetN, ev_sBreak, ev_sCont, ev_sIf, ev_sRaise, ev_sPar, ev_parR, ev_sPar3, ev_par3R, ev_whR, ev_whC, ev_whB, ev_whT, ev_clo1, ev_cloB, List.getElem?_cons_zero, List.getElem?_cons_succ, List.set_cons_zero, List.set_cons_succ, List.length_cons, List.length_nil, if_true, if_false, Bool.false_eq_true, Bool.not_true, Bool.not_false, h2, pow18, h, decide_true, ev_intB, at1, ev_int, ev_modI _ _ _ q2, ev_mulI _ _ _ q3, ev_mulI _ _ _ q4, ho]
      rfl
    · refine ⟨[.int 0, .int ((cell % 2147483629 * 48271 + 61007 * (k : Int) + 977) % 2147483629 + 1), .int 0], fun m => ⟨?_, 0, _, 0, rfl, by omega, by omega, by omega, by omega, by omega⟩⟩
      have ho := open_is (ds := [.int 0, .int ((cell % 2147483629 * 48271 + 61007 * (k : Int) + 977) % 2147483629 + 1), .int 0]) (m := m) (sz 3) rfl
      simp only [Res.bind_ok, Res.bind_err, Res.bind_bad, Res.thenS_ok, Res.thenS_err, Res.thenS_bad, SRes.bind_nx, SRes.bind_rt, SRes.bind_err, SRes.bind_bk, SRes.bind_ct, SRes.bind_bad, Res.safe_ok, ev_iVar, ev_getR, ev_iK, ev_iNil, ev_iCons, ev_op, ev_call, ev_callK, ev_iTest, ev_testR, ev_iTru, ev_truR, ev_truB, ev_truN, ev_truI, ev_iAnd, ev_iOr, ev_iNot, ev_iAndV, ev_iOrV, ev_iNotV, ev_iIf, ev_iNeg, ev_negR, ev_iTup, ev_iLst, ev_iLstO, ev_addI, ev_subI, ev_ltI, ev_leI, ev_gtI, ev_geI, ev_eq, ev_ne, ev_blR, eqD_int, eqD_pair, Option.map_some, ev_isB, ev_isNotB, ev_ixT, ev_ixL, ev_ixR, ev_ixR1, ev_gSub, ev_gsR, ev_gsR2, ev_sNil, ev_sSeq, ev_sAsg, ev_asgR, ev_gNm, ev_sExpr, ev_sRet, ev_sRetN, ev_sBreak, ev_sCont, ev_sIf, ev_sRaise, ev_sPar, ev_parR, ev_sPar3, ev_par3R, ev_whR, ev_whC, ev_whB, ev_whT, ev_clo1, ev_cloB, List.getElem?_cons_zero, List.getElem?_cons_succ, List.set_cons_zero, List.set_cons_succ, List.length_cons, List.length_nil, if_true, if_false, Bool.false_eq_true, Bool.not_true, Bool.not_false, h2, pow18, h, decide_false, ev_intB, at0, ev_int, ev_modI _ _ _ q2, ev_mulI _ _ _ q3, ev_mulI _ _ _ q4, ho]
      rfl
  by_cases h : (k : Int) < ((ns.map D.int).length : Int)
  · have hk2 : k < ns.length := by rw [List.length_map] at h; omega
    have hx : (ns.map D.int)[k]? = some (.int ns[k]) := by rw [List.getElem?_map, List.getElem?_eq_getElem hk2]; rfl
    obtain ⟨c, hc⟩ := rest (ns[k].natAbs : Int) (by omega)
    refine ⟨c, ?_, (hc m).2⟩
    rw [← (hc m).1]
    simp only [ev_sSeq]
    simp only [ev_sAsg, ev_sIf, ev_sNil, Res.bind_ok, Res.bind_err, Res.bind_bad, Res.thenS_ok, Res.thenS_err, Res.thenS_bad, SRes.bind_nx, SRes.bind_rt, SRes.bind_err, SRes.bind_bk, SRes.bind_ct, SRes.bind_bad, Res.safe_ok, ev_iVar, ev_getR, ev_iK, ev_iNil, ev_iCons, ev_op, ev_call, ev_callK, ev_iTest, ev_testR, ev_iTru, ev_truR, ev_truB, ev_truN, ev_truI, ev_iAnd, ev_iOr, ev_iNot, ev_iAndV, ev_iOrV, ev_iNotV, ev_iIf, ev_iNeg, ev_negR, ev_iTup, ev_iLst, ev_iLstO, ev_addI, ev_subI, ev_ltI, ev_leI, ev_gtI, ev_geI, ev_eq, ev_ne, ev_blR, eqD_int, eqD_pair, Option.map_some, ev_isB, ev_isNotB, ev_ixT, ev_ixL, ev_ixR, ev_ixR1, ev_gSub, ev_gsR, ev_gsR2, ev_sNil, ev_sSeq, ev_sAsg, ev_asgR, ev_gNm, ev_sExpr, ev_sRet, ev_sRetN, ev_sBreak, ev_sCont, ev_sIf, ev_sRaise, ev_sPar, ev_parR, ev_sPar3, ev_par3R, ev_whR, ev_whC, ev_whB, ev_whT, ev_clo1, ev_cloB, List.getElem?_cons_zero, List.getElem?_cons_succ, List.set_cons_zero, List.set_cons_succ, List.length_cons, List.length_nil, if_true, if_false, Bool.false_eq_true, Bool.not_true, Bool.not_false, ev_mulI _ _ _ q1, ev_lenR, h, decide_true, atI_nn (Int.natCast_nonneg k), Int.toNat_natCast, hx, ev_abs]
  · obtain ⟨c, hc⟩ := rest (7919 * (k : Int) + 61007) (by omega)
    refine ⟨c, ?_, (hc m).2⟩
    rw [← (hc m).1]
    simp only [ev_sSeq]
    simp only [ev_sAsg, ev_sIf, ev_sNil, Res.bind_ok, Res.bind_err, Res.bind_bad, Res.thenS_ok, Res.thenS_err, Res.thenS_bad, SRes.bind_nx, SRes.bind_rt, SRes.bind_err, SRes.bind_bk, SRes.bind_ct, SRes.bind_bad, Res.safe_ok, ev_iVar, ev_getR, ev_iK, ev_iNil, ev_iCons, ev_op, ev_call, ev_callK, ev_iTest, ev_testR, ev_iTru, ev_truR, ev_truB, ev_truN, ev_truI, ev_iAnd, ev_iOr, ev_iNot, ev_iAndV, ev_iOrV, ev_iNotV, ev_iIf, ev_iNeg, ev_negR, ev_iTup, ev_iLst, ev_iLstO, ev_addI, ev_subI, ev_ltI, ev_leI, ev_gtI, ev_geI, ev_eq, ev_ne, ev_blR, eqD_int, eqD_pair, Option.map_some, ev_isB, ev_isNotB, ev_ixT, ev_ixL, ev_ixR, ev_ixR1, ev_gSub, ev_gsR, ev_gsR2, ev_sNil, ev_sSeq, ev_sAsg, ev_asgR, ev_gNm, ev_sExpr, ev_sRet, ev_sRetN, ev_sBreak, ev_sCont, ev_sIf, ev_sRaise, ev_sPar, ev_parR, ev_sPar3, ev_par3R, ev_whR, ev_whC, ev_whB, ev_whT, ev_clo1, ev_cloB, List.getElem?_cons_zero, List.getElem?_cons_succ, List.set_cons_zero, List.set_cons_succ, List.length_cons, List.length_nil, if_true, if_false, Bool.false_eq_true, Bool.not_true, Bool.not_false, ev_mulI _ _ _ q1, ev_lenR, h, decide_false]
/-! ### operations on fractions in lowest terms -/
theorem frD_congr {t b t' b' : Int} (hb : b ≠ 0) (hb' : b' ≠ 0) (e : t * b' = t' * b) : frD t b = frD t' b' := by
  obtain ⟨h1, h2⟩ := fr_same hb hb' e
  unfold frD
  rw [h1, h2]
section
variable {a b c d : Int} (ha : Bd 2000 a) (hb : Bd 2000 b) (hc : Bd 2000 c) (hd : Bd 2000 d) (b0 : b ≠ 0) (d0 : d ≠ 0)
include ha hb hc hd b0 d0
theorem fB1 : Bd 4000 (nu a b) ∧ Bd 4000 (de a b) ∧ Bd 4000 (nu c d) ∧ Bd 4000 (de c d) ∧ de a b ≠ 0 ∧ de c d ≠ 0 :=
  ⟨(ha.of_le (nu_le b0)).mono (by decide), (hb.of_le (de_le b0)).mono (by decide), (hc.of_le (nu_le d0)).mono (by decide), (hd.of_le (de_le d0)).mono (by decide), by have := de_pos (t := a) b0; omega, by have := de_pos (t := c) d0; omega⟩
theorem plus_fr (m : Mu) : m_plus [frD a b, frD c d] m = .ok (frD (a * d + c * b) (b * d)) m := by
  obtain ⟨h1, h2, h3, h4, h5, h6⟩ := fB1 ha hb hc hd b0 d0
  refine (plus_is h1 h2 h3 h4 h5 h6 m).trans ?_
  rw [frD_congr (Int.mul_ne_zero h5 h6) (Int.mul_ne_zero b0 d0) (t' := a * d + c * b)]
  have e1 := nd_cross a b
  have e2 := nd_cross c d
  grind
theorem minus_fr (m : Mu) : m_minus [frD a b, frD c d] m = .ok (frD (a * d - c * b) (b * d)) m := by
  obtain ⟨h1, h2, h3, h4, h5, h6⟩ := fB1 ha hb hc hd b0 d0
  refine (minus_is h1 h2 h3 h4 h5 h6 m).trans ?_
  rw [frD_congr (Int.mul_ne_zero h5 h6) (Int.mul_ne_zero b0 d0) (t' := a * d - c * b)]
  have e1 := nd_cross a b
  have e2 := nd_cross c d
  grind
theorem times_fr (m : Mu) : m_times [frD a b, frD c d] m = .ok (frD (a * c) (b * d)) m := by
  obtain ⟨h1, h2, h3, h4, h5, h6⟩ := fB1 ha hb hc hd b0 d0
  refine (times_is h1 h2 h3 h4 h5 h6 m).trans ?_
  rw [frD_congr (Int.mul_ne_zero h5 h6) (Int.mul_ne_zero b0 d0) (t' := a * c)]
  have e1 := nd_cross a b
  have e2 := nd_cross c d
  grind
theorem nu_ne (c0 : c ≠ 0) : nu c d ≠ 0 := fun z => by
  have := nu_mul c d
  rw [z, Int.zero_mul] at this
  exact c0 this.symm
theorem ratio_fr (c0 : c ≠ 0) (m : Mu) : m_ratio [frD a b, frD c d] m = .ok (frD (a * d) (b * c)) m := by
  obtain ⟨h1, h2, h3, h4, h5, h6⟩ := fB1 ha hb hc hd b0 d0
  have h7 : nu c d ≠ 0 := nu_ne ha hb hc hd b0 d0 c0
  refine (ratio_is h1 h2 h3 h4 h5 h7 m).trans ?_
  rw [frD_congr (Int.mul_ne_zero h5 h7) (Int.mul_ne_zero b0 c0) (t' := a * d)]
  have e1 := nd_cross a b
  have e2 := nd_cross c d
  grind
theorem less_fr (m : Mu) : m_less [frD a b, frD c d] m = .ok (.bl (decide ((a * d - c * b) * b * d < 0))) m := by
  obtain ⟨h1, h2, h3, h4, h5, h6⟩ := fB1 ha hb hc hd b0 d0
  refine (less_is h1 h2 h3 h4 m).trans ?_
  have e1 := nd_cross a b
  have e2 := nd_cross c d
  have p1 := de_pos (t := a) b0
  have p2 := de_pos (t := c) d0
  have key : (nu a b * de c d - nu c d * de a b) * (b * b * (d * d)) = (de a b * de c d) * ((a * d - c * b) * b * d) := by grind
  have pb : 0 < b * b := by
    rcases Int.lt_or_gt_of_ne b0 with z | z
    · exact Int.mul_pos_of_neg_of_neg z z
    · exact Int.mul_pos z z
  have pd : 0 < d * d := by
    rcases Int.lt_or_gt_of_ne d0 with z | z
    · exact Int.mul_pos_of_neg_of_neg z z
    · exact Int.mul_pos z z
  have P1 : 0 < b * b * (d * d) := Int.mul_pos pb pd
  have P2 : 0 < de a b * de c d := Int.mul_pos p1 p2
  have iff : (nu a b * de c d < nu c d * de a b) ↔ ((a * d - c * b) * b * d < 0) := by
    generalize hX : nu a b * de c d - nu c d * de a b = X at key
    generalize (a * d - c * b) * b * d = Y at key
    have hx : (nu a b * de c d < nu c d * de a b) ↔ X < 0 := by omega
    rw [hx]
    constructor
    · intro h
      have h1 : X * (b * b * (d * d)) < 0 := Int.mul_neg_of_neg_of_pos h P1
      rw [key] at h1
      by_cases z : Y < 0
      · exact z
      · have := Int.mul_nonneg (Int.le_of_lt P2) (Int.not_lt.mp z)
        omega
    · intro h
      have h1 : (de a b * de c d) * Y < 0 := Int.mul_neg_of_pos_of_neg P2 h
      rw [← key] at h1
      by_cases z : X < 0
      · exact z
      · have := Int.mul_nonneg (Int.not_lt.mp z) (Int.le_of_lt P1)
        omega
  congr 2
  exact decide_eq_decide.mpr iff
end
theorem low1 : frD 0 1 = pr 0 1 := by
  obtain ⟨h1, h2⟩ := fr_low (p := 0) (q := 1) (by decide) (by decide)
  unfold frD
  rw [h1, h2]
/-! ### sums -/
abbrev acc (s f : Int × Int) : Int × Int := (s.1 * f.2 + f.1 * s.2, s.2 * f.2)
def sm (fs : List (Int × Int)) : Int × Int := fs.foldl acc (0, 1)
abbrev fD (f : Int × Int) : D := frD f.1 f.2
abbrev pD (f : Int × Int) : D := pr f.1 f.2
theorem sm_more {fs : List (Int × Int)} {j : Nat} {f : Int × Int} (h : fs[j]? = some f) : sm (fs.take (j + 1)) = acc (sm (fs.take j)) f := by
  unfold sm
  obtain ⟨hl, e⟩ := List.getElem?_eq_some_iff.mp h
  rw [List.take_succ, h, List.foldl_append]
  rfl
def okF (f : Int × Int) : Prop := f.2 ≠ 0 ∧ Bd 87 f.1 ∧ Bd 87 f.2
theorem sm_ok {fs : List (Int × Int)} (h : ∀ f ∈ fs, okF f) : ∀ j, j ≤ fs.length → (sm (fs.take j)).2 ≠ 0 ∧ Bd (88 * j + 1) (sm (fs.take j)).1 ∧ Bd (88 * j + 1) (sm (fs.take j)).2 := by
  intro j
  induction j with
  | zero =>
    intro _
    refine ⟨(by show (1 : Int) ≠ 0; decide), ?_, ?_⟩
    · exact Bd.zero _
    · exact Bd.one
  | succ j ih =>
    intro hj
    obtain ⟨h1, h2, h3⟩ := ih (by omega)
    have hx : fs[j]? = some fs[j] := List.getElem?_eq_getElem (by omega)
    obtain ⟨g1, g2, g3⟩ := h fs[j] (List.getElem_mem _)
    rw [sm_more hx]
    refine ⟨Int.mul_ne_zero h1 g1, ?_, (h3.mul g3).mono (by omega)⟩
    have := Bd.add (h2.mul g3) ((g2.mul h3).mono (k := 88 * j + 1 + 87) (by omega))
    exact this.mono (by omega)
theorem sum_is {fs : List (Int × Int)} (h : ∀ f ∈ fs, okF f) (hl : fs.length ≤ 20) (m : Mu) : m_sum_of [.tup (fs.map fD)] m = .ok (frD (sm fs).1 (sm fs).2) m := by
  rw [ap_sum_of]
  unfold b_sum_of
  simp only [Res.bind_ok, Res.bind_err, Res.bind_bad, Res.thenS_ok, Res.thenS_err, Res.thenS_bad, SRes.bind_nx, SRes.bind_rt, SRes.bind_err, SRes.bind_bk, SRes.bind_ct, SRes.bind_bad, Res.safe_ok, ev_iVar, ev_getR, ev_iK, ev_iNil, ev_iCons, ev_op, ev_call, ev_callK, ev_iTest, ev_testR, ev_iTru, ev_truR, ev_truB, ev_truN, ev_truI, ev_iAnd, ev_iOr, ev_iNot, ev_iAndV, ev_iOrV, ev_iNotV, ev_iIf, ev_iNeg, ev_negR, ev_iTup, ev_iLst, ev_iLstO, ev_addI, ev_subI, ev_ltI, ev_leI, ev_gtI, ev_geI, ev_eq, ev_ne, ev_blR, eqD_int, eqD_pair, Option.map_some, ev_isB, ev_isNotB, ev_ixT, ev_ixL, ev_ixR, ev_ixR1, ev_gSub, ev_gsR, ev_gsR2, ev_sNil, ev_sSeq, ev_sAsg, ev_asgR, ev_gNm, ev_sExpr, ev_sRet, ev_sRetN, ev_sBreak, ev_sCont, ev_sIf, ev_sRaise, ev_sPar, ev_parR, ev_sPar3, ev_par3R, ev_whR, ev_whC, ev_whB, ev_whT, ev_clo1, ev_cloB, List.getElem?_cons_zero, List.getElem?_cons_succ, List.set_cons_zero, List.set_cons_succ, List.length_cons, List.length_nil, if_true, if_false, Bool.false_eq_true, Bool.not_true, Bool.not_false]
  obtain ⟨r', m', e, q⟩ := for_inv (it := iItA (iVar 0)) (g := gNm 2) (b := sAsg (iCall m_plus (iCons (iVar 1) (iCons (iVar 2) iNil))) (gNm 1)) (r := [some (.tup (fs.map fD)), some (.tup [.int 0, .int 1]), none]) (m := m)
    (Q := fun j r m' => m' = m ∧ ∃ x, r = [some (.tup (fs.map fD)), some (frD (sm (fs.take j)).1 (sm (fs.take j)).2), x]) (ev_it1 _ _ _ _ rfl)
    ⟨rfl, none, by rw [List.take_zero]; show _ = [_, some (frD 0 1), _]; rw [low1]⟩ (fun j d r m' hj hq => by
      obtain ⟨rfl, x, rfl⟩ := hq
      rw [List.getElem?_map, Option.map_eq_some_iff] at hj
      obtain ⟨f, hf, rfl⟩ := hj
      have hjl := (List.getElem?_eq_some_iff.mp hf).1
      obtain ⟨g1, g2, g3⟩ := h f (List.mem_of_getElem? hf)
      obtain ⟨h1, h2, h3⟩ := sm_ok h j (by omega)
      refine ⟨_, _, rfl, _, _, ?_, rfl, some (fD f), rfl⟩
      have e := plus_fr (h2.mono (by omega)) (h3.mono (by omega)) (g2.mono (k := 2000) (by decide)) (g3.mono (k := 2000) (by decide)) h1 g1 m'
      simp only [Res.bind_ok, Res.bind_err, Res.bind_bad, Res.thenS_ok, Res.thenS_err, Res.thenS_bad, SRes.bind_nx, SRes.bind_rt, SRes.bind_err, SRes.bind_bk, SRes.bind_ct, SRes.bind_bad, Res.safe_ok, ev_iVar, ev_getR, ev_iK, ev_iNil, ev_iCons, ev_op, ev_call, ev_callK, ev_iTest, ev_testR, ev_iTru, ev_truR, ev_truB, ev_truN, ev_truI, ev_iAnd, ev_iOr, ev_iNot, ev_iAndV, ev_iOrV, ev_iNotV, ev_iIf, ev_iNeg, ev_negR, ev_iTup, ev_iLst, ev_iLstO, ev_addI, ev_subI, ev_ltI, ev_leI, ev_gtI, ev_geI, ev_eq, ev_ne, ev_blR, eqD_int, eqD_pair, Option.map_some, ev_isB, ev_isNotB, ev_ixT, ev_ixL, ev_ixR, ev_ixR1, ev_gSub, ev_gsR, ev_gsR2, ev_sNil, ev_sSeq, ev_sAsg, ev_asgR, ev_gNm, ev_sExpr, ev_sRet, ev_sRetN, ev_sBreak, ev_sCont, ev_sIf, ev_sRaise, ev_sPar, ev_parR, ev_sPar3, ev_par3R, ev_whR, ev_whC, ev_whB, ev_whT, ev_clo1, ev_cloB, List.getElem?_cons_zero, List.getElem?_cons_succ, List.set_cons_zero, List.set_cons_succ, List.length_cons, List.length_nil, if_true, if_false, Bool.false_eq_true, Bool.not_true, Bool.not_false, e]
      rw [sm_more hf])
  rw [e]
  obtain ⟨rfl, x, rfl⟩ := q
  rw [List.length_map, List.take_length]
  simp only [Res.bind_ok, Res.bind_err, Res.bind_bad, Res.thenS_ok, Res.thenS_err, Res.thenS_bad, SRes.bind_nx, SRes.bind_rt, SRes.bind_err, SRes.bind_bk, SRes.bind_ct, SRes.bind_bad, Res.safe_ok, ev_iVar, ev_getR, ev_iK, ev_iNil, ev_iCons, ev_op, ev_call, ev_callK, ev_iTest, ev_testR, ev_iTru, ev_truR, ev_truB, ev_truN, ev_truI, ev_iAnd, ev_iOr, ev_iNot, ev_iAndV, ev_iOrV, ev_iNotV, ev_iIf, ev_iNeg, ev_negR, ev_iTup, ev_iLst, ev_iLstO, ev_addI, ev_subI, ev_ltI, ev_leI, ev_gtI, ev_geI, ev_eq, ev_ne, ev_blR, eqD_int, eqD_pair, Option.map_some, ev_isB, ev_isNotB, ev_ixT, ev_ixL, ev_ixR, ev_ixR1, ev_gSub, ev_gsR, ev_gsR2, ev_sNil, ev_sSeq, ev_sAsg, ev_asgR, ev_gNm, ev_sExpr, ev_sRet, ev_sRetN, ev_sBreak, ev_sCont, ev_sIf, ev_sRaise, ev_sPar, ev_parR, ev_sPar3, ev_par3R, ev_whR, ev_whC, ev_whB, ev_whT, ev_clo1, ev_cloB, List.getElem?_cons_zero, List.getElem?_cons_succ, List.set_cons_zero, List.set_cons_succ, List.length_cons, List.length_nil, if_true, if_false, Bool.false_eq_true, Bool.not_true, Bool.not_false]
  rw [ev_cloO _ _ _ rfl rfl]
/-! ### refused -/
def tryR (i : Nat) (sub : Str → Option Bool) (f : MX) (x : SRes) : SRes := match x with
  | .err c fs r' m' => match sub c with
    | some true => if i < r'.length then (match f c fs with
      | some d => .rt d m'
      | none => .bad) else .bad
    | some false => .err c fs r' m'
    | none => .bad
  | x => x
theorem ev_sTry (i : Nat) (b : MS) (sub : Str → Option Bool) (f : MX) (r : Rho) (m : Mu) : sTry i b sub f r m = tryR i sub f (b r m) := rfl
theorem ratio_zero {p q : Int} (hp : Bd 4000 p) (hq : Bd 4000 q) (m : Mu) : m_ratio [pr p q, frD 0 5] m = .err "InvalidNumber" [("word", .str "bottom")] m := by
  obtain ⟨h1, h2⟩ := fr_same (t := 0) (b := 5) (t' := 0) (b' := 1) (by decide) (by decide) (by decide)
  obtain ⟨h3, h4⟩ := fr_low (p := 0) (q := 1) (by decide) (by decide)
  have e : frD 0 5 = pr 0 1 := by
    unfold frD
    rw [h1, h2, h3, h4]
  rw [e, ap_ratio]
  unfold b_ratio
  have c1 : CMulW p 1 := hp.c Bd.one (by decide)
  have c2 : CMulW q 0 := hq.c (Bd.zero 1) (by decide)
  simp only [Res.bind_ok, Res.bind_err, Res.bind_bad, Res.thenS_ok, Res.thenS_err, Res.thenS_bad, SRes.bind_nx, SRes.bind_rt, SRes.bind_err, SRes.bind_bk, SRes.bind_ct, SRes.bind_bad, Res.safe_ok, ev_iVar, ev_getR, ev_iK, ev_iNil, ev_iCons, ev_op, ev_call, ev_callK, ev_iTest, ev_testR, ev_iTru, ev_truR, ev_truB, ev_truN, ev_truI, ev_iAnd, ev_iOr, ev_iNot, ev_iAndV, ev_iOrV, ev_iNotV, ev_iIf, ev_iNeg, ev_negR, ev_iTup, ev_iLst, ev_iLstO, ev_addI, ev_subI, ev_ltI, ev_leI, ev_gtI, ev_geI, ev_eq, ev_ne, ev_blR, eqD_int, eqD_pair, Option.map_some, ev_isB, ev_isNotB, ev_ixT, ev_ixL, ev_ixR, ev_ixR1, ev_gSub, ev_gsR, ev_gsR2, ev_sNil, ev_sSeq, ev_sAsg, ev_asgR, ev_gNm, ev_sExpr, ev_sRet, ev_sRetN, ev_sBreak, ev_sCont, ev_sIf, ev_sRaise, ev_sPar, ev_parR, ev_sPar3, ev_par3R, ev_whR, ev_whC, ev_whB, ev_whT, ev_clo1, ev_cloB, List.getElem?_cons_zero, List.getElem?_cons_succ, List.set_cons_zero, List.set_cons_succ, List.length_cons, List.length_nil, if_true, if_false, Bool.false_eq_true, Bool.not_true, Bool.not_false, at0, at1, ev_mulI _ _ _ c1, ev_mulI _ _ _ c2, Int.mul_zero, fo_zero]
  rw [ev_cloE _ _ _ _ _ rfl rfl]
theorem refused_is {p q : Int} (hp : Bd 4000 p) (hq : Bd 4000 q) (b : Bool) (m : Mu) : m__law_refused [pr p q, .bl b] m = .ok (.bl true) m := by
  rw [ap__law_refused]
  unfold b__law_refused
  have h5 : (5 : Int) ≠ 0 := by decide
  have e5 := fun m => fo_is (t := 0) h5 (by decide +kernel) m
  have px : picks [0, 1] ([] ++ [D.int p, D.int 0]) = [.int p, .int 0] := rfl
  have p1 : ([] : List D).length = 0 ∧ [D.int p, D.int 0].length = 2 := ⟨rfl, rfl⟩
  have sb : subT [("InvalidNumber", true)] "InvalidNumber" = some true := by decide +kernel
  have fx : (xAnd (xIsi (subT [("InvalidNumber", true)])) (xAnd (xNot (xIsi (subT [("InvalidNumber", false)]))) (xEq (xFld (fun c => decide (c ∈ (["InvalidNumber"] : List Str))) "word") (.str "bottom")))) "InvalidNumber" [("word", D.str "bottom")] = some (D.bl true) := by
    have sb2 : subT [("InvalidNumber", false)] "InvalidNumber" = some false := by decide +kernel
    have sw : List.lookup ("word" : Str) [(("word" : Str), D.str "bottom")] = some (D.str "bottom") := by simp [List.lookup]
    have eq : eqP (.str "bottom") (.str "bottom") = some true := by
      show (if SeqAt.shaped (.str "bottom") = true ∧ SeqAt.shaped (.str "bottom") = true then some (PyData.eqv (.str "bottom") (.str "bottom")) else none) = some true
      rw [if_pos ⟨by decide +kernel, by decide +kernel⟩]
      simp [PyData.eqv]
    simp only [xAnd, xIsi, xNot, xEq, xFld, sb, sb2, Option.map_some, Option.bind_some, List.mem_singleton, decide_true, if_true, sw, eq, Bool.not_false]
  cases b with
  | true =>
    simp only [ev_sTry, Res.bind_ok, Res.bind_err, Res.bind_bad, Res.thenS_ok, Res.thenS_err, Res.thenS_bad, SRes.bind_nx, SRes.bind_rt, SRes.bind_err, SRes.bind_bk, SRes.bind_ct, SRes.bind_bad, Res.safe_ok, ev_iVar, ev_getR, ev_iK, ev_iNil, ev_iCons, ev_op, ev_call, ev_callK, ev_iTest, ev_testR, ev_iTru, ev_truR, ev_truB, ev_truN, ev_truI, ev_iAnd, ev_iOr, ev_iNot, ev_iAndV, ev_iOrV, ev_iNotV, ev_iIf, ev_iNeg, ev_negR, ev_iTup, ev_iLst, ev_iLstO, ev_addI, ev_subI, ev_ltI, ev_leI, ev_gtI, ev_geI, ev_eq, ev_ne, ev_blR, eqD_int, eqD_pair, Option.map_some, ev_isB, ev_isNotB, ev_ixT, ev_ixL, ev_ixR, ev_ixR1, ev_gSub, ev_gsR, ev_gsR2, ev_sNil, ev_sSeq, ev_sAsg, ev_asgR, ev_gNm, ev_sExpr, ev_sRet, ev_sRetN, ev_sBreak, ev_sCont, ev_sIf, ev_sRaise, ev_sPar, ev_parR, ev_sPar3, ev_par3R, ev_whR, ev_whC, ev_whB, ev_whT, ev_clo1, ev_cloB, List.getElem?_cons_zero, List.getElem?_cons_succ, List.set_cons_zero, List.set_cons_succ, List.length_cons, List.length_nil, if_true, if_false, Bool.false_eq_true, Bool.not_true, Bool.not_false, e5, ratio_zero hp hq]
    simp only [tryR, sb, Res.bind_ok, Res.bind_err, Res.bind_bad, Res.thenS_ok, Res.thenS_err, Res.thenS_bad, SRes.bind_nx, SRes.bind_rt, SRes.bind_err, SRes.bind_bk, SRes.bind_ct, SRes.bind_bad, Res.safe_ok, ev_iVar, ev_getR, ev_iK, ev_iNil, ev_iCons, ev_op, ev_call, ev_callK, ev_iTest, ev_testR, ev_iTru, ev_truR, ev_truB, ev_truN, ev_truI, ev_iAnd, ev_iOr, ev_iNot, ev_iAndV, ev_iOrV, ev_iNotV, ev_iIf, ev_iNeg, ev_negR, ev_iTup, ev_iLst, ev_iLstO, ev_addI, ev_subI, ev_ltI, ev_leI, ev_gtI, ev_geI, ev_eq, ev_ne, ev_blR, eqD_int, eqD_pair, Option.map_some, ev_isB, ev_isNotB, ev_ixT, ev_ixL, ev_ixR, ev_ixR1, ev_gSub, ev_gsR, ev_gsR2, ev_sNil, ev_sSeq, ev_sAsg, ev_asgR, ev_gNm, ev_sExpr, ev_sRet, ev_sRetN, ev_sBreak, ev_sCont, ev_sIf, ev_sRaise, ev_sPar, ev_parR, ev_sPar3, ev_par3R, ev_whR, ev_whC, ev_whB, ev_whT, ev_clo1, ev_cloB, List.getElem?_cons_zero, List.getElem?_cons_succ, List.set_cons_zero, List.set_cons_succ, List.length_cons, List.length_nil, if_true, if_false, Bool.false_eq_true, Bool.not_true, Bool.not_false, Nat.lt_irrefl, fx]
    simp only [show 2 < 0 + 1 + 1 + 1 from by decide, if_true, Res.bind_ok, Res.bind_err, Res.bind_bad, Res.thenS_ok, Res.thenS_err, Res.thenS_bad, SRes.bind_nx, SRes.bind_rt, SRes.bind_err, SRes.bind_bk, SRes.bind_ct, SRes.bind_bad, Res.safe_ok, ev_iVar, ev_getR, ev_iK, ev_iNil, ev_iCons, ev_op, ev_call, ev_callK, ev_iTest, ev_testR, ev_iTru, ev_truR, ev_truB, ev_truN, ev_truI, ev_iAnd, ev_iOr, ev_iNot, ev_iAndV, ev_iOrV, ev_iNotV, ev_iIf, ev_iNeg, ev_negR, ev_iTup, ev_iLst, ev_iLstO, ev_addI, ev_subI, ev_ltI, ev_leI, ev_gtI, ev_geI, ev_eq, ev_ne, ev_blR, eqD_int, eqD_pair, Option.map_some, ev_isB, ev_isNotB, ev_ixT, ev_ixL, ev_ixR, ev_ixR1, ev_gSub, ev_gsR, ev_gsR2, ev_sNil, ev_sSeq, ev_sAsg, ev_asgR, ev_gNm, ev_sExpr, ev_sRet, ev_sRetN, ev_sBreak, ev_sCont, ev_sIf, ev_sRaise, ev_sPar, ev_parR, ev_sPar3, ev_par3R, ev_whR, ev_whC, ev_whB, ev_whT, ev_clo1, ev_cloB, List.getElem?_cons_zero, List.getElem?_cons_succ, List.set_cons_zero, List.set_cons_succ, List.length_cons, List.length_nil, if_true, if_false, Bool.false_eq_true, Bool.not_true, Bool.not_false]
  | false =>
    simp only [ev_sTry, Res.bind_ok, Res.bind_err, Res.bind_bad, Res.thenS_ok, Res.thenS_err, Res.thenS_bad, SRes.bind_nx, SRes.bind_rt, SRes.bind_err, SRes.bind_bk, SRes.bind_ct, SRes.bind_bad, Res.safe_ok, ev_iVar, ev_getR, ev_iK, ev_iNil, ev_iCons, ev_op, ev_call, ev_callK, ev_iTest, ev_testR, ev_iTru, ev_truR, ev_truB, ev_truN, ev_truI, ev_iAnd, ev_iOr, ev_iNot, ev_iAndV, ev_iOrV, ev_iNotV, ev_iIf, ev_iNeg, ev_negR, ev_iTup, ev_iLst, ev_iLstO, ev_addI, ev_subI, ev_ltI, ev_leI, ev_gtI, ev_geI, ev_eq, ev_ne, ev_blR, eqD_int, eqD_pair, Option.map_some, ev_isB, ev_isNotB, ev_ixT, ev_ixL, ev_ixR, ev_ixR1, ev_gSub, ev_gsR, ev_gsR2, ev_sNil, ev_sSeq, ev_sAsg, ev_asgR, ev_gNm, ev_sExpr, ev_sRet, ev_sRetN, ev_sBreak, ev_sCont, ev_sIf, ev_sRaise, ev_sPar, ev_parR, ev_sPar3, ev_par3R, ev_whR, ev_whC, ev_whB, ev_whT, ev_clo1, ev_cloB, List.getElem?_cons_zero, List.getElem?_cons_succ, List.set_cons_zero, List.set_cons_succ, List.length_cons, List.length_nil, if_true, if_false, Bool.false_eq_true, Bool.not_true, Bool.not_false, at0, ev_callK, p1, and_self, if_true, px, fo_zero]
    simp only [tryR, sb, Res.bind_ok, Res.bind_err, Res.bind_bad, Res.thenS_ok, Res.thenS_err, Res.thenS_bad, SRes.bind_nx, SRes.bind_rt, SRes.bind_err, SRes.bind_bk, SRes.bind_ct, SRes.bind_bad, Res.safe_ok, ev_iVar, ev_getR, ev_iK, ev_iNil, ev_iCons, ev_op, ev_call, ev_callK, ev_iTest, ev_testR, ev_iTru, ev_truR, ev_truB, ev_truN, ev_truI, ev_iAnd, ev_iOr, ev_iNot, ev_iAndV, ev_iOrV, ev_iNotV, ev_iIf, ev_iNeg, ev_negR, ev_iTup, ev_iLst, ev_iLstO, ev_addI, ev_subI, ev_ltI, ev_leI, ev_gtI, ev_geI, ev_eq, ev_ne, ev_blR, eqD_int, eqD_pair, Option.map_some, ev_isB, ev_isNotB, ev_ixT, ev_ixL, ev_ixR, ev_ixR1, ev_gSub, ev_gsR, ev_gsR2, ev_sNil, ev_sSeq, ev_sAsg, ev_asgR, ev_gNm, ev_sExpr, ev_sRet, ev_sRetN, ev_sBreak, ev_sCont, ev_sIf, ev_sRaise, ev_sPar, ev_parR, ev_sPar3, ev_par3R, ev_whR, ev_whC, ev_whB, ev_whT, ev_clo1, ev_cloB, List.getElem?_cons_zero, List.getElem?_cons_succ, List.set_cons_zero, List.set_cons_succ, List.length_cons, List.length_nil, if_true, if_false, Bool.false_eq_true, Bool.not_true, Bool.not_false, fx]
    simp only [show 2 < 0 + 1 + 1 + 1 from by decide, if_true, Res.bind_ok, Res.bind_err, Res.bind_bad, Res.thenS_ok, Res.thenS_err, Res.thenS_bad, SRes.bind_nx, SRes.bind_rt, SRes.bind_err, SRes.bind_bk, SRes.bind_ct, SRes.bind_bad, Res.safe_ok, ev_iVar, ev_getR, ev_iK, ev_iNil, ev_iCons, ev_op, ev_call, ev_callK, ev_iTest, ev_testR, ev_iTru, ev_truR, ev_truB, ev_truN, ev_truI, ev_iAnd, ev_iOr, ev_iNot, ev_iAndV, ev_iOrV, ev_iNotV, ev_iIf, ev_iNeg, ev_negR, ev_iTup, ev_iLst, ev_iLstO, ev_addI, ev_subI, ev_ltI, ev_leI, ev_gtI, ev_geI, ev_eq, ev_ne, ev_blR, eqD_int, eqD_pair, Option.map_some, ev_isB, ev_isNotB, ev_ixT, ev_ixL, ev_ixR, ev_ixR1, ev_gSub, ev_gsR, ev_gsR2, ev_sNil, ev_sSeq, ev_sAsg, ev_asgR, ev_gNm, ev_sExpr, ev_sRet, ev_sRetN, ev_sBreak, ev_sCont, ev_sIf, ev_sRaise, ev_sPar, ev_parR, ev_sPar3, ev_par3R, ev_whR, ev_whC, ev_whB, ev_whT, ev_clo1, ev_cloB, List.getElem?_cons_zero, List.getElem?_cons_succ, List.set_cons_zero, List.set_cons_succ, List.length_cons, List.length_nil, if_true, if_false, Bool.false_eq_true, Bool.not_true, Bool.not_false]
end K44

namespace K44
open PySem PySem.Spec PyProof.Rows L2 Mr
theorem ev_addL (xs ys : List D) (m : Mu) (h : xs.length + ys.length ≤ sizeLine) : oAdd (.lst xs) (.lst ys) m = .ok (.lst (xs ++ ys)) m := by
  show (if xs.length + ys.length ≤ sizeLine then _ else _) = _
  rw [if_pos h]
theorem almost_is {m : Mu} {n L : Nat} {c : List D} {p q : Int} (hc : m[n]? = some c) (hb : Bx L c) (hL : L ≤ 800000) (hp : Bd 4000 p) (hq : Bd 4000 q) :
    ∃ ds c', m__law_almost [.loc n, pr p q] m = .ok (.lst ds) (m.set n c') ∧ ds.length ≤ 1000 ∧ ∀ d ∈ ds, plainD d = true := by
  rw [ap__law_almost]
  unfold b__law_almost
  obtain ⟨d1, c1, e1, l1, u1, b1⟩ := take_is (k := 3) hc hb (by omega) (by decide) (by decide +kernel)
  have sd : Bd 10 (2 + d1) := bd_of (by omega) (by omega)
  have q1 : CMulW p (2 + d1) := hp.c sd (by decide)
  have q2 : CMulW q (2 + d1) := hq.c sd (by decide)
  have z0 : (0 : Nat) ≤ sizeLine := sz 0
  have z1 : (0 + 1 : Nat) ≤ sizeLine := sz 1
  have z2 : (0 + 1 + 1 : Nat) ≤ sizeLine := sz 2
  have z3 : (0 + 1 + 1 + 1 : Nat) ≤ sizeLine := sz 3
  have z7 : (0 + 1 + 1 + 1 + 1 + 1 + 1 + 1 : Nat) ≤ sizeLine := sz 7
  have z9 : (0 + 1 + 1 + 1 + 1 + 1 + 1 + 1 + 1 + 1 : Nat) ≤ sizeLine := sz 9
  have z16 : (0 + 1 + 1 + 1 + 1 + 1 + 1 + 1 + (0 + 1 + 1 + 1 + 1 + 1 + 1 + 1 + 1 + 1) : Nat) ≤ sizeLine := sz 16
  refine ⟨[pr p q, pr (p * (2 + d1)) (q * (2 + d1)), pr p (0 - q), pr (0 - p) (0 - q), pr 0 1, pr 0 (2 + d1), pr 0 0] ++ [.lst [.int p, .int q], .tup [.int p, .int q, .int 1], .tup [.int p], .tup [], pr p 0, .tup [.bl true, .int 1], .tup [.int 1, .bl true], pr (2 + d1) 1, pr (2 + d1) (2 + d1)] ++ [.non, .int p, .str "1/2", .tup [.str "1", .int 2], .tup [.non, .int 1], .tup [.int p, .non], .tup [pr p q, .int 1], pr (0 - 1) 1, pr (2 + d1) (2 + d1 + 1)], c1, ?_, (by show (25 : Nat) ≤ 1000; decide), ?_⟩
  · simp only [Res.bind_ok, Res.bind_err, Res.bind_bad, Res.thenS_ok, Res.thenS_err, Res.thenS_bad, SRes.bind_nx, SRes.bind_rt, SRes.bind_err, SRes.bind_bk, SRes.bind_ct, SRes.bind_bad, Res.safe_ok, ev_iVar, ev_getR, ev_iK, ev_iNil, ev_iCons, ev_op, ev_call, ev_callK, ev_iTest, ev_testR, ev_iTru, ev_truR, ev_truB, ev_truN, ev_truI, ev_iAnd, ev_iOr, ev_iNot, ev_iAndV, ev_iOrV, ev_iNotV, ev_iIf, ev_iNeg, ev_negR, ev_iTup, ev_iLst, ev_iLstO, ev_addI, ev_subI, ev_ltI, ev_leI, ev_gtI, ev_geI, ev_eq, ev_ne, ev_blR, eqD_int, eqD_pair, Option.map_some, ev_isB, ev_isNotB, ev_ixT, ev_ixL, ev_ixR, ev_ixR1, ev_gSub, ev_gsR, ev_gsR2, ev_sNil, ev_sSeq, ev_sAsg, ev_asgR, ev_gNm, ev_sExpr, ev_sRet, ev_sRetN, ev_sBreak, ev_sCont, ev_sIf, ev_sRaise, ev_sPar, ev_parR, ev_sPar3, ev_par3R, ev_whR, ev_whC, ev_whB, ev_whT, ev_clo1, ev_cloB, List.getElem?_cons_zero, List.getElem?_cons_succ, List.set_cons_zero, List.set_cons_succ, List.length_cons, List.length_nil, if_true, if_false, Bool.false_eq_true, Bool.not_true, Bool.not_false, at0, at1, e1, ev_mulI _ _ _ q1, ev_mulI _ _ _ q2, z0, z1, z2, z3, z7, z9]
    rw [ev_addL]
    · simp only [Res.bind_ok, Res.bind_err, Res.bind_bad, Res.thenS_ok, Res.thenS_err, Res.thenS_bad, SRes.bind_nx, SRes.bind_rt, SRes.bind_err, SRes.bind_bk, SRes.bind_ct, SRes.bind_bad, Res.safe_ok, ev_iVar, ev_getR, ev_iK, ev_iNil, ev_iCons, ev_op, ev_call, ev_callK, ev_iTest, ev_testR, ev_iTru, ev_truR, ev_truB, ev_truN, ev_truI, ev_iAnd, ev_iOr, ev_iNot, ev_iAndV, ev_iOrV, ev_iNotV, ev_iIf, ev_iNeg, ev_negR, ev_iTup, ev_iLst, ev_iLstO, ev_addI, ev_subI, ev_ltI, ev_leI, ev_gtI, ev_geI, ev_eq, ev_ne, ev_blR, eqD_int, eqD_pair, Option.map_some, ev_isB, ev_isNotB, ev_ixT, ev_ixL, ev_ixR, ev_ixR1, ev_gSub, ev_gsR, ev_gsR2, ev_sNil, ev_sSeq, ev_sAsg, ev_asgR, ev_gNm, ev_sExpr, ev_sRet, ev_sRetN, ev_sBreak, ev_sCont, ev_sIf, ev_sRaise, ev_sPar, ev_parR, ev_sPar3, ev_par3R, ev_whR, ev_whC, ev_whB, ev_whT, ev_clo1, ev_cloB, List.getElem?_cons_zero, List.getElem?_cons_succ, List.set_cons_zero, List.set_cons_succ, List.length_cons, List.length_nil, if_true, if_false, Bool.false_eq_true, Bool.not_true, Bool.not_false, z0, z1, z2, z3, z7, z9]
      rw [ev_addL]
      · simp only [Res.bind_ok, Res.bind_err, Res.bind_bad, Res.thenS_ok, Res.thenS_err, Res.thenS_bad, SRes.bind_nx, SRes.bind_rt, SRes.bind_err, SRes.bind_bk, SRes.bind_ct, SRes.bind_bad, Res.safe_ok, ev_iVar, ev_getR, ev_iK, ev_iNil, ev_iCons, ev_op, ev_call, ev_callK, ev_iTest, ev_testR, ev_iTru, ev_truR, ev_truB, ev_truN, ev_truI, ev_iAnd, ev_iOr, ev_iNot, ev_iAndV, ev_iOrV, ev_iNotV, ev_iIf, ev_iNeg, ev_negR, ev_iTup, ev_iLst, ev_iLstO, ev_addI, ev_subI, ev_ltI, ev_leI, ev_gtI, ev_geI, ev_eq, ev_ne, ev_blR, eqD_int, eqD_pair, Option.map_some, ev_isB, ev_isNotB, ev_ixT, ev_ixL, ev_ixR, ev_ixR1, ev_gSub, ev_gsR, ev_gsR2, ev_sNil, ev_sSeq, ev_sAsg, ev_asgR, ev_gNm, ev_sExpr, ev_sRet, ev_sRetN, ev_sBreak, ev_sCont, ev_sIf, ev_sRaise, ev_sPar, ev_parR, ev_sPar3, ev_par3R, ev_whR, ev_whC, ev_whB, ev_whT, ev_clo1, ev_cloB, List.getElem?_cons_zero, List.getElem?_cons_succ, List.set_cons_zero, List.set_cons_succ, List.length_cons, List.length_nil, if_true, if_false, Bool.false_eq_true, Bool.not_true, Bool.not_false]
        rw [ev_cloO _ _ _ (by rw [List.length_set]) rfl]
      · exact sz 25
    · exact sz 16
  · intro d hd
    simp only [List.mem_append, List.mem_cons, List.not_mem_nil, or_false] at hd
    rcases hd with (hd | hd) | hd
    · rcases hd with rfl | rfl | rfl | rfl | rfl | rfl | rfl <;> rfl
    · rcases hd with rfl | rfl | rfl | rfl | rfl | rfl | rfl | rfl | rfl <;> rfl
    · rcases hd with rfl | rfl | rfl | rfl | rfl | rfl | rfl | rfl | rfl <;> rfl
theorem eqD_fr (t b : Int) (m : Mu) : eqD m (frD t b) (frD t b) = some true := by
  unfold frD
  rw [eqD_pair]
  simp
theorem eqD_bl (b c : Bool) (m : Mu) : eqD m (.bl b) (.bl c) = some (b == c) := by
  show (if SeqAt.shaped (.bool b) = true ∧ SeqAt.shaped (.bool c) = true then some (PyData.eqv (.bool b) (.bool c)) else none) = _
  cases b <;> cases c <;> rfl
theorem same_fr {t b : Int} (b0 : b ≠ 0) (ht : Bd 4000 t) (hb : Bd 4000 b) (m : Mu) : m__law_same [frD t b, pr t b] m = .ok (.bl true) m :=
  same_is b0 ht hb ht hb (nd_cross t b) m
/-- one turn -/
theorem rest_is {m : Mu} {n L : Nat} {c : List D} (hc : m[n]? = some c) (hb : Bx L c) (hL : L ≤ 700000) {r : Rho} (hr : r.length = 17) (h2 : r[2]? = some (some (.loc n))) :
    ∃ (fs : List (Int × Int)) (c' : List D), iLc (iItR1 (iCons (iCall m__law_take (iCons (iVar 2) (iCons (iK (.int 7)) iNil))) iNil)) [15] (gNm 15) tYesM (iCall m__law_pair (iCons (iVar 2) iNil)) r m = .ok (.lst (fs.map pD)) (m.set n c') ∧
      (∀ f ∈ fs, okF f) ∧ fs.length ≤ 6 ∧ Bx (L + 100) c' := by
  obtain ⟨d1, c1, e1, l1, u1, b1⟩ := take_is (k := 7) hc hb (by omega) (by decide) (by decide +kernel)
  have hrg : -(2 ^ 62) ≤ d1 ∧ d1 < 2 ^ 62 := by omega
  have hit : iItR1 (iCons (iCall m__law_take (iCons (iVar 2) (iCons (iK (.int 7)) iNil))) iNil) r m = .ok (rangeD 0 d1.toNat, none) (m.set n c1) := by
    unfold iItR1
    simp only [Res.bind_ok, Res.bind_err, Res.bind_bad, Res.thenS_ok, Res.thenS_err, Res.thenS_bad, SRes.bind_nx, SRes.bind_rt, SRes.bind_err, SRes.bind_bk, SRes.bind_ct, SRes.bind_bad, Res.safe_ok, ev_iVar, ev_getR, ev_iK, ev_iNil, ev_iCons, ev_op, ev_call, ev_callK, ev_iTest, ev_testR, ev_iTru, ev_truR, ev_truB, ev_truN, ev_truI, ev_iAnd, ev_iOr, ev_iNot, ev_iAndV, ev_iOrV, ev_iNotV, ev_iIf, ev_iNeg, ev_negR, ev_iTup, ev_iLst, ev_iLstO, ev_addI, ev_subI, ev_ltI, ev_leI, ev_gtI, ev_geI, ev_eq, ev_ne, ev_blR, eqD_int, eqD_pair, Option.map_some, ev_isB, ev_isNotB, ev_ixT, ev_ixL, ev_ixR, ev_ixR1, ev_gSub, ev_gsR, ev_gsR2, ev_sNil, ev_sSeq, ev_sAsg, ev_asgR, ev_gNm, ev_sExpr, ev_sRet, ev_sRetN, ev_sBreak, ev_sCont, ev_sIf, ev_sRaise, ev_sPar, ev_parR, ev_sPar3, ev_par3R, ev_whR, ev_whC, ev_whB, ev_whT, ev_clo1, ev_cloB, List.getElem?_cons_zero, List.getElem?_cons_succ, List.set_cons_zero, List.set_cons_succ, List.length_cons, List.length_nil, if_true, if_false, Bool.false_eq_true, Bool.not_true, Bool.not_false, h2, e1]
    rw [if_pos hrg]
  have hlen : (rangeD 0 d1.toNat).length = d1.toNat := by unfold rangeD; rw [List.length_map, List.length_range]
  have hlt : n < m.length := (List.getElem?_eq_some_iff.mp hc).1
  obtain ⟨acc, b', e2, ⟨fs, c', rfl, hok, hset, hbx⟩, e4, e5⟩ := lc_inv (e := iCall m__law_pair (iCons (iVar 2) iNil)) (i := 15) (Q := fun acc b => ∃ (fs : List (Int × Int)) (c' : List D), acc = fs.map pD ∧ (∀ f ∈ fs, okF f) ∧ b = m.set n c' ∧ Bx (L + 1 + 5 * acc.length) c') hit (by rw [hlen]; exact Nat.le_trans (by omega : d1.toNat ≤ 10) (sz 10))
    ⟨[], c1, rfl, (fun _ h => nomatch h), rfl, b1⟩ (fun acc b d hq hal hbl hd => by
      obtain ⟨fs, c2, rfl, hok, rfl, hbx⟩ := hq
      rw [hlen] at hal
      have hg : (m.set n c2 ++ [fs.map pD])[n]? = some c2 := by
        rw [List.getElem?_append_left (by rw [List.length_set]; exact hlt)]
        exact setAt hc
      obtain ⟨t, b, c3, e3, h0, s1, s2, b3⟩ := pair_is hg hbx (by omega)
      refine ⟨pr t b, m.set n c3, ?_, by rw [List.length_set, List.length_set], rfl, fs ++ [(t, b)], c3, by rw [List.map_append]; rfl, ?_, rfl, ?_⟩
      · have h2' : ((wipeR r [15]).set 15 (some d))[2]? = some (some (.loc n)) := by
          rw [List.getElem?_set_ne (by decide)]
          show (r.set 15 none)[2]? = _
          rw [List.getElem?_set_ne (by decide)]
          exact h2
        simp only [Res.bind_ok, Res.bind_err, Res.bind_bad, Res.thenS_ok, Res.thenS_err, Res.thenS_bad, SRes.bind_nx, SRes.bind_rt, SRes.bind_err, SRes.bind_bk, SRes.bind_ct, SRes.bind_bad, Res.safe_ok, ev_iVar, ev_getR, ev_iK, ev_iNil, ev_iCons, ev_op, ev_call, ev_callK, ev_iTest, ev_testR, ev_iTru, ev_truR, ev_truB, ev_truN, ev_truI, ev_iAnd, ev_iOr, ev_iNot, ev_iAndV, ev_iOrV, ev_iNotV, ev_iIf, ev_iNeg, ev_negR, ev_iTup, ev_iLst, ev_iLstO, ev_addI, ev_subI, ev_ltI, ev_leI, ev_gtI, ev_geI, ev_eq, ev_ne, ev_blR, eqD_int, eqD_pair, Option.map_some, ev_isB, ev_isNotB, ev_ixT, ev_ixL, ev_ixR, ev_ixR1, ev_gSub, ev_gsR, ev_gsR2, ev_sNil, ev_sSeq, ev_sAsg, ev_asgR, ev_gNm, ev_sExpr, ev_sRet, ev_sRetN, ev_sBreak, ev_sCont, ev_sIf, ev_sRaise, ev_sPar, ev_parR, ev_sPar3, ev_par3R, ev_whR, ev_whC, ev_whB, ev_whT, ev_clo1, ev_cloB, List.getElem?_cons_zero, List.getElem?_cons_succ, List.set_cons_zero, List.set_cons_succ, List.length_cons, List.length_nil, if_true, if_false, Bool.false_eq_true, Bool.not_true, Bool.not_false, h2', e3]
        rw [List.set_append_left _ _ (by rw [List.length_set]; exact hlt), set2]
      · intro f hf
        rcases List.mem_append.mp hf with hf | hf
        · exact hok f hf
        · rw [List.mem_singleton] at hf
          subst hf
          exact ⟨h0, s1, s2⟩
      · rw [List.length_append]
        obtain ⟨aa, bb, ee, e0, e1, e2, e3, e4, e5⟩ := b3
        exact ⟨aa, bb, ee, e0, e1, e2, e3, e4, by rw [List.length_singleton]; omega⟩)
  rw [hlen, List.length_map] at e4
  subst hset
  refine ⟨fs, c', e2, hok, by omega, ?_⟩
  rw [List.length_map] at hbx
  obtain ⟨aa, bb, ee, e0, e1, e2, e3, e4, e5⟩ := hbx
  exact ⟨aa, bb, ee, e0, e1, e2, e3, e4, by omega⟩
/-! ### the law's turn -/
theorem ev_tupL (ds : List D) (m : Mu) : pTuple [.lst ds] m = .ok (.tup ds) m := rfl
theorem asg_tup4 (i j k l : Nat) (a b c d : D) (r : Rho) (m : Mu) : gTp 4 (gsCons (gNm i) (gsCons (gNm j) (gsCons (gNm k) (gsCons (gNm l) gsNil)))) (.tup [a, b, c, d]) r m = some ((((r.set i (some a)).set j (some b)).set k (some c)).set l (some d), m) := rfl
theorem asg_tup2 (i j : Nat) (a b : D) (r : Rho) (m : Mu) : gTp 2 (gsCons (gNm i) (gsCons (gNm j) gsNil)) (.tup [a, b]) r m = some ((r.set i (some a)).set j (some b), m) := rfl
structure Fc (a b c d : Int) : Prop where
  b0 : b ≠ 0
  d0 : d ≠ 0
  sa : Bd 87 a
  sb : Bd 87 b
  sc : Bd 87 c
  sd : Bd 87 d
structure Sl (R : D) (n : Nat) (a b c d : Int) (r : Rho) : Prop where
  len : r.length = 17
  h0 : r[0]? = some (some R)
  h2 : r[2]? = some (some (.loc n))
  h5 : r[5]? = some (some (frD a b))
  h6 : r[6]? = some (some (frD c d))
  h7 : r[7]? = some (some (.int a))
  h8 : r[8]? = some (some (.int b))
  h9 : r[9]? = some (some (.int c))
  h10 : r[10]? = some (some (.int d))
theorem Sl.set {R : D} {n : Nat} {a b c d : Int} {r : Rho} (S : Sl R n a b c d r) {k : Nat} (hk : 11 ≤ k) (x : Option D) : Sl R n a b c d (r.set k x) := by
  refine ⟨by rw [List.length_set]; exact S.len, ?_, ?_, ?_, ?_, ?_, ?_, ?_, ?_⟩ <;> rw [List.getElem?_set_ne (by omega)]
  · exact S.h0
  · exact S.h2
  · exact S.h5
  · exact S.h6
  · exact S.h7
  · exact S.h8
  · exact S.h9
  · exact S.h10
theorem pk10 (x y : D) : picks [1, 0] ([] ++ [x, y]) = [y, x] := rfl
theorem pk0 (x : D) : picks [0] ([] ++ [x]) = [x] := rfl
theorem z4 : (0 + 1 + 1 + 1 + 1 : Nat) ≤ sizeLine := sz 4
theorem z2 : (0 + 1 + 1 : Nat) ≤ sizeLine := sz 2
theorem z0 : (0 : Nat) ≤ sizeLine := sz 0
theorem p2 (x y : D) : (([] : List D).length = 0 ∧ [x, y].length = 2) = True := eq_true ⟨rfl, rfl⟩
theorem p1 (x : D) : (([] : List D).length = 0 ∧ [x].length = 1) = True := eq_true ⟨rfl, rfl⟩
theorem q2 : ((0 : Nat) = 0 ∧ (0 + 1 + 1 : Nat) = 2) = True := eq_true ⟨rfl, rfl⟩
theorem q1 : ((0 : Nat) = 0 ∧ (0 + 1 : Nat) = 1) = True := eq_true ⟨rfl, rfl⟩
section
variable {R : D} {n : Nat} {a b c d : Int} {r : Rho} (K : Fc a b c d) (S : Sl R n a b c d r) (m : Mu)
include K
theorem Fc.ta : Bd 2000 a := K.sa.mono (by decide)
theorem Fc.tb : Bd 2000 b := K.sb.mono (by decide)
theorem Fc.tc : Bd 2000 c := K.sc.mono (by decide)
theorem Fc.td : Bd 2000 d := K.sd.mono (by decide)
theorem Fc.bd0 : b * d ≠ 0 := Int.mul_ne_zero K.b0 K.d0
theorem Fc.cad : CMulW a d := K.ta.c K.td (by decide)
theorem Fc.ccb : CMulW c b := K.tc.c K.tb (by decide)
theorem Fc.cbd : CMulW b d := K.tb.c K.td (by decide)
theorem Fc.cac : CMulW a c := K.ta.c K.tc (by decide)
theorem Fc.cbc : CMulW b c := K.tb.c K.tc (by decide)
theorem Fc.sad : Bd 174 (a * d) := K.sa.mul K.sd
theorem Fc.scb : Bd 174 (c * b) := K.sc.mul K.sb
theorem Fc.sbd : Bd 174 (b * d) := K.sb.mul K.sd
theorem Fc.sac : Bd 174 (a * c) := K.sa.mul K.sc
theorem Fc.sbc : Bd 174 (b * c) := K.sb.mul K.sc
theorem Fc.pl : m_plus [frD a b, frD c d] m = .ok (frD (a * d + c * b) (b * d)) m := plus_fr K.ta K.tb K.tc K.td K.b0 K.d0 m
theorem Fc.tm : m_times [frD a b, frD c d] m = .ok (frD (a * c) (b * d)) m := times_fr K.ta K.tb K.tc K.td K.b0 K.d0 m
theorem Fc.mi : m_minus [frD a b, frD c d] m = .ok (frD (a * d - c * b) (b * d)) m := minus_fr K.ta K.tb K.tc K.td K.b0 K.d0 m
theorem Fc.rt (c0 : c ≠ 0) : m_ratio [frD a b, frD c d] m = .ok (frD (a * d) (b * c)) m := ratio_fr K.ta K.tb K.tc K.td K.b0 K.d0 c0 m
theorem Fc.l1 : m_less [frD a b, frD c d] m = .ok (.bl (decide ((a * d - c * b) * b * d < 0))) m := less_fr K.ta K.tb K.tc K.td K.b0 K.d0 m
theorem Fc.l2 : m_less [frD c d, frD a b] m = .ok (.bl (decide ((c * b - a * d) * b * d < 0))) m := by
  have e : (c * b - a * d) * d * b = (c * b - a * d) * b * d := by grind
  rw [← e]
  exact less_fr K.tc K.td K.ta K.tb K.d0 K.b0 m
theorem Fc.l3 : m_less [frD a b, frD a b] m = .ok (.bl false) m := by
  refine (less_fr K.ta K.tb K.ta K.tb K.b0 K.b0 m).trans ?_
  rw [Int.sub_self, Int.zero_mul, Int.zero_mul]
  rfl
include S
theorem st6 : t_law_6 r m = .nx r m := by
  have s1 := fun m => same_fr K.bd0 ((K.sad.add K.scb).mono (by decide)) (K.sbd.mono (by decide)) m
  have s2 := fun m => same_fr K.bd0 (K.sac.mono (k := 4000) (by decide)) (K.sbd.mono (by decide)) m
  unfold t_law_6
  refine if_no ?_
  simp only [Res.bind_ok, Res.bind_err, Res.bind_bad, Res.thenS_ok, Res.thenS_err, Res.thenS_bad, SRes.bind_nx, SRes.bind_rt, SRes.bind_err, SRes.bind_bk, SRes.bind_ct, SRes.bind_bad, Res.safe_ok, ev_iVar, ev_getR, ev_iK, ev_iNil, ev_iCons, ev_op, ev_call, ev_callK, ev_iTest, ev_testR, ev_iTru, ev_truR, ev_truB, ev_truN, ev_truI, ev_iAnd, ev_iOr, ev_iNot, ev_iAndV, ev_iOrV, ev_iNotV, ev_iIf, ev_iNeg, ev_negR, ev_iTup, ev_iLst, ev_iLstO, ev_addI, ev_subI, ev_ltI, ev_leI, ev_gtI, ev_geI, ev_eq, ev_ne, ev_blR, eqD_int, eqD_pair, Option.map_some, ev_isB, ev_isNotB, ev_ixT, ev_ixL, ev_ixR, ev_ixR1, ev_gSub, ev_gsR, ev_gsR2, ev_sNil, ev_sSeq, ev_sAsg, ev_asgR, ev_gNm, ev_sExpr, ev_sRet, ev_sRetN, ev_sBreak, ev_sCont, ev_sIf, ev_sRaise, ev_sPar, ev_parR, ev_sPar3, ev_par3R, ev_whR, ev_whC, ev_whB, ev_whT, ev_clo1, ev_cloB, List.getElem?_cons_zero, List.getElem?_cons_succ, List.set_cons_zero, List.set_cons_succ, List.length_cons, List.length_nil, if_true, if_false, Bool.false_eq_true, Bool.not_true, Bool.not_false, S.h5, S.h6, S.h7, S.h8, S.h9, S.h10, K.pl, K.tm, ev_mulI _ _ _ K.cad, ev_mulI _ _ _ K.ccb, ev_mulI _ _ _ K.cbd, ev_mulI _ _ _ K.cac, z2, s1, s2]
theorem st7 : t_law_7 r m = .nx r m := by
  have s3 := fun m => same_fr K.bd0 ((K.sad.sub K.scb).mono (by decide)) (K.sbd.mono (by decide)) m
  unfold t_law_7
  refine if_no ?_
  simp only [Res.bind_ok, Res.bind_err, Res.bind_bad, Res.thenS_ok, Res.thenS_err, Res.thenS_bad, SRes.bind_nx, SRes.bind_rt, SRes.bind_err, SRes.bind_bk, SRes.bind_ct, SRes.bind_bad, Res.safe_ok, ev_iVar, ev_getR, ev_iK, ev_iNil, ev_iCons, ev_op, ev_call, ev_callK, ev_iTest, ev_testR, ev_iTru, ev_truR, ev_truB, ev_truN, ev_truI, ev_iAnd, ev_iOr, ev_iNot, ev_iAndV, ev_iOrV, ev_iNotV, ev_iIf, ev_iNeg, ev_negR, ev_iTup, ev_iLst, ev_iLstO, ev_addI, ev_subI, ev_ltI, ev_leI, ev_gtI, ev_geI, ev_eq, ev_ne, ev_blR, eqD_int, eqD_pair, Option.map_some, ev_isB, ev_isNotB, ev_ixT, ev_ixL, ev_ixR, ev_ixR1, ev_gSub, ev_gsR, ev_gsR2, ev_sNil, ev_sSeq, ev_sAsg, ev_asgR, ev_gNm, ev_sExpr, ev_sRet, ev_sRetN, ev_sBreak, ev_sCont, ev_sIf, ev_sRaise, ev_sPar, ev_parR, ev_sPar3, ev_par3R, ev_whR, ev_whC, ev_whB, ev_whT, ev_clo1, ev_cloB, List.getElem?_cons_zero, List.getElem?_cons_succ, List.set_cons_zero, List.set_cons_succ, List.length_cons, List.length_nil, if_true, if_false, Bool.false_eq_true, Bool.not_true, Bool.not_false, and_self, pk10, S.h5, S.h6, S.h7, S.h8, S.h9, S.h10, K.mi, ev_mulI _ _ _ K.cad, ev_mulI _ _ _ K.ccb, ev_mulI _ _ _ K.cbd, z2, s3]
theorem st8 : t_law_8 r m = .nx r m := by
  unfold t_law_8
  refine if_no ?_
  by_cases c0 : c = 0
  · simp only [Res.bind_ok, Res.bind_err, Res.bind_bad, Res.thenS_ok, Res.thenS_err, Res.thenS_bad, SRes.bind_nx, SRes.bind_rt, SRes.bind_err, SRes.bind_bk, SRes.bind_ct, SRes.bind_bad, Res.safe_ok, ev_iVar, ev_getR, ev_iK, ev_iNil, ev_iCons, ev_op, ev_call, ev_callK, ev_iTest, ev_testR, ev_iTru, ev_truR, ev_truB, ev_truN, ev_truI, ev_iAnd, ev_iOr, ev_iNot, ev_iAndV, ev_iOrV, ev_iNotV, ev_iIf, ev_iNeg, ev_negR, ev_iTup, ev_iLst, ev_iLstO, ev_addI, ev_subI, ev_ltI, ev_leI, ev_gtI, ev_geI, ev_eq, ev_ne, ev_blR, eqD_int, eqD_pair, Option.map_some, ev_isB, ev_isNotB, ev_ixT, ev_ixL, ev_ixR, ev_ixR1, ev_gSub, ev_gsR, ev_gsR2, ev_sNil, ev_sSeq, ev_sAsg, ev_asgR, ev_gNm, ev_sExpr, ev_sRet, ev_sRetN, ev_sBreak, ev_sCont, ev_sIf, ev_sRaise, ev_sPar, ev_parR, ev_sPar3, ev_par3R, ev_whR, ev_whC, ev_whB, ev_whT, ev_clo1, ev_cloB, List.getElem?_cons_zero, List.getElem?_cons_succ, List.set_cons_zero, List.set_cons_succ, List.length_cons, List.length_nil, if_true, if_false, Bool.false_eq_true, Bool.not_true, Bool.not_false, S.h9, decide_eq_true c0]
  · have s4 := fun m => same_fr (Int.mul_ne_zero K.b0 c0) (K.sad.mono (k := 4000) (by decide)) (K.sbc.mono (by decide)) m
    simp only [Res.bind_ok, Res.bind_err, Res.bind_bad, Res.thenS_ok, Res.thenS_err, Res.thenS_bad, SRes.bind_nx, SRes.bind_rt, SRes.bind_err, SRes.bind_bk, SRes.bind_ct, SRes.bind_bad, Res.safe_ok, ev_iVar, ev_getR, ev_iK, ev_iNil, ev_iCons, ev_op, ev_call, ev_callK, ev_iTest, ev_testR, ev_iTru, ev_truR, ev_truB, ev_truN, ev_truI, ev_iAnd, ev_iOr, ev_iNot, ev_iAndV, ev_iOrV, ev_iNotV, ev_iIf, ev_iNeg, ev_negR, ev_iTup, ev_iLst, ev_iLstO, ev_addI, ev_subI, ev_ltI, ev_leI, ev_gtI, ev_geI, ev_eq, ev_ne, ev_blR, eqD_int, eqD_pair, Option.map_some, ev_isB, ev_isNotB, ev_ixT, ev_ixL, ev_ixR, ev_ixR1, ev_gSub, ev_gsR, ev_gsR2, ev_sNil, ev_sSeq, ev_sAsg, ev_asgR, ev_gNm, ev_sExpr, ev_sRet, ev_sRetN, ev_sBreak, ev_sCont, ev_sIf, ev_sRaise, ev_sPar, ev_parR, ev_sPar3, ev_par3R, ev_whR, ev_whC, ev_whB, ev_whT, ev_clo1, ev_cloB, List.getElem?_cons_zero, List.getElem?_cons_succ, List.set_cons_zero, List.set_cons_succ, List.length_cons, List.length_nil, if_true, if_false, Bool.false_eq_true, Bool.not_true, Bool.not_false, S.h5, S.h6, S.h7, S.h8, S.h9, S.h10, decide_eq_false c0, K.rt _ c0, ev_mulI _ _ _ K.cad, ev_mulI _ _ _ K.cbc, z2, s4]
theorem st9 : t_law_9 r m = .nx r m := by
  have rf : ∀ (b' : Bool) m, m__law_refused [frD a b, .bl b'] m = .ok (.bl true) m := refused_is ((K.ta.of_le (nu_le K.b0)).mono (by decide)) ((K.tb.of_le (de_le K.b0)).mono (by decide))
  unfold t_law_9
  refine if_no ?_
  simp only [Res.bind_ok, Res.bind_err, Res.bind_bad, Res.thenS_ok, Res.thenS_err, Res.thenS_bad, SRes.bind_nx, SRes.bind_rt, SRes.bind_err, SRes.bind_bk, SRes.bind_ct, SRes.bind_bad, Res.safe_ok, ev_iVar, ev_getR, ev_iK, ev_iNil, ev_iCons, ev_op, ev_call, ev_callK, ev_iTest, ev_testR, ev_iTru, ev_truR, ev_truB, ev_truN, ev_truI, ev_iAnd, ev_iOr, ev_iNot, ev_iAndV, ev_iOrV, ev_iNotV, ev_iIf, ev_iNeg, ev_negR, ev_iTup, ev_iLst, ev_iLstO, ev_addI, ev_subI, ev_ltI, ev_leI, ev_gtI, ev_geI, ev_eq, ev_ne, ev_blR, eqD_int, eqD_pair, Option.map_some, ev_isB, ev_isNotB, ev_ixT, ev_ixL, ev_ixR, ev_ixR1, ev_gSub, ev_gsR, ev_gsR2, ev_sNil, ev_sSeq, ev_sAsg, ev_asgR, ev_gNm, ev_sExpr, ev_sRet, ev_sRetN, ev_sBreak, ev_sCont, ev_sIf, ev_sRaise, ev_sPar, ev_parR, ev_sPar3, ev_par3R, ev_whR, ev_whC, ev_whB, ev_whT, ev_clo1, ev_cloB, List.getElem?_cons_zero, List.getElem?_cons_succ, List.set_cons_zero, List.set_cons_succ, List.length_cons, List.length_nil, if_true, if_false, Bool.false_eq_true, Bool.not_true, Bool.not_false, S.h5, rf]
theorem st10 : t_law_10 r m = .nx r m := by
  have cx1 : CMulW (a * d - c * b) b := (K.sad.sub K.scb).c K.sb (by decide)
  have cx2 : CMulW ((a * d - c * b) * b) d := ((K.sad.sub K.scb).mul K.sb).c K.sd (by decide)
  unfold t_law_10
  refine if_no ?_
  simp only [Res.bind_ok, Res.bind_err, Res.bind_bad, Res.thenS_ok, Res.thenS_err, Res.thenS_bad, SRes.bind_nx, SRes.bind_rt, SRes.bind_err, SRes.bind_bk, SRes.bind_ct, SRes.bind_bad, Res.safe_ok, ev_iVar, ev_getR, ev_iK, ev_iNil, ev_iCons, ev_op, ev_call, ev_callK, ev_iTest, ev_testR, ev_iTru, ev_truR, ev_truB, ev_truN, ev_truI, ev_iAnd, ev_iOr, ev_iNot, ev_iAndV, ev_iOrV, ev_iNotV, ev_iIf, ev_iNeg, ev_negR, ev_iTup, ev_iLst, ev_iLstO, ev_addI, ev_subI, ev_ltI, ev_leI, ev_gtI, ev_geI, ev_eq, ev_ne, ev_blR, eqD_int, eqD_pair, Option.map_some, ev_isB, ev_isNotB, ev_ixT, ev_ixL, ev_ixR, ev_ixR1, ev_gSub, ev_gsR, ev_gsR2, ev_sNil, ev_sSeq, ev_sAsg, ev_asgR, ev_gNm, ev_sExpr, ev_sRet, ev_sRetN, ev_sBreak, ev_sCont, ev_sIf, ev_sRaise, ev_sPar, ev_parR, ev_sPar3, ev_par3R, ev_whR, ev_whC, ev_whB, ev_whT, ev_clo1, ev_cloB, List.getElem?_cons_zero, List.getElem?_cons_succ, List.set_cons_zero, List.set_cons_succ, List.length_cons, List.length_nil, if_true, if_false, Bool.false_eq_true, Bool.not_true, Bool.not_false, S.h5, S.h6, S.h7, S.h8, S.h9, S.h10, K.l1, ev_mulI _ _ _ K.cad, ev_mulI _ _ _ K.ccb, ev_mulI _ _ _ cx1, ev_mulI _ _ _ cx2, truth_is, K.l3, decide_true]
theorem st11 : t_law_11 r m = .nx r m := by
  have cy1 : CMulW (c * b - a * d) b := (K.scb.sub K.sad).c K.sb (by decide)
  have cy2 : CMulW ((c * b - a * d) * b) d := ((K.scb.sub K.sad).mul K.sb).c K.sd (by decide)
  unfold t_law_11
  refine if_no ?_
  simp only [Res.bind_ok, Res.bind_err, Res.bind_bad, Res.thenS_ok, Res.thenS_err, Res.thenS_bad, SRes.bind_nx, SRes.bind_rt, SRes.bind_err, SRes.bind_bk, SRes.bind_ct, SRes.bind_bad, Res.safe_ok, ev_iVar, ev_getR, ev_iK, ev_iNil, ev_iCons, ev_op, ev_call, ev_callK, ev_iTest, ev_testR, ev_iTru, ev_truR, ev_truB, ev_truN, ev_truI, ev_iAnd, ev_iOr, ev_iNot, ev_iAndV, ev_iOrV, ev_iNotV, ev_iIf, ev_iNeg, ev_negR, ev_iTup, ev_iLst, ev_iLstO, ev_addI, ev_subI, ev_ltI, ev_leI, ev_gtI, ev_geI, ev_eq, ev_ne, ev_blR, eqD_int, eqD_pair, Option.map_some, ev_isB, ev_isNotB, ev_ixT, ev_ixL, ev_ixR, ev_ixR1, ev_gSub, ev_gsR, ev_gsR2, ev_sNil, ev_sSeq, ev_sAsg, ev_asgR, ev_gNm, ev_sExpr, ev_sRet, ev_sRetN, ev_sBreak, ev_sCont, ev_sIf, ev_sRaise, ev_sPar, ev_parR, ev_sPar3, ev_par3R, ev_whR, ev_whC, ev_whB, ev_whT, ev_clo1, ev_cloB, List.getElem?_cons_zero, List.getElem?_cons_succ, List.set_cons_zero, List.set_cons_succ, List.length_cons, List.length_nil, if_true, if_false, Bool.false_eq_true, Bool.not_true, Bool.not_false, S.h5, S.h6, S.h7, S.h8, S.h9, S.h10, K.l2, ev_mulI _ _ _ K.cad, ev_mulI _ _ _ K.ccb, ev_mulI _ _ _ cy1, ev_mulI _ _ _ cy2, truth_is]
theorem st12 : t_law_12 r m = .nx r m := by
  unfold t_law_12
  refine if_no ?_
  simp only [Res.bind_ok, Res.bind_err, Res.bind_bad, Res.thenS_ok, Res.thenS_err, Res.thenS_bad, SRes.bind_nx, SRes.bind_rt, SRes.bind_err, SRes.bind_bk, SRes.bind_ct, SRes.bind_bad, Res.safe_ok, ev_iVar, ev_getR, ev_iK, ev_iNil, ev_iCons, ev_op, ev_call, ev_callK, ev_iTest, ev_testR, ev_iTru, ev_truR, ev_truB, ev_truN, ev_truI, ev_iAnd, ev_iOr, ev_iNot, ev_iAndV, ev_iOrV, ev_iNotV, ev_iIf, ev_iNeg, ev_negR, ev_iTup, ev_iLst, ev_iLstO, ev_addI, ev_subI, ev_ltI, ev_leI, ev_gtI, ev_geI, ev_eq, ev_ne, ev_blR, eqD_int, eqD_pair, Option.map_some, ev_isB, ev_isNotB, ev_ixT, ev_ixL, ev_ixR, ev_ixR1, ev_gSub, ev_gsR, ev_gsR2, ev_sNil, ev_sSeq, ev_sAsg, ev_asgR, ev_gNm, ev_sExpr, ev_sRet, ev_sRetN, ev_sBreak, ev_sCont, ev_sIf, ev_sRaise, ev_sPar, ev_parR, ev_sPar3, ev_par3R, ev_whR, ev_whC, ev_whB, ev_whT, ev_clo1, ev_cloB, List.getElem?_cons_zero, List.getElem?_cons_succ, List.set_cons_zero, List.set_cons_succ, List.length_cons, List.length_nil, if_true, if_false, Bool.false_eq_true, Bool.not_true, Bool.not_false, and_self, pk10, S.h5, S.h6, K.pl, eqD_fr, K.l2, eqD_bl, beq_self_eq_true]
theorem st13 : t_law_13 r m = .nx r m := by
  have isf : ∀ m, m_is_fraction [frD a b] m = .ok (.bl true) m := fun m => by
    have := isf_tup (ds := [.int (nu a b), .int (de a b)]) rfl m
    rw [show frB (.tup [.int (nu a b), .int (de a b)]) = true from frB_fr K.b0] at this
    exact this
  unfold t_law_13
  refine if_no ?_
  simp only [Res.bind_ok, Res.bind_err, Res.bind_bad, Res.thenS_ok, Res.thenS_err, Res.thenS_bad, SRes.bind_nx, SRes.bind_rt, SRes.bind_err, SRes.bind_bk, SRes.bind_ct, SRes.bind_bad, Res.safe_ok, ev_iVar, ev_getR, ev_iK, ev_iNil, ev_iCons, ev_op, ev_call, ev_callK, ev_iTest, ev_testR, ev_iTru, ev_truR, ev_truB, ev_truN, ev_truI, ev_iAnd, ev_iOr, ev_iNot, ev_iAndV, ev_iOrV, ev_iNotV, ev_iIf, ev_iNeg, ev_negR, ev_iTup, ev_iLst, ev_iLstO, ev_addI, ev_subI, ev_ltI, ev_leI, ev_gtI, ev_geI, ev_eq, ev_ne, ev_blR, eqD_int, eqD_pair, Option.map_some, ev_isB, ev_isNotB, ev_ixT, ev_ixL, ev_ixR, ev_ixR1, ev_gSub, ev_gsR, ev_gsR2, ev_sNil, ev_sSeq, ev_sAsg, ev_asgR, ev_gNm, ev_sExpr, ev_sRet, ev_sRetN, ev_sBreak, ev_sCont, ev_sIf, ev_sRaise, ev_sPar, ev_parR, ev_sPar3, ev_par3R, ev_whR, ev_whC, ev_whB, ev_whT, ev_clo1, ev_cloB, List.getElem?_cons_zero, List.getElem?_cons_succ, List.set_cons_zero, List.set_cons_succ, List.length_cons, List.length_nil, if_true, if_false, Bool.false_eq_true, Bool.not_true, Bool.not_false, and_self, pk10, pk0, S.h5, S.h6, K.tm, eqD_fr, isf, decide_true]
theorem st14 : t_law_14 r m = .nx r m := by
  have sm2 : ∀ m, m_sum_of [.tup [frD a b, frD c d]] m = .ok (frD (a * d + c * b) (b * d)) m := fun m => by
    have h := sum_is (fs := [(a, b), (c, d)]) (fun f hf => by
      simp only [List.mem_cons, List.not_mem_nil, or_false] at hf
      rcases hf with rfl | rfl
      · exact ⟨K.b0, K.sa, K.sb⟩
      · exact ⟨K.d0, K.sc, K.sd⟩) (by show 2 ≤ 20; decide) m
    have e : sm [(a, b), (c, d)] = (a * d + c * b, b * d) := by
      show (((0 * b + a * 1) * d + c * (1 * b), (1 * b) * d) : Int × Int) = _
      simp only [Int.zero_mul, Int.mul_one, Int.one_mul, Int.zero_add]
    rw [e] at h
    exact h
  unfold t_law_14
  refine if_no ?_
  by_cases c0 : c = 0
  · simp only [Res.bind_ok, Res.bind_err, Res.bind_bad, Res.thenS_ok, Res.thenS_err, Res.thenS_bad, SRes.bind_nx, SRes.bind_rt, SRes.bind_err, SRes.bind_bk, SRes.bind_ct, SRes.bind_bad, Res.safe_ok, ev_iVar, ev_getR, ev_iK, ev_iNil, ev_iCons, ev_op, ev_call, ev_callK, ev_iTest, ev_testR, ev_iTru, ev_truR, ev_truB, ev_truN, ev_truI, ev_iAnd, ev_iOr, ev_iNot, ev_iAndV, ev_iOrV, ev_iNotV, ev_iIf, ev_iNeg, ev_negR, ev_iTup, ev_iLst, ev_iLstO, ev_addI, ev_subI, ev_ltI, ev_leI, ev_gtI, ev_geI, ev_eq, ev_ne, ev_blR, eqD_int, eqD_pair, Option.map_some, ev_isB, ev_isNotB, ev_ixT, ev_ixL, ev_ixR, ev_ixR1, ev_gSub, ev_gsR, ev_gsR2, ev_sNil, ev_sSeq, ev_sAsg, ev_asgR, ev_gNm, ev_sExpr, ev_sRet, ev_sRetN, ev_sBreak, ev_sCont, ev_sIf, ev_sRaise, ev_sPar, ev_parR, ev_sPar3, ev_par3R, ev_whR, ev_whC, ev_whB, ev_whT, ev_clo1, ev_cloB, List.getElem?_cons_zero, List.getElem?_cons_succ, List.set_cons_zero, List.set_cons_succ, List.length_cons, List.length_nil, if_true, if_false, Bool.false_eq_true, Bool.not_true, Bool.not_false, and_self, pk10, pk0, S.h5, S.h6, S.h9, sm2, K.pl, eqD_fr, z2, decide_eq_true c0]
  · simp only [Res.bind_ok, Res.bind_err, Res.bind_bad, Res.thenS_ok, Res.thenS_err, Res.thenS_bad, SRes.bind_nx, SRes.bind_rt, SRes.bind_err, SRes.bind_bk, SRes.bind_ct, SRes.bind_bad, Res.safe_ok, ev_iVar, ev_getR, ev_iK, ev_iNil, ev_iCons, ev_op, ev_call, ev_callK, ev_iTest, ev_testR, ev_iTru, ev_truR, ev_truB, ev_truN, ev_truI, ev_iAnd, ev_iOr, ev_iNot, ev_iAndV, ev_iOrV, ev_iNotV, ev_iIf, ev_iNeg, ev_negR, ev_iTup, ev_iLst, ev_iLstO, ev_addI, ev_subI, ev_ltI, ev_leI, ev_gtI, ev_geI, ev_eq, ev_ne, ev_blR, eqD_int, eqD_pair, Option.map_some, ev_isB, ev_isNotB, ev_ixT, ev_ixL, ev_ixR, ev_ixR1, ev_gSub, ev_gsR, ev_gsR2, ev_sNil, ev_sSeq, ev_sAsg, ev_asgR, ev_gNm, ev_sExpr, ev_sRet, ev_sRetN, ev_sBreak, ev_sCont, ev_sIf, ev_sRaise, ev_sPar, ev_parR, ev_sPar3, ev_par3R, ev_whR, ev_whC, ev_whB, ev_whT, ev_clo1, ev_cloB, List.getElem?_cons_zero, List.getElem?_cons_succ, List.set_cons_zero, List.set_cons_succ, List.length_cons, List.length_nil, if_true, if_false, Bool.false_eq_true, Bool.not_true, Bool.not_false, and_self, pk10, pk0, S.h5, S.h6, S.h9, sm2, K.pl, eqD_fr, z2, decide_eq_false c0, K.rt _ c0]
theorem st18 : t_law_18 r m = .nx r m := by
  have sm0 : ∀ m, m_sum_of [.tup []] m = .ok (pr 0 1) m := fun m => by
    have h := sum_is (fs := []) (fun f hf => nomatch hf) (by decide) m
    rw [show frD (sm []).1 (sm []).2 = pr 0 1 from low1] at h
    exact h
  have mi0 : ∀ m, m_minus [frD a b, frD a b] m = .ok (pr 0 1) m := fun m => by
    refine (minus_fr K.ta K.tb K.ta K.tb K.b0 K.b0 m).trans ?_
    rw [Int.sub_self, frD_congr (Int.mul_ne_zero K.b0 K.b0) (by decide : (1 : Int) ≠ 0) (t' := 0) (by simp), low1]
  have tm1 : ∀ m, m_times [frD a b, .tup [.int 1, .int 1]] m = .ok (frD a b) m := fun m => by
    have o1 : frD 1 1 = pr 1 1 := by
      obtain ⟨q1, q2⟩ := fr_low (p := 1) (q := 1) (by decide) (by decide)
      unfold frD
      rw [q1, q2]
    have h := times_fr K.ta K.tb (Bd.one.mono (by decide : 1 ≤ 2000)) (Bd.one.mono (by decide : 1 ≤ 2000)) K.b0 (by decide) m
    rw [o1, Int.mul_one, Int.mul_one] at h
    exact h
  unfold t_law_18
  refine if_no ?_
  simp only [Res.bind_ok, Res.bind_err, Res.bind_bad, Res.thenS_ok, Res.thenS_err, Res.thenS_bad, SRes.bind_nx, SRes.bind_rt, SRes.bind_err, SRes.bind_bk, SRes.bind_ct, SRes.bind_bad, Res.safe_ok, ev_iVar, ev_getR, ev_iK, ev_iNil, ev_iCons, ev_op, ev_call, ev_callK, ev_iTest, ev_testR, ev_iTru, ev_truR, ev_truB, ev_truN, ev_truI, ev_iAnd, ev_iOr, ev_iNot, ev_iAndV, ev_iOrV, ev_iNotV, ev_iIf, ev_iNeg, ev_negR, ev_iTup, ev_iLst, ev_iLstO, ev_addI, ev_subI, ev_ltI, ev_leI, ev_gtI, ev_geI, ev_eq, ev_ne, ev_blR, eqD_int, eqD_pair, Option.map_some, ev_isB, ev_isNotB, ev_ixT, ev_ixL, ev_ixR, ev_ixR1, ev_gSub, ev_gsR, ev_gsR2, ev_sNil, ev_sSeq, ev_sAsg, ev_asgR, ev_gNm, ev_sExpr, ev_sRet, ev_sRetN, ev_sBreak, ev_sCont, ev_sIf, ev_sRaise, ev_sPar, ev_parR, ev_sPar3, ev_par3R, ev_whR, ev_whC, ev_whB, ev_whT, ev_clo1, ev_cloB, List.getElem?_cons_zero, List.getElem?_cons_succ, List.set_cons_zero, List.set_cons_succ, List.length_cons, List.length_nil, if_true, if_false, Bool.false_eq_true, Bool.not_true, Bool.not_false, S.h5, sm0, mi0, tm1, eqD_fr, z0, z2, and_self, decide_true]
theorem st19 {L : Nat} {c3 : List D} (g3 : m[n]? = some c3) (bx3 : Bx L c3) (hL : L ≤ 800000) : ∃ m', t_law_19 r m = .nx r m' := by
  obtain ⟨ds, c4, e4, l4, pd4⟩ := almost_is (p := nu a b) (q := de a b) g3 bx3 hL ((K.ta.of_le (nu_le K.b0)).mono (by decide)) ((K.tb.of_le (de_le K.b0)).mono (by decide))
  have e4' : m__law_almost [.loc n, frD a b] m = .ok (.lst ds) (m.set n c4) := e4
  have alc : iLc (iItA (iCall m__law_almost (iCons (iVar 2) (iCons (iVar 5) iNil)))) [16] (gNm 16) tYesM (iCall m__law_truth (iCons (iCall m_is_fraction (iCons (iVar 16) iNil)) (iCons (iCall m__law_is_fraction (iCons (iVar 16) iNil)) iNil))) r m = .ok (.lst (ds.map fun _ => .bl true)) (m.set n c4) := by
    refine lc_pure (fun _ => .bl true) (m1 := m.set n c4) (ds := ds) ?_ (Nat.le_trans l4 (sz 1000)) (fun d' hd m' => ?_) fun _ _ => rfl
    · unfold iItA
      simp only [Res.bind_ok, Res.bind_err, Res.bind_bad, Res.thenS_ok, Res.thenS_err, Res.thenS_bad, SRes.bind_nx, SRes.bind_rt, SRes.bind_err, SRes.bind_bk, SRes.bind_ct, SRes.bind_bad, Res.safe_ok, ev_iVar, ev_getR, ev_iK, ev_iNil, ev_iCons, ev_op, ev_call, ev_callK, ev_iTest, ev_testR, ev_iTru, ev_truR, ev_truB, ev_truN, ev_truI, ev_iAnd, ev_iOr, ev_iNot, ev_iAndV, ev_iOrV, ev_iNotV, ev_iIf, ev_iNeg, ev_negR, ev_iTup, ev_iLst, ev_iLstO, ev_addI, ev_subI, ev_ltI, ev_leI, ev_gtI, ev_geI, ev_eq, ev_ne, ev_blR, eqD_int, eqD_pair, Option.map_some, ev_isB, ev_isNotB, ev_ixT, ev_ixL, ev_ixR, ev_ixR1, ev_gSub, ev_gsR, ev_gsR2, ev_sNil, ev_sSeq, ev_sAsg, ev_asgR, ev_gNm, ev_sExpr, ev_sRet, ev_sRetN, ev_sBreak, ev_sCont, ev_sIf, ev_sRaise, ev_sPar, ev_parR, ev_sPar3, ev_par3R, ev_whR, ev_whC, ev_whB, ev_whT, ev_clo1, ev_cloB, List.getElem?_cons_zero, List.getElem?_cons_succ, List.set_cons_zero, List.set_cons_succ, List.length_cons, List.length_nil, if_true, if_false, Bool.false_eq_true, Bool.not_true, Bool.not_false, S.h2, S.h5, e4']
    · obtain ⟨b', t1, t2⟩ := both_is (pd4 d' hd) m'
      have h16 : ((wipeR r [16]).set 16 (some d'))[16]? = some (some d') := List.getElem?_set_self (by unfold wipeR; rw [List.length_set]; show 16 < r.length; rw [S.len]; decide)
      simp only [Res.bind_ok, Res.bind_err, Res.bind_bad, Res.thenS_ok, Res.thenS_err, Res.thenS_bad, SRes.bind_nx, SRes.bind_rt, SRes.bind_err, SRes.bind_bk, SRes.bind_ct, SRes.bind_bad, Res.safe_ok, ev_iVar, ev_getR, ev_iK, ev_iNil, ev_iCons, ev_op, ev_call, ev_callK, ev_iTest, ev_testR, ev_iTru, ev_truR, ev_truB, ev_truN, ev_truI, ev_iAnd, ev_iOr, ev_iNot, ev_iAndV, ev_iOrV, ev_iNotV, ev_iIf, ev_iNeg, ev_negR, ev_iTup, ev_iLst, ev_iLstO, ev_addI, ev_subI, ev_ltI, ev_leI, ev_gtI, ev_geI, ev_eq, ev_ne, ev_blR, eqD_int, eqD_pair, Option.map_some, ev_isB, ev_isNotB, ev_ixT, ev_ixL, ev_ixR, ev_ixR1, ev_gSub, ev_gsR, ev_gsR2, ev_sNil, ev_sSeq, ev_sAsg, ev_asgR, ev_gNm, ev_sExpr, ev_sRet, ev_sRetN, ev_sBreak, ev_sCont, ev_sIf, ev_sRaise, ev_sPar, ev_parR, ev_sPar3, ev_par3R, ev_whR, ev_whC, ev_whB, ev_whT, ev_clo1, ev_cloB, List.getElem?_cons_zero, List.getElem?_cons_succ, List.set_cons_zero, List.set_cons_succ, List.length_cons, List.length_nil, if_true, if_false, Bool.false_eq_true, Bool.not_true, Bool.not_false, h16, t1, t2, truth_is]
  refine ⟨m.set n c4, ?_⟩
  unfold t_law_19
  refine if_no ?_
  simp only [Res.bind_ok, Res.bind_err, Res.bind_bad, Res.thenS_ok, Res.thenS_err, Res.thenS_bad, SRes.bind_nx, SRes.bind_rt, SRes.bind_err, SRes.bind_bk, SRes.bind_ct, SRes.bind_bad, Res.safe_ok, ev_iVar, ev_getR, ev_iK, ev_iNil, ev_iCons, ev_op, ev_call, ev_callK, ev_iTest, ev_testR, ev_iTru, ev_truR, ev_truB, ev_truN, ev_truI, ev_iAnd, ev_iOr, ev_iNot, ev_iAndV, ev_iOrV, ev_iNotV, ev_iIf, ev_iNeg, ev_negR, ev_iTup, ev_iLst, ev_iLstO, ev_addI, ev_subI, ev_ltI, ev_leI, ev_gtI, ev_geI, ev_eq, ev_ne, ev_blR, eqD_int, eqD_pair, Option.map_some, ev_isB, ev_isNotB, ev_ixT, ev_ixL, ev_ixR, ev_ixR1, ev_gSub, ev_gsR, ev_gsR2, ev_sNil, ev_sSeq, ev_sAsg, ev_asgR, ev_gNm, ev_sExpr, ev_sRet, ev_sRetN, ev_sBreak, ev_sCont, ev_sIf, ev_sRaise, ev_sPar, ev_parR, ev_sPar3, ev_par3R, ev_whR, ev_whC, ev_whB, ev_whT, ev_clo1, ev_cloB, List.getElem?_cons_zero, List.getElem?_cons_succ, List.set_cons_zero, List.set_cons_succ, List.length_cons, List.length_nil, if_true, if_false, Bool.false_eq_true, Bool.not_true, Bool.not_false, alc, all_is ds (fun _ => true)]
  simp
theorem st15 {L : Nat} {c2 : List D} (g2 : m[n]? = some c2) (bx2 : Bx L c2) (hL : L ≤ 700000) : ∃ (fs : List (Int × Int)) (c' : List D), t_law_15 r m = .nx (r.set 11 (some (.lst (fs.map pD)))) (m.set n c') ∧ (∀ f ∈ fs, okF f) ∧ fs.length ≤ 6 ∧ Bx (L + 100) c' := by
  obtain ⟨fs, c', e, h1, h2, h3⟩ := rest_is (r := r) g2 bx2 hL S.len S.h2
  exact ⟨fs, c', asg_nm e, h1, h2, h3⟩
end
section
variable {R : D} {n : Nat} {a b c d : Int} {r : Rho} {fs : List (Int × Int)} {m : Mu} (S : Sl R n a b c d r) (okf : ∀ f ∈ fs, okF f) (lf : fs.length ≤ 6) (h11 : r[11]? = some (some (.lst (fs.map pD))))
include S okf lf h11
theorem st_for (h12 : r[12]? = some (some (.int 0))) (h13 : r[13]? = some (some (.int 1))) : ∃ r' m', sFor (iItA (iVar 11)) (gNm 14) t_law_0 r m = .nx r' m' ∧ (m' = m ∧ Sl R n a b c d r' ∧ r'[11]? = some (some (.lst (fs.map pD))) ∧ r'[12]? = some (some (.int (sm fs).1)) ∧ r'[13]? = some (some (.int (sm fs).2))) := by
  have hit : iItA (iVar 11) r m = .ok (fs.map pD, none) m := by
    unfold iItA
    simp only [Res.bind_ok, Res.bind_err, Res.bind_bad, Res.thenS_ok, Res.thenS_err, Res.thenS_bad, SRes.bind_nx, SRes.bind_rt, SRes.bind_err, SRes.bind_bk, SRes.bind_ct, SRes.bind_bad, Res.safe_ok, ev_iVar, ev_getR, ev_iK, ev_iNil, ev_iCons, ev_op, ev_call, ev_callK, ev_iTest, ev_testR, ev_iTru, ev_truR, ev_truB, ev_truN, ev_truI, ev_iAnd, ev_iOr, ev_iNot, ev_iAndV, ev_iOrV, ev_iNotV, ev_iIf, ev_iNeg, ev_negR, ev_iTup, ev_iLst, ev_iLstO, ev_addI, ev_subI, ev_ltI, ev_leI, ev_gtI, ev_geI, ev_eq, ev_ne, ev_blR, eqD_int, eqD_pair, Option.map_some, ev_isB, ev_isNotB, ev_ixT, ev_ixL, ev_ixR, ev_ixR1, ev_gSub, ev_gsR, ev_gsR2, ev_sNil, ev_sSeq, ev_sAsg, ev_asgR, ev_gNm, ev_sExpr, ev_sRet, ev_sRetN, ev_sBreak, ev_sCont, ev_sIf, ev_sRaise, ev_sPar, ev_parR, ev_sPar3, ev_par3R, ev_whR, ev_whC, ev_whB, ev_whT, ev_clo1, ev_cloB, List.getElem?_cons_zero, List.getElem?_cons_succ, List.set_cons_zero, List.set_cons_succ, List.length_cons, List.length_nil, if_true, if_false, Bool.false_eq_true, Bool.not_true, Bool.not_false, h11]
  obtain ⟨r', m', e, q⟩ := for_inv (g := gNm 14) (b := t_law_0) (Q := fun j r' m' => m' = m ∧ Sl R n a b c d r' ∧ r'[11]? = some (some (.lst (fs.map pD))) ∧ r'[12]? = some (some (.int (sm (fs.take j)).1)) ∧ r'[13]? = some (some (.int (sm (fs.take j)).2))) hit ⟨rfl, S, h11, h12, h13⟩ (by
    rintro j d' r m' hj ⟨rfl, S, g11, g12, g13⟩
    rw [List.getElem?_map, Option.map_eq_some_iff] at hj
    obtain ⟨f, hf, rfl⟩ := hj
    have hjl := (List.getElem?_eq_some_iff.mp hf).1
    obtain ⟨f1, f2, f3⟩ := okf f (List.mem_of_getElem? hf)
    obtain ⟨h1, h2, h3⟩ := sm_ok okf j (by omega)
    have k1 : CMulW (sm (fs.take j)).1 f.2 := h2.c f3 (by omega)
    have k2 : CMulW f.1 (sm (fs.take j)).2 := f2.c h3 (by omega)
    have k3 : CMulW (sm (fs.take j)).2 f.2 := h3.c f3 (by omega)
    have len := S.len
    have i14 : (r.set 14 (some (pD f)))[14]? = some (some (pD f)) := List.getElem?_set_self (by omega)
    have i12 : (r.set 14 (some (pD f)))[12]? = some (some (.int (sm (fs.take j)).1)) := by rw [List.getElem?_set_ne (by decide)]; exact g12
    have i13 : (r.set 14 (some (pD f)))[13]? = some (some (.int (sm (fs.take j)).2)) := by rw [List.getElem?_set_ne (by decide)]; exact g13
    refine ⟨_, _, rfl, _, m', ?_, rfl, ((S.set (k := 14) (by decide) (some (pD f))).set (k := 12) (by decide) (some (.int (sm (fs.take (j + 1))).1))).set (k := 13) (by decide) (some (.int (sm (fs.take (j + 1))).2)), ?_, ?_, ?_⟩
    · rw [sm_more hf]
      unfold t_law_0
      simp only [Res.bind_ok, Res.bind_err, Res.bind_bad, Res.thenS_ok, Res.thenS_err, Res.thenS_bad, SRes.bind_nx, SRes.bind_rt, SRes.bind_err, SRes.bind_bk, SRes.bind_ct, SRes.bind_bad, Res.safe_ok, ev_iVar, ev_getR, ev_iK, ev_iNil, ev_iCons, ev_op, ev_call, ev_callK, ev_iTest, ev_testR, ev_iTru, ev_truR, ev_truB, ev_truN, ev_truI, ev_iAnd, ev_iOr, ev_iNot, ev_iAndV, ev_iOrV, ev_iNotV, ev_iIf, ev_iNeg, ev_negR, ev_iTup, ev_iLst, ev_iLstO, ev_addI, ev_subI, ev_ltI, ev_leI, ev_gtI, ev_geI, ev_eq, ev_ne, ev_blR, eqD_int, eqD_pair, Option.map_some, ev_isB, ev_isNotB, ev_ixT, ev_ixL, ev_ixR, ev_ixR1, ev_gSub, ev_gsR, ev_gsR2, ev_sNil, ev_sSeq, ev_sAsg, ev_asgR, ev_gNm, ev_sExpr, ev_sRet, ev_sRetN, ev_sBreak, ev_sCont, ev_sIf, ev_sRaise, ev_sPar, ev_parR, ev_sPar3, ev_par3R, ev_whR, ev_whC, ev_whB, ev_whT, ev_clo1, ev_cloB, List.getElem?_cons_zero, List.getElem?_cons_succ, List.set_cons_zero, List.set_cons_succ, List.length_cons, List.length_nil, if_true, if_false, Bool.false_eq_true, Bool.not_true, Bool.not_false, i14, i12, i13, at0, at1, ev_mulI _ _ _ k1, ev_mulI _ _ _ k2, ev_mulI _ _ _ k3]
    · rw [List.getElem?_set_ne (by decide), List.getElem?_set_ne (by decide), List.getElem?_set_ne (by decide)]
      exact g11
    · rw [List.getElem?_set_ne (by decide)]
      exact List.getElem?_set_self (by rw [List.length_set]; omega)
    · exact List.getElem?_set_self (by rw [List.length_set, List.length_set]; omega))
  rw [List.length_map, List.take_length] at q
  exact ⟨r', m', e, q⟩
theorem st17 (h12 : r[12]? = some (some (.int (sm fs).1))) (h13 : r[13]? = some (some (.int (sm fs).2))) : t_law_17 r m = .nx r m := by
  obtain ⟨h1, h2, h3⟩ := sm_ok okf fs.length (Nat.le_refl _)
  rw [List.take_length] at h1 h2 h3
  have len := S.len
  have slc : iLc (iItA (iVar 11)) [14] (gNm 14) tYesM (iCall m_fraction_of (iCons (iOp oIx (iVar 14) (iK (.int 0))) (iCons (iOp oIx (iVar 14) (iK (.int 1))) iNil))) r m = .ok (.lst (fs.map fD)) m := by
    have h := lc_pure (it := iItA (iVar 11)) (i := 14) (e := iCall m_fraction_of (iCons (iOp oIx (iVar 14) (iK (.int 0))) (iCons (iOp oIx (iVar 14) (iK (.int 1))) iNil))) (r := r) (m := m) (m1 := m) (ds := fs.map pD) (fun d => match d with | .tup [.int t, .int b] => frD t b | d => d) (by
      unfold iItA
      simp only [Res.bind_ok, Res.bind_err, Res.bind_bad, Res.thenS_ok, Res.thenS_err, Res.thenS_bad, SRes.bind_nx, SRes.bind_rt, SRes.bind_err, SRes.bind_bk, SRes.bind_ct, SRes.bind_bad, Res.safe_ok, ev_iVar, ev_getR, ev_iK, ev_iNil, ev_iCons, ev_op, ev_call, ev_callK, ev_iTest, ev_testR, ev_iTru, ev_truR, ev_truB, ev_truN, ev_truI, ev_iAnd, ev_iOr, ev_iNot, ev_iAndV, ev_iOrV, ev_iNotV, ev_iIf, ev_iNeg, ev_negR, ev_iTup, ev_iLst, ev_iLstO, ev_addI, ev_subI, ev_ltI, ev_leI, ev_gtI, ev_geI, ev_eq, ev_ne, ev_blR, eqD_int, eqD_pair, Option.map_some, ev_isB, ev_isNotB, ev_ixT, ev_ixL, ev_ixR, ev_ixR1, ev_gSub, ev_gsR, ev_gsR2, ev_sNil, ev_sSeq, ev_sAsg, ev_asgR, ev_gNm, ev_sExpr, ev_sRet, ev_sRetN, ev_sBreak, ev_sCont, ev_sIf, ev_sRaise, ev_sPar, ev_parR, ev_sPar3, ev_par3R, ev_whR, ev_whC, ev_whB, ev_whT, ev_clo1, ev_cloB, List.getElem?_cons_zero, List.getElem?_cons_succ, List.set_cons_zero, List.set_cons_succ, List.length_cons, List.length_nil, if_true, if_false, Bool.false_eq_true, Bool.not_true, Bool.not_false, h11]) (by rw [List.length_map]; exact Nat.le_trans lf (sz 6)) (fun d' hd m' => by
      obtain ⟨f, hf, rfl⟩ := List.mem_map.mp hd
      obtain ⟨f1, f2, f3⟩ := okf f hf
      have h14 : ((wipeR r [14]).set 14 (some (pD f)))[14]? = some (some (pD f)) := List.getElem?_set_self (by unfold wipeR; rw [List.length_set]; show 14 < r.length; omega)
      simp only [Res.bind_ok, Res.bind_err, Res.bind_bad, Res.thenS_ok, Res.thenS_err, Res.thenS_bad, SRes.bind_nx, SRes.bind_rt, SRes.bind_err, SRes.bind_bk, SRes.bind_ct, SRes.bind_bad, Res.safe_ok, ev_iVar, ev_getR, ev_iK, ev_iNil, ev_iCons, ev_op, ev_call, ev_callK, ev_iTest, ev_testR, ev_iTru, ev_truR, ev_truB, ev_truN, ev_truI, ev_iAnd, ev_iOr, ev_iNot, ev_iAndV, ev_iOrV, ev_iNotV, ev_iIf, ev_iNeg, ev_negR, ev_iTup, ev_iLst, ev_iLstO, ev_addI, ev_subI, ev_ltI, ev_leI, ev_gtI, ev_geI, ev_eq, ev_ne, ev_blR, eqD_int, eqD_pair, Option.map_some, ev_isB, ev_isNotB, ev_ixT, ev_ixL, ev_ixR, ev_ixR1, ev_gSub, ev_gsR, ev_gsR2, ev_sNil, ev_sSeq, ev_sAsg, ev_asgR, ev_gNm, ev_sExpr, ev_sRet, ev_sRetN, ev_sBreak, ev_sCont, ev_sIf, ev_sRaise, ev_sPar, ev_parR, ev_sPar3, ev_par3R, ev_whR, ev_whC, ev_whB, ev_whT, ev_clo1, ev_cloB, List.getElem?_cons_zero, List.getElem?_cons_succ, List.set_cons_zero, List.set_cons_succ, List.length_cons, List.length_nil, if_true, if_false, Bool.false_eq_true, Bool.not_true, Bool.not_false, h14, at0, at1, fo_is f1 (Nat.lt_of_le_of_lt f3.log (by decide))]) (fun d' hd => by
      obtain ⟨f, hf, rfl⟩ := List.mem_map.mp hd
      rfl)
    rw [List.map_map] at h
    exact h
  have s6 := fun m => same_fr h1 (h2.mono (k := 4000) (by omega)) (h3.mono (by omega)) m
  unfold t_law_17
  refine if_no ?_
  simp only [Res.bind_ok, Res.bind_err, Res.bind_bad, Res.thenS_ok, Res.thenS_err, Res.thenS_bad, SRes.bind_nx, SRes.bind_rt, SRes.bind_err, SRes.bind_bk, SRes.bind_ct, SRes.bind_bad, Res.safe_ok, ev_iVar, ev_getR, ev_iK, ev_iNil, ev_iCons, ev_op, ev_call, ev_callK, ev_iTest, ev_testR, ev_iTru, ev_truR, ev_truB, ev_truN, ev_truI, ev_iAnd, ev_iOr, ev_iNot, ev_iAndV, ev_iOrV, ev_iNotV, ev_iIf, ev_iNeg, ev_negR, ev_iTup, ev_iLst, ev_iLstO, ev_addI, ev_subI, ev_ltI, ev_leI, ev_gtI, ev_geI, ev_eq, ev_ne, ev_blR, eqD_int, eqD_pair, Option.map_some, ev_isB, ev_isNotB, ev_ixT, ev_ixL, ev_ixR, ev_ixR1, ev_gSub, ev_gsR, ev_gsR2, ev_sNil, ev_sSeq, ev_sAsg, ev_asgR, ev_gNm, ev_sExpr, ev_sRet, ev_sRetN, ev_sBreak, ev_sCont, ev_sIf, ev_sRaise, ev_sPar, ev_parR, ev_sPar3, ev_par3R, ev_whR, ev_whC, ev_whB, ev_whT, ev_clo1, ev_cloB, List.getElem?_cons_zero, List.getElem?_cons_succ, List.set_cons_zero, List.set_cons_succ, List.length_cons, List.length_nil, if_true, if_false, Bool.false_eq_true, Bool.not_true, Bool.not_false, slc, ev_tupL, sum_is okf (by omega), h12, h13, z2, s6]
end
/-! ### a turn, the law -/
noncomputable def body : MS := sSeq t_law_1 (sSeq t_law_2 (sSeq t_law_3 (sSeq t_law_4 (sSeq t_law_5 (sSeq t_law_6 (sSeq t_law_7 (sSeq t_law_8 (sSeq t_law_9 (sSeq t_law_10 (sSeq t_law_11 (sSeq t_law_12 (sSeq t_law_13 (sSeq t_law_14 (sSeq t_law_15 (sSeq t_law_16 (sSeq (sFor (iItA (iVar 11)) (gNm 14) t_law_0) (sSeq t_law_17 (sSeq t_law_18 t_law_19))))))))))))))))))
theorem turn_is {m : Mu} {ns : List Int} {k : Nat} (hk : k ≤ 100) (x2 x3 x4 x5 x6 x7 x8 x9 x10 x11 x12 x13 x14 x15 x16 : Option D) :
    ∃ r2 m2, body [some (.rol (ns.map D.int)), some (.int (k : Int)), x2, x3, x4, x5, x6, x7, x8, x9, x10, x11, x12, x13, x14, x15, x16] m = .nx r2 m2 ∧ (r2.length = 17 ∧ r2[0]? = some (some (.rol (ns.map D.int)))) := by
  obtain ⟨c0, e0, b0⟩ := box_is (m := m) (ns := ns) hk
  have g0 : (m ++ [c0])[m.length]? = some c0 := by simp
  generalize m.length = n at *
  generalize m ++ [c0] = M at *
  obtain ⟨a, b, c1, e1, b0', sa, sb, bx1⟩ := pair_is g0 b0 (by decide)
  obtain ⟨c, d, c2, e2, d0, sc, sd, bx2⟩ := pair_is (setAt (c' := c1) g0) bx1 (by decide)
  rw [set2] at e2
  have g2 : (M.set n c2)[n]? = some c2 := setAt g0
  generalize M.set n c2 = M2 at *
  have fo1 : ∀ m, m_fraction_of [.int a, .int b] m = .ok (frD a b) m := fo_is b0' (Nat.lt_of_le_of_lt sb.log (by decide))
  have fo2 : ∀ m, m_fraction_of [.int c, .int d] m = .ok (frD c d) m := fo_is d0 (Nat.lt_of_le_of_lt sd.log (by decide))
  have K : Fc a b c d := ⟨b0', d0, sa, sb, sc, sd⟩
  have wab := fun m => same_fr b0' (sa.mono (k := 4000) (by decide)) (sb.mono (by decide)) m
  have wcd := fun m => same_fr d0 (sc.mono (k := 4000) (by decide)) (sd.mono (by decide)) m
  unfold body
  refine seq_nx (r1 := [some (.rol (ns.map D.int)), some (.int (k : Int)), some (.loc n), x3, x4, x5, x6, x7, x8, x9, x10, x11, x12, x13, x14, x15, x16]) (m1 := M) (by unfold t_law_1; simp only [Res.bind_ok, Res.bind_err, Res.bind_bad, Res.thenS_ok, Res.thenS_err, Res.thenS_bad, SRes.bind_nx, SRes.bind_rt, SRes.bind_err, SRes.bind_bk, SRes.bind_ct, SRes.bind_bad, Res.safe_ok, ev_iVar, ev_getR, ev_iK, ev_iNil, ev_iCons, ev_op, ev_call, ev_callK, ev_iTest, ev_testR, ev_iTru, ev_truR, ev_truB, ev_truN, ev_truI, ev_iAnd, ev_iOr, ev_iNot, ev_iAndV, ev_iOrV, ev_iNotV, ev_iIf, ev_iNeg, ev_negR, ev_iTup, ev_iLst, ev_iLstO, ev_addI, ev_subI, ev_ltI, ev_leI, ev_gtI, ev_geI, ev_eq, ev_ne, ev_blR, eqD_int, eqD_pair, Option.map_some, ev_isB, ev_isNotB, ev_ixT, ev_ixL, ev_ixR, ev_ixR1, ev_gSub, ev_gsR, ev_gsR2, ev_sNil, ev_sSeq, ev_sAsg, ev_asgR, ev_gNm, ev_sExpr, ev_sRet, ev_sRetN, ev_sBreak, ev_sCont, ev_sIf, ev_sRaise, ev_sPar, ev_parR, ev_sPar3, ev_par3R, ev_whR, ev_whC, ev_whB, ev_whT, ev_clo1, ev_cloB, List.getElem?_cons_zero, List.getElem?_cons_succ, List.set_cons_zero, List.set_cons_succ, List.length_cons, List.length_nil, if_true, if_false, Bool.false_eq_true, Bool.not_true, Bool.not_false, e0]) ?_
  refine seq_nx (r1 := [some (.rol (ns.map D.int)), some (.int (k : Int)), some (.loc n), some (pr a b), some (pr c d), x5, x6, x7, x8, x9, x10, x11, x12, x13, x14, x15, x16]) (m1 := M2) (by unfold t_law_2; simp only [Res.bind_ok, Res.bind_err, Res.bind_bad, Res.thenS_ok, Res.thenS_err, Res.thenS_bad, SRes.bind_nx, SRes.bind_rt, SRes.bind_err, SRes.bind_bk, SRes.bind_ct, SRes.bind_bad, Res.safe_ok, ev_iVar, ev_getR, ev_iK, ev_iNil, ev_iCons, ev_op, ev_call, ev_callK, ev_iTest, ev_testR, ev_iTru, ev_truR, ev_truB, ev_truN, ev_truI, ev_iAnd, ev_iOr, ev_iNot, ev_iAndV, ev_iOrV, ev_iNotV, ev_iIf, ev_iNeg, ev_negR, ev_iTup, ev_iLst, ev_iLstO, ev_addI, ev_subI, ev_ltI, ev_leI, ev_gtI, ev_geI, ev_eq, ev_ne, ev_blR, eqD_int, eqD_pair, Option.map_some, ev_isB, ev_isNotB, ev_ixT, ev_ixL, ev_ixR, ev_ixR1, ev_gSub, ev_gsR, ev_gsR2, ev_sNil, ev_sSeq, ev_sAsg, ev_asgR, ev_gNm, ev_sExpr, ev_sRet, ev_sRetN, ev_sBreak, ev_sCont, ev_sIf, ev_sRaise, ev_sPar, ev_parR, ev_sPar3, ev_par3R, ev_whR, ev_whC, ev_whB, ev_whT, ev_clo1, ev_cloB, List.getElem?_cons_zero, List.getElem?_cons_succ, List.set_cons_zero, List.set_cons_succ, List.length_cons, List.length_nil, if_true, if_false, Bool.false_eq_true, Bool.not_true, Bool.not_false, e1, e2]) ?_
  refine seq_nx (r1 := [some (.rol (ns.map D.int)), some (.int (k : Int)), some (.loc n), some (pr a b), some (pr c d), some (frD a b), some (frD c d), x7, x8, x9, x10, x11, x12, x13, x14, x15, x16]) (m1 := M2) (by unfold t_law_3; simp only [Res.bind_ok, Res.bind_err, Res.bind_bad, Res.thenS_ok, Res.thenS_err, Res.thenS_bad, SRes.bind_nx, SRes.bind_rt, SRes.bind_err, SRes.bind_bk, SRes.bind_ct, SRes.bind_bad, Res.safe_ok, ev_iVar, ev_getR, ev_iK, ev_iNil, ev_iCons, ev_op, ev_call, ev_callK, ev_iTest, ev_testR, ev_iTru, ev_truR, ev_truB, ev_truN, ev_truI, ev_iAnd, ev_iOr, ev_iNot, ev_iAndV, ev_iOrV, ev_iNotV, ev_iIf, ev_iNeg, ev_negR, ev_iTup, ev_iLst, ev_iLstO, ev_addI, ev_subI, ev_ltI, ev_leI, ev_gtI, ev_geI, ev_eq, ev_ne, ev_blR, eqD_int, eqD_pair, Option.map_some, ev_isB, ev_isNotB, ev_ixT, ev_ixL, ev_ixR, ev_ixR1, ev_gSub, ev_gsR, ev_gsR2, ev_sNil, ev_sSeq, ev_sAsg, ev_asgR, ev_gNm, ev_sExpr, ev_sRet, ev_sRetN, ev_sBreak, ev_sCont, ev_sIf, ev_sRaise, ev_sPar, ev_parR, ev_sPar3, ev_par3R, ev_whR, ev_whC, ev_whB, ev_whT, ev_clo1, ev_cloB, List.getElem?_cons_zero, List.getElem?_cons_succ, List.set_cons_zero, List.set_cons_succ, List.length_cons, List.length_nil, if_true, if_false, Bool.false_eq_true, Bool.not_true, Bool.not_false, at0, at1, fo1, and_self, pk10, fo2]) ?_
  refine seq_nx (m1 := M2) (by unfold t_law_4; refine if_no ?_; simp only [Res.bind_ok, Res.bind_err, Res.bind_bad, Res.thenS_ok, Res.thenS_err, Res.thenS_bad, SRes.bind_nx, SRes.bind_rt, SRes.bind_err, SRes.bind_bk, SRes.bind_ct, SRes.bind_bad, Res.safe_ok, ev_iVar, ev_getR, ev_iK, ev_iNil, ev_iCons, ev_op, ev_call, ev_callK, ev_iTest, ev_testR, ev_iTru, ev_truR, ev_truB, ev_truN, ev_truI, ev_iAnd, ev_iOr, ev_iNot, ev_iAndV, ev_iOrV, ev_iNotV, ev_iIf, ev_iNeg, ev_negR, ev_iTup, ev_iLst, ev_iLstO, ev_addI, ev_subI, ev_ltI, ev_leI, ev_gtI, ev_geI, ev_eq, ev_ne, ev_blR, eqD_int, eqD_pair, Option.map_some, ev_isB, ev_isNotB, ev_ixT, ev_ixL, ev_ixR, ev_ixR1, ev_gSub, ev_gsR, ev_gsR2, ev_sNil, ev_sSeq, ev_sAsg, ev_asgR, ev_gNm, ev_sExpr, ev_sRet, ev_sRetN, ev_sBreak, ev_sCont, ev_sIf, ev_sRaise, ev_sPar, ev_parR, ev_sPar3, ev_par3R, ev_whR, ev_whC, ev_whB, ev_whT, ev_clo1, ev_cloB, List.getElem?_cons_zero, List.getElem?_cons_succ, List.set_cons_zero, List.set_cons_succ, List.length_cons, List.length_nil, if_true, if_false, Bool.false_eq_true, Bool.not_true, Bool.not_false, wab, wcd]) ?_
  refine seq_nx (r1 := [some (.rol (ns.map D.int)), some (.int (k : Int)), some (.loc n), some (pr a b), some (pr c d), some (frD a b), some (frD c d), some (.int a), some (.int b), some (.int c), some (.int d), x11, x12, x13, x14, x15, x16]) (m1 := M2) (by unfold t_law_5; simp only [Res.bind_ok, Res.bind_err, Res.bind_bad, Res.thenS_ok, Res.thenS_err, Res.thenS_bad, SRes.bind_nx, SRes.bind_rt, SRes.bind_err, SRes.bind_bk, SRes.bind_ct, SRes.bind_bad, Res.safe_ok, ev_iVar, ev_getR, ev_iK, ev_iNil, ev_iCons, ev_op, ev_call, ev_callK, ev_iTest, ev_testR, ev_iTru, ev_truR, ev_truB, ev_truN, ev_truI, ev_iAnd, ev_iOr, ev_iNot, ev_iAndV, ev_iOrV, ev_iNotV, ev_iIf, ev_iNeg, ev_negR, ev_iTup, ev_iLst, ev_iLstO, ev_addI, ev_subI, ev_ltI, ev_leI, ev_gtI, ev_geI, ev_eq, ev_ne, ev_blR, eqD_int, eqD_pair, Option.map_some, ev_isB, ev_isNotB, ev_ixT, ev_ixL, ev_ixR, ev_ixR1, ev_gSub, ev_gsR, ev_gsR2, ev_sNil, ev_sSeq, ev_sAsg, ev_asgR, ev_gNm, ev_sExpr, ev_sRet, ev_sRetN, ev_sBreak, ev_sCont, ev_sIf, ev_sRaise, ev_sPar, ev_parR, ev_sPar3, ev_par3R, ev_whR, ev_whC, ev_whB, ev_whT, ev_clo1, ev_cloB, List.getElem?_cons_zero, List.getElem?_cons_succ, List.set_cons_zero, List.set_cons_succ, List.length_cons, List.length_nil, if_true, if_false, Bool.false_eq_true, Bool.not_true, Bool.not_false, at0, at1, z4, asg_tup4]) ?_
  have S : Sl (.rol (ns.map D.int)) n a b c d [some (.rol (ns.map D.int)), some (.int (k : Int)), some (.loc n), some (pr a b), some (pr c d), some (frD a b), some (frD c d), some (.int a), some (.int b), some (.int c), some (.int d), x11, x12, x13, x14, x15, x16] := ⟨rfl, rfl, rfl, rfl, rfl, rfl, rfl, rfl, rfl⟩
  revert S
  generalize [some (.rol (ns.map D.int)), some (.int (k : Int)), some (.loc n), some (pr a b), some (pr c d), some (frD a b), some (frD c d), some (.int a), some (.int b), some (.int c), some (.int d), x11, x12, x13, x14, x15, x16] = r
  intro S
  refine seq_nx (st6 K S M2) ?_
  refine seq_nx (st7 K S M2) ?_
  refine seq_nx (st8 K S M2) ?_
  refine seq_nx (st9 K S M2) ?_
  refine seq_nx (st10 K S M2) ?_
  refine seq_nx (st11 K S M2) ?_
  refine seq_nx (st12 K S M2) ?_
  refine seq_nx (st13 K S M2) ?_
  refine seq_nx (st14 K S M2) ?_
  obtain ⟨fs, c3, e3, okf, lf, bx3⟩ := st15 K S M2 g2 bx2 (by decide)
  refine seq_nx e3 ?_
  have g3 : (M2.set n c3)[n]? = some c3 := setAt g2
  generalize M2.set n c3 = M3 at *
  have S2 := S.set (k := 11) (by decide) (some (.lst (fs.map pD)))
  have h11 : (r.set 11 (some (.lst (fs.map pD))))[11]? = some (some (.lst (fs.map pD))) := List.getElem?_set_self (by rw [S.len]; decide)
  generalize r.set 11 (some (.lst (fs.map pD))) = r2 at *
  refine seq_nx (r1 := (r2.set 12 (some (.int 0))).set 13 (some (.int 1))) (m1 := M3) (by unfold t_law_16; simp only [Res.bind_ok, Res.bind_err, Res.bind_bad, Res.thenS_ok, Res.thenS_err, Res.thenS_bad, SRes.bind_nx, SRes.bind_rt, SRes.bind_err, SRes.bind_bk, SRes.bind_ct, SRes.bind_bad, Res.safe_ok, ev_iVar, ev_getR, ev_iK, ev_iNil, ev_iCons, ev_op, ev_call, ev_callK, ev_iTest, ev_testR, ev_iTru, ev_truR, ev_truB, ev_truN, ev_truI, ev_iAnd, ev_iOr, ev_iNot, ev_iAndV, ev_iOrV, ev_iNotV, ev_iIf, ev_iNeg, ev_negR, ev_iTup, ev_iLst, ev_iLstO, ev_addI, ev_subI, ev_ltI, ev_leI, ev_gtI, ev_geI, ev_eq, ev_ne, ev_blR, eqD_int, eqD_pair, Option.map_some, ev_isB, ev_isNotB, ev_ixT, ev_ixL, ev_ixR, ev_ixR1, ev_gSub, ev_gsR, ev_gsR2, ev_sNil, ev_sSeq, ev_sAsg, ev_asgR, ev_gNm, ev_sExpr, ev_sRet, ev_sRetN, ev_sBreak, ev_sCont, ev_sIf, ev_sRaise, ev_sPar, ev_parR, ev_sPar3, ev_par3R, ev_whR, ev_whC, ev_whB, ev_whT, ev_clo1, ev_cloB, List.getElem?_cons_zero, List.getElem?_cons_succ, List.set_cons_zero, List.set_cons_succ, List.length_cons, List.length_nil, if_true, if_false, Bool.false_eq_true, Bool.not_true, Bool.not_false, z2, asg_tup2]) ?_
  have S3 := (S2.set (k := 12) (by decide) (some (.int 0))).set (k := 13) (by decide) (some (.int 1))
  have l3 := S2.len
  refine seq_ex (st_for S3 okf lf (m := M3) (by rw [List.getElem?_set_ne (by decide), List.getElem?_set_ne (by decide)]; exact h11) (by rw [List.getElem?_set_ne (by decide)]; exact List.getElem?_set_self (by omega)) (List.getElem?_set_self (by rw [List.length_set]; omega))) ?_
  rintro r3 m3 ⟨rfl, S4, j11, j12, j13⟩
  refine seq_nx (st17 S4 okf lf j11 j12 j13) ?_
  refine seq_nx (st18 K S4 m3) ?_
  obtain ⟨m4, e4⟩ := st19 K S4 m3 g3 bx3 (by decide)
  exact ⟨r3, m4, e4, S4.len, S4.h0⟩
theorem len_succ {A : Type} {l : List A} {n : Nat} (h : l.length = n + 1) : ∃ a t, l = a :: t ∧ t.length = n := by
  cases l with
  | nil => simp at h
  | cons a t => exact ⟨a, t, rfl, by simpa using h⟩
theorem hj_is (l : Nat) : ∃ j : Nat, (if (if (l : Int) < 3 then (l : Int) else 3) > 1 then (if (l : Int) < 3 then (l : Int) else 3) else 1) = (j : Int) ∧ j ≤ 3 := by
  by_cases h : (l : Int) < 3
  · rw [if_pos h]
    by_cases h1 : (l : Int) > 1
    · rw [if_pos h1]
      exact ⟨l, rfl, by omega⟩
    · rw [if_neg h1]
      exact ⟨1, rfl, by decide⟩
  · rw [if_neg h]
    exact ⟨3, rfl, by decide⟩
theorem hit_is {R : List D} {r : Rho} {m : Mu} (h0 : r[0]? = some (some (.rol R))) : ∃ j : Nat, j ≤ 3 ∧ iItR1 (iCons (iCall pMax2 (iCons (iK (.int 1)) (iCons (iCall pMin2 (iCons (iK (.int 3)) (iCons (iCall pLen (iCons (iVar 0) iNil)) iNil))) iNil))) iNil) r m = .ok (rangeD 0 j, none) m := by
  obtain ⟨j, hj, hj3⟩ := hj_is R.length
  refine ⟨j, hj3, ?_⟩
  have e1 : ∀ (i : Int) m, pMin2 [.int 3, .int i] m = .ok (.int (if i < 3 then i else 3)) m := fun _ _ => rfl
  have e2 : ∀ (i : Int) m, pMax2 [.int 1, .int i] m = .ok (.int (if i > 1 then i else 1)) m := fun _ _ => rfl
  have h1 : iCons (iCall pMax2 (iCons (iK (.int 1)) (iCons (iCall pMin2 (iCons (iK (.int 3)) (iCons (iCall pLen (iCons (iVar 0) iNil)) iNil))) iNil))) iNil r m = .ok [.int (j : Int)] m := by
    simp only [Res.bind_ok, Res.bind_err, Res.bind_bad, Res.thenS_ok, Res.thenS_err, Res.thenS_bad, SRes.bind_nx, SRes.bind_rt, SRes.bind_err, SRes.bind_bk, SRes.bind_ct, SRes.bind_bad, Res.safe_ok, ev_iVar, ev_getR, ev_iK, ev_iNil, ev_iCons, ev_op, ev_call, ev_callK, ev_iTest, ev_testR, ev_iTru, ev_truR, ev_truB, ev_truN, ev_truI, ev_iAnd, ev_iOr, ev_iNot, ev_iAndV, ev_iOrV, ev_iNotV, ev_iIf, ev_iNeg, ev_negR, ev_iTup, ev_iLst, ev_iLstO, ev_addI, ev_subI, ev_ltI, ev_leI, ev_gtI, ev_geI, ev_eq, ev_ne, ev_blR, eqD_int, eqD_pair, Option.map_some, ev_isB, ev_isNotB, ev_ixT, ev_ixL, ev_ixR, ev_ixR1, ev_gSub, ev_gsR, ev_gsR2, ev_sNil, ev_sSeq, ev_sAsg, ev_asgR, ev_gNm, ev_sExpr, ev_sRet, ev_sRetN, ev_sBreak, ev_sCont, ev_sIf, ev_sRaise, ev_sPar, ev_parR, ev_sPar3, ev_par3R, ev_whR, ev_whC, ev_whB, ev_whT, ev_clo1, ev_cloB, List.getElem?_cons_zero, List.getElem?_cons_succ, List.set_cons_zero, List.set_cons_succ, List.length_cons, List.length_nil, if_true, if_false, Bool.false_eq_true, Bool.not_true, Bool.not_false, h0, ev_lenR, e1, e2, hj]
  rw [ev_iItR1, h1, Res.bind_ok]
  exact ev_r1N j m (by omega)
theorem for_is {ns : List Int} {r : Rho} {m : Mu} (hr : r.length = 17) (h0 : r[0]? = some (some (.rol (ns.map D.int)))) : ∃ r' m', t_law_20 r m = .nx r' m' ∧ True := by
  obtain ⟨j, hj3, hit⟩ := hit_is (m := m) h0
  unfold t_law_20
  obtain ⟨r', m', e, _⟩ := for_inv (g := gNm 1) (b := body) (Q := fun _ r _ => r.length = 17 ∧ r[0]? = some (some (.rol (ns.map D.int)))) hit ⟨hr, h0⟩ (by
    rintro i d r m hi ⟨hl, h0⟩
    unfold rangeD at hi
    rw [List.getElem?_map, Option.map_eq_some_iff] at hi
    obtain ⟨k, hk, rfl⟩ := hi
    obtain ⟨hk1, hk2⟩ := List.getElem?_eq_some_iff.mp hk
    rw [List.length_range] at hk1
    rw [List.getElem_range] at hk2
    subst hk2
    rw [Int.zero_add]
    obtain ⟨x0, r, rfl, hl1⟩ := len_succ (n := 16) hl
    obtain ⟨x1, r, rfl, hl2⟩ := len_succ (n := 15) hl1
    obtain ⟨x2, r, rfl, hl3⟩ := len_succ (n := 14) hl2
    obtain ⟨x3, r, rfl, hl4⟩ := len_succ (n := 13) hl3
    obtain ⟨x4, r, rfl, hl5⟩ := len_succ (n := 12) hl4
    obtain ⟨x5, r, rfl, hl6⟩ := len_succ (n := 11) hl5
    obtain ⟨x6, r, rfl, hl7⟩ := len_succ (n := 10) hl6
    obtain ⟨x7, r, rfl, hl8⟩ := len_succ (n := 9) hl7
    obtain ⟨x8, r, rfl, hl9⟩ := len_succ (n := 8) hl8
    obtain ⟨x9, r, rfl, hl10⟩ := len_succ (n := 7) hl9
    obtain ⟨x10, r, rfl, hl11⟩ := len_succ (n := 6) hl10
    obtain ⟨x11, r, rfl, hl12⟩ := len_succ (n := 5) hl11
    obtain ⟨x12, r, rfl, hl13⟩ := len_succ (n := 4) hl12
    obtain ⟨x13, r, rfl, hl14⟩ := len_succ (n := 3) hl13
    obtain ⟨x14, r, rfl, hl15⟩ := len_succ (n := 2) hl14
    obtain ⟨x15, r, rfl, hl16⟩ := len_succ (n := 1) hl15
    obtain ⟨x16, r, rfl, hl17⟩ := len_succ (n := 0) hl16
    have hr : r = [] := List.eq_nil_of_length_eq_zero hl17
    subst hr
    rw [List.getElem?_cons_zero] at h0
    have h00 : x0 = some (.rol (ns.map D.int)) := Option.some.inj h0
    subst h00
    exact ⟨_, _, rfl, turn_is (by omega) x2 x3 x4 x5 x6 x7 x8 x9 x10 x11 x12 x13 x14 x15 x16⟩)
  exact ⟨r', m', e, trivial⟩
theorem law_true : ∀ ns : List Int, ns.length ≤ 63 → ∃ m', m_law [.rol (ns.map D.int)] [] = .ok (.bl true) m' := by
  intro ns hns
  rw [ap_law]
  unfold b_law
  refine seq_cloE (x := fun y => ∃ m', y = .ok (.bl true) m') (for_is (ns := ns) rfl rfl) ?_
  rintro r1 m1 _
  refine ⟨m1.take 0, ?_⟩
  simp only [Res.bind_ok, Res.bind_err, Res.bind_bad, Res.thenS_ok, Res.thenS_err, Res.thenS_bad, SRes.bind_nx, SRes.bind_rt, SRes.bind_err, SRes.bind_bk, SRes.bind_ct, SRes.bind_bad, Res.safe_ok, ev_iVar, ev_getR, ev_iK, ev_iNil, ev_iCons, ev_op, ev_call, ev_callK, ev_iTest, ev_testR, ev_iTru, ev_truR, ev_truB, ev_truN, ev_truI, ev_iAnd, ev_iOr, ev_iNot, ev_iAndV, ev_iOrV, ev_iNotV, ev_iIf, ev_iNeg, ev_negR, ev_iTup, ev_iLst, ev_iLstO, ev_addI, ev_subI, ev_ltI, ev_leI, ev_gtI, ev_geI, ev_eq, ev_ne, ev_blR, eqD_int, eqD_pair, Option.map_some, ev_isB, ev_isNotB, ev_ixT, ev_ixL, ev_ixR, ev_ixR1, ev_gSub, ev_gsR, ev_gsR2, ev_sNil, ev_sSeq, ev_sAsg, ev_asgR, ev_gNm, ev_sExpr, ev_sRet, ev_sRetN, ev_sBreak, ev_sCont, ev_sIf, ev_sRaise, ev_sPar, ev_parR, ev_sPar3, ev_par3R, ev_whR, ev_whC, ev_whB, ev_whT, ev_clo1, ev_cloB, List.getElem?_cons_zero, List.getElem?_cons_succ, List.set_cons_zero, List.set_cons_succ, List.length_cons, List.length_nil, if_true, if_false, Bool.false_eq_true, Bool.not_true, Bool.not_false]
  rfl
end K44

namespace K44
open PySem PySem.Spec PyProof.Rows L2 Mr PySem.W
theorem all_mk {P : Program} {w : World} {K : PySem.W.Frag} {h : Heap} {mg : Str → Option Value} {fa : Addr} (X : K.In h) (G : h.Ns mainGlobals mg) (hfa : mg "law" = some (.ref fa))
    {fa0 : Addr} {od0 an0 : Option Addr} {sl0 : Array (Option Value)} {oc0 kV0 dc0 pm0 cd0 ct0 : Value} {fa1 : Addr} {od1 an1 : Option Addr} {sl1 : Array (Option Value)} {oc1 kV1 dc1 pm1 cd1 ct1 : Value} {fa2 : Addr} {od2 an2 : Option Addr} {sl2 : Array (Option Value)} {oc2 kV2 dc2 pm2 cd2 ct2 : Value} {fa3 : Addr} {od3 an3 : Option Addr} {sl3 : Array (Option Value)} {oc3 kV3 dc3 pm3 cd3 ct3 : Value} {fa4 : Addr} {od4 an4 : Option Addr} {sl4 : Array (Option Value)} {oc4 kV4 dc4 pm4 cd4 ct4 : Value} {fa5 : Addr} {od5 an5 : Option Addr} {sl5 : Array (Option Value)} {oc5 kV5 dc5 pm5 cd5 ct5 : Value} {fa6 : Addr} {od6 an6 : Option Addr} {sl6 : Array (Option Value)} {oc6 kV6 dc6 pm6 cd6 ct6 : Value} {fa7 : Addr} {od7 an7 : Option Addr} {sl7 : Array (Option Value)} {oc7 kV7 dc7 pm7 cd7 ct7 : Value} {fa8 : Addr} {od8 an8 : Option Addr} {sl8 : Array (Option Value)} {oc8 kV8 dc8 pm8 cd8 ct8 : Value} {fa9 : Addr} {od9 an9 : Option Addr} {sl9 : Array (Option Value)} {oc9 kV9 dc9 pm9 cd9 ct9 : Value} {fa10 : Addr} {od10 an10 : Option Addr} {sl10 : Array (Option Value)} {oc10 kV10 dc10 pm10 cd10 ct10 : Value} {fa11 : Addr} {od11 an11 : Option Addr} {sl11 : Array (Option Value)} {oc11 kV11 dc11 pm11 cd11 ct11 : Value} {fa12 : Addr} {od12 an12 : Option Addr} {sl12 : Array (Option Value)} {oc12 kV12 dc12 pm12 cd12 ct12 : Value} {fa13 : Addr} {od13 an13 : Option Addr} {sl13 : Array (Option Value)} {oc13 kV13 dc13 pm13 cd13 ct13 : Value} {fa14 : Addr} {od14 an14 : Option Addr} {sl14 : Array (Option Value)} {oc14 kV14 dc14 pm14 cd14 ct14 : Value} {fa15 : Addr} {od15 an15 : Option Addr} {sl15 : Array (Option Value)} {oc15 kV15 dc15 pm15 cd15 ct15 : Value} {fa16 : Addr} {od16 an16 : Option Addr} {sl16 : Array (Option Value)} {oc16 kV16 dc16 pm16 cd16 ct16 : Value} {fa17 : Addr} {od17 an17 : Option Addr} {sl17 : Array (Option Value)} {oc17 kV17 dc17 pm17 cd17 ct17 : Value} {fa18 : Addr} {od18 an18 : Option Addr} {sl18 : Array (Option Value)} {oc18 kV18 dc18 pm18 cd18 ct18 : Value} {fa19 : Addr} {od19 an19 : Option Addr} {sl19 : Array (Option Value)} {oc19 kV19 dc19 pm19 cd19 ct19 : Value} {fa20 : Addr} {od20 an20 : Option Addr} {sl20 : Array (Option Value)} {oc20 kV20 dc20 pm20 cd20 ct20 : Value} {fa21 : Addr} {od21 an21 : Option Addr} {sl21 : Array (Option Value)} {oc21 kV21 dc21 pm21 cd21 ct21 : Value} {ga_ZERO : Addr} {god_ZERO : Option Addr} {gn_ZERO : Nat} {gs_ZERO : Array (Option Value)} {t0_ZERO : Tok} {t1_ZERO : Tok} {fc_RoomError : Addr} {fc_InvalidNumber : Addr} {fc_Refused : Addr} {nm_InvalidNumber q_InvalidNumber : Str} {N_InvalidNumber : Addr} {bs_InvalidNumber : List Value} {sn_InvalidNumber : List Str} {sb_InvalidNumber : List Value} {ab_InvalidNumber : Bool} {col_InvalidNumber : Option Bool} {dd_InvalidNumber : Option Addr} {k0_InvalidNumber k1_InvalidNumber k2_InvalidNumber k3_InvalidNumber k5_InvalidNumber : Option Value} {fi_InvalidNumber cda_InvalidNumber cc_InvalidNumber : Addr} {iod_InvalidNumber ian_InvalidNumber icd_InvalidNumber icl_InvalidNumber : Option Addr} {isl_InvalidNumber ics_InvalidNumber ict_InvalidNumber : Array (Option Value)} {ioc_InvalidNumber idc_InvalidNumber ipm_InvalidNumber ict0_InvalidNumber iccl_InvalidNumber icll_InvalidNumber : Value} {ivs_InvalidNumber : Array Value} {ifl_InvalidNumber : Str} {itf_InvalidNumber : Tok}
    (m0 : PySem.W.nsIn K mainGlobals "is_integer" = some (some (.ref fa0)))
    (l0 : K.lookup fa0 = some ⟨oc0, od0, .func (PySem.W.fnOf "is_integer" "is_integer" (defArgs st_is_integer) (defBody st_is_integer) (defScope st_is_integer) .none kV0 dc0 pm0 an0 cd0 ct0), sl0⟩)
    (c0 : PySem.W.codeIn K cd0 "is_integer" = true)
    (k0 : PySem.W.keepIn K (.ref fa0) = true)
    (m1 : PySem.W.nsIn K mainGlobals "common_divisor" = some (some (.ref fa1)))
    (l1 : K.lookup fa1 = some ⟨oc1, od1, .func (PySem.W.fnOf "common_divisor" "common_divisor" (defArgs st_common_divisor) (defBody st_common_divisor) (defScope st_common_divisor) .none kV1 dc1 pm1 an1 cd1 ct1), sl1⟩)
    (c1 : PySem.W.codeIn K cd1 "common_divisor" = true)
    (k1 : PySem.W.keepIn K (.ref fa1) = true)
    (m2 : PySem.W.nsIn K mainGlobals "fraction_of" = some (some (.ref fa2)))
    (l2 : K.lookup fa2 = some ⟨oc2, od2, .func (PySem.W.fnOf "fraction_of" "fraction_of" (defArgs st_fraction_of) (defBody st_fraction_of) (defScope st_fraction_of) .none kV2 dc2 pm2 an2 cd2 ct2), sl2⟩)
    (c2 : PySem.W.codeIn K cd2 "fraction_of" = true)
    (k2 : PySem.W.keepIn K (.ref fa2) = true)
    (m3 : PySem.W.nsIn K mainGlobals "is_fraction" = some (some (.ref fa3)))
    (l3 : K.lookup fa3 = some ⟨oc3, od3, .func (PySem.W.fnOf "is_fraction" "is_fraction" (defArgs st_is_fraction) (defBody st_is_fraction) (defScope st_is_fraction) .none kV3 dc3 pm3 an3 cd3 ct3), sl3⟩)
    (c3 : PySem.W.codeIn K cd3 "is_fraction" = true)
    (k3 : PySem.W.keepIn K (.ref fa3) = true)
    (m4 : PySem.W.nsIn K mainGlobals "plus" = some (some (.ref fa4)))
    (l4 : K.lookup fa4 = some ⟨oc4, od4, .func (PySem.W.fnOf "plus" "plus" (defArgs st_plus) (defBody st_plus) (defScope st_plus) .none kV4 dc4 pm4 an4 cd4 ct4), sl4⟩)
    (c4 : PySem.W.codeIn K cd4 "plus" = true)
    (k4 : PySem.W.keepIn K (.ref fa4) = true)
    (m5 : PySem.W.nsIn K mainGlobals "minus" = some (some (.ref fa5)))
    (l5 : K.lookup fa5 = some ⟨oc5, od5, .func (PySem.W.fnOf "minus" "minus" (defArgs st_minus) (defBody st_minus) (defScope st_minus) .none kV5 dc5 pm5 an5 cd5 ct5), sl5⟩)
    (c5 : PySem.W.codeIn K cd5 "minus" = true)
    (k5 : PySem.W.keepIn K (.ref fa5) = true)
    (m6 : PySem.W.nsIn K mainGlobals "times" = some (some (.ref fa6)))
    (l6 : K.lookup fa6 = some ⟨oc6, od6, .func (PySem.W.fnOf "times" "times" (defArgs st_times) (defBody st_times) (defScope st_times) .none kV6 dc6 pm6 an6 cd6 ct6), sl6⟩)
    (c6 : PySem.W.codeIn K cd6 "times" = true)
    (k6 : PySem.W.keepIn K (.ref fa6) = true)
    (m7 : PySem.W.nsIn K mainGlobals "ratio" = some (some (.ref fa7)))
    (l7 : K.lookup fa7 = some ⟨oc7, od7, .func (PySem.W.fnOf "ratio" "ratio" (defArgs st_ratio) (defBody st_ratio) (defScope st_ratio) .none kV7 dc7 pm7 an7 cd7 ct7), sl7⟩)
    (c7 : PySem.W.codeIn K cd7 "ratio" = true)
    (k7 : PySem.W.keepIn K (.ref fa7) = true)
    (m8 : PySem.W.nsIn K mainGlobals "less" = some (some (.ref fa8)))
    (l8 : K.lookup fa8 = some ⟨oc8, od8, .func (PySem.W.fnOf "less" "less" (defArgs st_less) (defBody st_less) (defScope st_less) .none kV8 dc8 pm8 an8 cd8 ct8), sl8⟩)
    (c8 : PySem.W.codeIn K cd8 "less" = true)
    (k8 : PySem.W.keepIn K (.ref fa8) = true)
    (m9 : PySem.W.nsIn K mainGlobals "sum_of" = some (some (.ref fa9)))
    (l9 : K.lookup fa9 = some ⟨oc9, od9, .func (PySem.W.fnOf "sum_of" "sum_of" (defArgs st_sum_of) (defBody st_sum_of) (defScope st_sum_of) .none kV9 dc9 pm9 an9 cd9 ct9), sl9⟩)
    (c9 : PySem.W.codeIn K cd9 "sum_of" = true)
    (k9 : PySem.W.keepIn K (.ref fa9) = true)
    (m10 : PySem.W.nsIn K mainGlobals "_law_box" = some (some (.ref fa10)))
    (l10 : K.lookup fa10 = some ⟨oc10, od10, .func (PySem.W.fnOf "_law_box" "_law_box" (defArgs st__law_box) (defBody st__law_box) (defScope st__law_box) .none kV10 dc10 pm10 an10 cd10 ct10), sl10⟩)
    (c10 : PySem.W.codeIn K cd10 "_law_box" = true)
    (k10 : PySem.W.keepIn K (.ref fa10) = true)
    (m11 : PySem.W.nsIn K mainGlobals "_law_take" = some (some (.ref fa11)))
    (l11 : K.lookup fa11 = some ⟨oc11, od11, .func (PySem.W.fnOf "_law_take" "_law_take" (defArgs st__law_take) (defBody st__law_take) (defScope st__law_take) .none kV11 dc11 pm11 an11 cd11 ct11), sl11⟩)
    (c11 : PySem.W.codeIn K cd11 "_law_take" = true)
    (k11 : PySem.W.keepIn K (.ref fa11) = true)
    (m12 : PySem.W.nsIn K mainGlobals "_law_pick" = some (some (.ref fa12)))
    (l12 : K.lookup fa12 = some ⟨oc12, od12, .func (PySem.W.fnOf "_law_pick" "_law_pick" (defArgs st__law_pick) (defBody st__law_pick) (defScope st__law_pick) .none kV12 dc12 pm12 an12 cd12 ct12), sl12⟩)
    (c12 : PySem.W.codeIn K cd12 "_law_pick" = true)
    (k12 : PySem.W.keepIn K (.ref fa12) = true)
    (m13 : PySem.W.nsIn K mainGlobals "_law_divisor" = some (some (.ref fa13)))
    (l13 : K.lookup fa13 = some ⟨oc13, od13, .func (PySem.W.fnOf "_law_divisor" "_law_divisor" (defArgs st__law_divisor) (defBody st__law_divisor) (defScope st__law_divisor) .none kV13 dc13 pm13 an13 cd13 ct13), sl13⟩)
    (c13 : PySem.W.codeIn K cd13 "_law_divisor" = true)
    (k13 : PySem.W.keepIn K (.ref fa13) = true)
    (m14 : PySem.W.nsIn K mainGlobals "_law_is_fraction" = some (some (.ref fa14)))
    (l14 : K.lookup fa14 = some ⟨oc14, od14, .func (PySem.W.fnOf "_law_is_fraction" "_law_is_fraction" (defArgs st__law_is_fraction) (defBody st__law_is_fraction) (defScope st__law_is_fraction) .none kV14 dc14 pm14 an14 cd14 ct14), sl14⟩)
    (c14 : PySem.W.codeIn K cd14 "_law_is_fraction" = true)
    (k14 : PySem.W.keepIn K (.ref fa14) = true)
    (m15 : PySem.W.nsIn K mainGlobals "_law_same" = some (some (.ref fa15)))
    (l15 : K.lookup fa15 = some ⟨oc15, od15, .func (PySem.W.fnOf "_law_same" "_law_same" (defArgs st__law_same) (defBody st__law_same) (defScope st__law_same) .none kV15 dc15 pm15 an15 cd15 ct15), sl15⟩)
    (c15 : PySem.W.codeIn K cd15 "_law_same" = true)
    (k15 : PySem.W.keepIn K (.ref fa15) = true)
    (m16 : PySem.W.nsIn K mainGlobals "_law_number" = some (some (.ref fa16)))
    (l16 : K.lookup fa16 = some ⟨oc16, od16, .func (PySem.W.fnOf "_law_number" "_law_number" (defArgs st__law_number) (defBody st__law_number) (defScope st__law_number) .none kV16 dc16 pm16 an16 cd16 ct16), sl16⟩)
    (c16 : PySem.W.codeIn K cd16 "_law_number" = true)
    (k16 : PySem.W.keepIn K (.ref fa16) = true)
    (m17 : PySem.W.nsIn K mainGlobals "_law_pair" = some (some (.ref fa17)))
    (l17 : K.lookup fa17 = some ⟨oc17, od17, .func (PySem.W.fnOf "_law_pair" "_law_pair" (defArgs st__law_pair) (defBody st__law_pair) (defScope st__law_pair) .none kV17 dc17 pm17 an17 cd17 ct17), sl17⟩)
    (c17 : PySem.W.codeIn K cd17 "_law_pair" = true)
    (k17 : PySem.W.keepIn K (.ref fa17) = true)
    (m18 : PySem.W.nsIn K mainGlobals "_law_refused" = some (some (.ref fa18)))
    (l18 : K.lookup fa18 = some ⟨oc18, od18, .func (PySem.W.fnOf "_law_refused" "_law_refused" (defArgs st__law_refused) (defBody st__law_refused) (defScope st__law_refused) .none kV18 dc18 pm18 an18 cd18 ct18), sl18⟩)
    (c18 : PySem.W.codeIn K cd18 "_law_refused" = true)
    (k18 : PySem.W.keepIn K (.ref fa18) = true)
    (m19 : PySem.W.nsIn K mainGlobals "_law_truth" = some (some (.ref fa19)))
    (l19 : K.lookup fa19 = some ⟨oc19, od19, .func (PySem.W.fnOf "_law_truth" "_law_truth" (defArgs st__law_truth) (defBody st__law_truth) (defScope st__law_truth) .none kV19 dc19 pm19 an19 cd19 ct19), sl19⟩)
    (c19 : PySem.W.codeIn K cd19 "_law_truth" = true)
    (k19 : PySem.W.keepIn K (.ref fa19) = true)
    (m20 : PySem.W.nsIn K mainGlobals "_law_almost" = some (some (.ref fa20)))
    (l20 : K.lookup fa20 = some ⟨oc20, od20, .func (PySem.W.fnOf "_law_almost" "_law_almost" (defArgs st__law_almost) (defBody st__law_almost) (defScope st__law_almost) .none kV20 dc20 pm20 an20 cd20 ct20), sl20⟩)
    (c20 : PySem.W.codeIn K cd20 "_law_almost" = true)
    (k20 : PySem.W.keepIn K (.ref fa20) = true)
    (m21 : PySem.W.nsIn K mainGlobals "law" = some (some (.ref fa21)))
    (l21 : K.lookup fa21 = some ⟨oc21, od21, .func (PySem.W.fnOf "law" "law" (defArgs st_law) (defBody st_law) (defScope st_law) .none kV21 dc21 pm21 an21 cd21 ct21), sl21⟩)
    (c21 : PySem.W.codeIn K cd21 "law" = true)
    (k21 : PySem.W.keepIn K (.ref fa21) = true)
    (z_abs : PySem.W.nsIn K mainGlobals "abs" = some none)
    (z_all : PySem.W.nsIn K mainGlobals "all" = some none)
    (z_bool : PySem.W.nsIn K mainGlobals "bool" = some none)
    (z_int : PySem.W.nsIn K mainGlobals "int" = some none)
    (z_isinstance : PySem.W.nsIn K mainGlobals "isinstance" = some none)
    (z_len : PySem.W.nsIn K mainGlobals "len" = some none)
    (z_max : PySem.W.nsIn K mainGlobals "max" = some none)
    (z_min : PySem.W.nsIn K mainGlobals "min" = some none)
    (z_range : PySem.W.nsIn K mainGlobals "range" = some none)
    (z_tuple : PySem.W.nsIn K mainGlobals "tuple" = some none)
    (gm_ZERO : PySem.W.nsIn K mainGlobals "ZERO" = some (some (.ref ga_ZERO)))
    (gl_ZERO : K.lookup ga_ZERO = some ⟨.type "tuple", god_ZERO, .seq #[.int 0 t0_ZERO, .int 1 t1_ZERO] gn_ZERO, gs_ZERO⟩)
    (cm_RoomError : PySem.W.nsIn K mainGlobals "RoomError" = some (some (.ref fc_RoomError)))
    (cm_InvalidNumber : PySem.W.nsIn K mainGlobals "InvalidNumber" = some (some (.ref fc_InvalidNumber)))
    (cm_Refused : PySem.W.nsIn K mainGlobals "Refused" = some (some (.ref fc_Refused)))
    (xL_InvalidNumber : K.lookup fc_InvalidNumber = some (excClassObj nm_InvalidNumber q_InvalidNumber fc_InvalidNumber N_InvalidNumber bs_InvalidNumber [.ref fc_RoomError, .type "ValueError", .type "Exception", .type "BaseException", .type "object"] true sn_InvalidNumber sb_InvalidNumber ab_InvalidNumber col_InvalidNumber dd_InvalidNumber k0_InvalidNumber k1_InvalidNumber k2_InvalidNumber k3_InvalidNumber k5_InvalidNumber "ValueError.__new__"))
    (al_InvalidNumber : PySem.W.alongIn K "__init__" [.ref fc_RoomError, .type "ValueError", .type "Exception", .type "BaseException", .type "object"] = some (some (.builtin "ValueError.__init__")))
    (sa_InvalidNumber : PySem.W.findIn K (.ref fc_InvalidNumber) "__setattr__" = some (some (.builtin "object.__setattr__")))
    (nf_InvalidNumber : PySem.W.findIn K (.ref fc_InvalidNumber) "word" = some none)
    (ic_InvalidNumber : PySem.W.findIn K (.ref fc_InvalidNumber) "__init__" = some (some (.ref fi_InvalidNumber)))
    (it_InvalidNumber : PySem.W.typeIn K (.ref fi_InvalidNumber) = some (.type "function"))
    (kc_InvalidNumber : PySem.W.keepIn K (.ref fc_InvalidNumber) = true)
    (ex_InvalidNumber : PySem.W.subIn K (.ref fc_InvalidNumber) (.type "BaseException") = some true)
    (ve_InvalidNumber : PySem.W.subIn K (.ref fc_InvalidNumber) (.type "ValueError") = some true)
    (ty_InvalidNumber : PySem.W.typeIn K (.ref fc_InvalidNumber) = some (.type "type"))
    (me_InvalidNumber : PySem.W.mroIn K fc_InvalidNumber (.ref fc_InvalidNumber) = some true)
    (stat : PySem.W.nsIn K cStatics "thirdparty.any" = some none)
    (zsup : PySem.W.nsIn K mainGlobals "super" = some none)
    (ztop : (P.main.scope.names.lookup ("super" : Str)).isSome = false)
    (il_InvalidNumber : K.lookup fi_InvalidNumber = some ⟨ioc_InvalidNumber, iod_InvalidNumber, .func (ksFn "__init__" "InvalidNumber.__init__" (defArgs (inClass (top 2) 0)) (defBody (inClass (top 2) 0)) (defScope (inClass (top 2) 0)) .none .none idc_InvalidNumber ipm_InvalidNumber ian_InvalidNumber (.ref cda_InvalidNumber) ict0_InvalidNumber cc_InvalidNumber), isl_InvalidNumber⟩)
    (io_InvalidNumber : PySem.W.codeIn K (.ref cda_InvalidNumber) "InvalidNumber.__init__" = true)
    (iv_InvalidNumber : K.lookup cda_InvalidNumber = some ⟨iccl_InvalidNumber, icd_InvalidNumber, .fields ivs_InvalidNumber, ics_InvalidNumber⟩)
    (if_InvalidNumber : ivs_InvalidNumber[2]? = some (.str ifl_InvalidNumber itf_InvalidNumber))
    (ig_InvalidNumber : ((P.main.file : Str) == ifl_InvalidNumber) = true)
    (ih_InvalidNumber : K.lookup cc_InvalidNumber = some ⟨icll_InvalidNumber, icl_InvalidNumber, .cell (some (.ref fc_InvalidNumber)), ict_InvalidNumber⟩)
    (ga_InvalidNumber : PySem.W.findIn K (.ref fc_InvalidNumber) "__getattribute__" = some (some (.builtin "BaseException.__getattribute__")))
    (gg_InvalidNumber : PySem.W.findIn K (.ref fc_InvalidNumber) "__getattr__" = some none)
    (gh_InvalidNumber : PySem.W.hasDictIn K fc_InvalidNumber = true)
    (ha_InvalidNumber : PySem.W.findIn K (.ref fc_InvalidNumber) "__class__" = some (some (.builtin "object.__class__")))
    (hm_InvalidNumber : PySem.W.mroIn K fc_InvalidNumber (.type "object") = some true)
    (hn : PySem.W.specialIn K (.builtin "object.__class__") "__get__" = some (some (.builtin "getset_descriptor.__get__")))
    (ht : PySem.W.takesIn K (.builtin "object.__class__") = some true)
    (hi_InvalidNumber : PySem.W.isClsIn K fc_InvalidNumber = true)
    (hi_RoomError : PySem.W.isClsIn K fc_RoomError = true)
    (ty_RoomError : PySem.W.typeIn K (.ref fc_RoomError) = some (.type "type"))
    (sb_InvalidNumber_RoomError : PySem.W.subIn K (.ref fc_InvalidNumber) (.ref fc_RoomError) = some true)
    (ne_InvalidNumber_RoomError : fc_InvalidNumber ≠ fc_RoomError)
    (ex_RoomError : PySem.W.subIn K (.ref fc_RoomError) (.type "BaseException") = some true)
    (hi_Refused : PySem.W.isClsIn K fc_Refused = true)
    (ty_Refused : PySem.W.typeIn K (.ref fc_Refused) = some (.type "type"))
    (sb_InvalidNumber_Refused : PySem.W.subIn K (.ref fc_InvalidNumber) (.ref fc_Refused) = some false)
    (ne_InvalidNumber_Refused : fc_InvalidNumber ≠ fc_Refused)
    : ∃ fd : FuncData, (∀ (s : Shared) (v : Value), BindsTo s fd ⟨[v], []⟩ [("_law_script", v)]) ∧ ∀ base : Heap, K.In base → base.Ns mainGlobals mg → FnOk P w K mg base (L2.CX P w) 6 fa fd ["_law_script"] (spLaw K) := by
  have e := hfa.symm.trans (PySem.W.mg_of X G m21)
  cases e
  refine ⟨PySem.W.fnOf "law" "law" (defArgs st_law) (defBody st_law) (defScope st_law) .none kV21 dc21 pm21 an21 cd21 ct21, fun s v => .of_eq rfl, fun base _ _ => ?_⟩
  exact (ok_law (P := P) (w := w) (base := base) (K := K) (mg := mg) {
    a_is_integer := fa0,
    f_is_integer := _,
    F_is_integer := fun_mk (st := st_is_integer) l0 c0 k0,
    g_is_integer := PySem.W.mg_of X G m0,
    a_common_divisor := fa1,
    f_common_divisor := _,
    F_common_divisor := fun_mk (st := st_common_divisor) l1 c1 k1,
    g_common_divisor := PySem.W.mg_of X G m1,
    a_fraction_of := fa2,
    f_fraction_of := _,
    F_fraction_of := fun_mk (st := st_fraction_of) l2 c2 k2,
    g_fraction_of := PySem.W.mg_of X G m2,
    a_is_fraction := fa3,
    f_is_fraction := _,
    F_is_fraction := fun_mk (st := st_is_fraction) l3 c3 k3,
    g_is_fraction := PySem.W.mg_of X G m3,
    a_plus := fa4,
    f_plus := _,
    F_plus := fun_mk (st := st_plus) l4 c4 k4,
    g_plus := PySem.W.mg_of X G m4,
    a_minus := fa5,
    f_minus := _,
    F_minus := fun_mk (st := st_minus) l5 c5 k5,
    g_minus := PySem.W.mg_of X G m5,
    a_times := fa6,
    f_times := _,
    F_times := fun_mk (st := st_times) l6 c6 k6,
    g_times := PySem.W.mg_of X G m6,
    a_ratio := fa7,
    f_ratio := _,
    F_ratio := fun_mk (st := st_ratio) l7 c7 k7,
    g_ratio := PySem.W.mg_of X G m7,
    a_less := fa8,
    f_less := _,
    F_less := fun_mk (st := st_less) l8 c8 k8,
    g_less := PySem.W.mg_of X G m8,
    a_sum_of := fa9,
    f_sum_of := _,
    F_sum_of := fun_mk (st := st_sum_of) l9 c9 k9,
    g_sum_of := PySem.W.mg_of X G m9,
    a__law_box := fa10,
    f__law_box := _,
    F__law_box := fun_mk (st := st__law_box) l10 c10 k10,
    g__law_box := PySem.W.mg_of X G m10,
    a__law_take := fa11,
    f__law_take := _,
    F__law_take := fun_mk (st := st__law_take) l11 c11 k11,
    g__law_take := PySem.W.mg_of X G m11,
    a__law_pick := fa12,
    f__law_pick := _,
    F__law_pick := fun_mk (st := st__law_pick) l12 c12 k12,
    g__law_pick := PySem.W.mg_of X G m12,
    a__law_divisor := fa13,
    f__law_divisor := _,
    F__law_divisor := fun_mk (st := st__law_divisor) l13 c13 k13,
    g__law_divisor := PySem.W.mg_of X G m13,
    a__law_is_fraction := fa14,
    f__law_is_fraction := _,
    F__law_is_fraction := fun_mk (st := st__law_is_fraction) l14 c14 k14,
    g__law_is_fraction := PySem.W.mg_of X G m14,
    a__law_same := fa15,
    f__law_same := _,
    F__law_same := fun_mk (st := st__law_same) l15 c15 k15,
    g__law_same := PySem.W.mg_of X G m15,
    a__law_number := fa16,
    f__law_number := _,
    F__law_number := fun_mk (st := st__law_number) l16 c16 k16,
    g__law_number := PySem.W.mg_of X G m16,
    a__law_pair := fa17,
    f__law_pair := _,
    F__law_pair := fun_mk (st := st__law_pair) l17 c17 k17,
    g__law_pair := PySem.W.mg_of X G m17,
    a__law_refused := fa18,
    f__law_refused := _,
    F__law_refused := fun_mk (st := st__law_refused) l18 c18 k18,
    g__law_refused := PySem.W.mg_of X G m18,
    a__law_truth := fa19,
    f__law_truth := _,
    F__law_truth := fun_mk (st := st__law_truth) l19 c19 k19,
    g__law_truth := PySem.W.mg_of X G m19,
    a__law_almost := fa20,
    f__law_almost := _,
    F__law_almost := fun_mk (st := st__law_almost) l20 c20 k20,
    g__law_almost := PySem.W.mg_of X G m20,
    a_law := fa,
    f_law := _,
    F_law := fun_mk (st := st_law) l21 c21 k21,
    g_law := PySem.W.mg_of X G m21,
    n_abs := PySem.W.mg_none_of X G z_abs,
    n_all := PySem.W.mg_none_of X G z_all,
    n_bool := PySem.W.mg_none_of X G z_bool,
    n_int := PySem.W.mg_none_of X G z_int,
    n_isinstance := PySem.W.mg_none_of X G z_isinstance,
    n_len := PySem.W.mg_none_of X G z_len,
    n_max := PySem.W.mg_none_of X G z_max,
    n_min := PySem.W.mg_none_of X G z_min,
    n_range := PySem.W.mg_none_of X G z_range,
    n_tuple := PySem.W.mg_none_of X G z_tuple,
    a_ZERO := ga_ZERO,
    g_ZERO := PySem.W.mg_of X G gm_ZERO,
    r_ZERO := .tup (xs := [.int 0, .int 1]) (.inr ⟨_, _, _, gl_ZERO, rfl, rfl, by rw [sizeLine_eq]; exact (by decide : 2 ≤ 16777216), (.cons ⟨_, rfl⟩ (.cons ⟨_, rfl⟩ .nil))⟩) (.cons (.int _) (.cons (.int _) .nil)),
    a_RoomError := fc_RoomError,
    g_RoomError := PySem.W.mg_of X G cm_RoomError,
    a_InvalidNumber := fc_InvalidNumber,
    g_InvalidNumber := PySem.W.mg_of X G cm_InvalidNumber,
    a_Refused := fc_Refused,
    g_Refused := PySem.W.mg_of X G cm_Refused,
    i_InvalidNumber := fi_InvalidNumber,
    e_InvalidNumber := { gC := PySem.W.mg_of X G cm_InvalidNumber, cls := ⟨nm_InvalidNumber, q_InvalidNumber, N_InvalidNumber, bs_InvalidNumber, _, sn_InvalidNumber, sb_InvalidNumber, ab_InvalidNumber, col_InvalidNumber, dd_InvalidNumber, k0_InvalidNumber, k1_InvalidNumber, k2_InvalidNumber, k3_InvalidNumber, k5_InvalidNumber, xL_InvalidNumber, (show HandSPX.refsVE [.type "ValueError", .type "Exception", .type "BaseException", .type "object"] = true from by decide +kernel), by rw [drop_self]; exact al_InvalidNumber⟩, sa := sa_InvalidNumber, noN := nf_InvalidNumber, iC := ic_InvalidNumber, tC := it_InvalidNumber, kC := kc_InvalidNumber, exC := ex_InvalidNumber, veC := ve_InvalidNumber, tyC := ty_InvalidNumber, meC := me_InvalidNumber, stat := stat, sup := PySem.W.mg_none_of X G zsup, top := ztop, fne := by decide, fld_ := by decide, fcl := by decide, fsu := by decide, fn := ⟨ioc_InvalidNumber, iod_InvalidNumber, idc_InvalidNumber, ipm_InvalidNumber, ict0_InvalidNumber, ian_InvalidNumber, cda_InvalidNumber, cc_InvalidNumber, isl_InvalidNumber, _, _, _, _, _, _, _, _, _, _, _, _, _, _, iccl_InvalidNumber, icll_InvalidNumber, icd_InvalidNumber, icl_InvalidNumber, ivs_InvalidNumber, ics_InvalidNumber, ict_InvalidNumber, ifl_InvalidNumber, itf_InvalidNumber, il_InvalidNumber, io_InvalidNumber, fun _ _ => rfl, ⟨_, fun _ => rfl⟩, iv_InvalidNumber, if_InvalidNumber, ig_InvalidNumber, ih_InvalidNumber⟩ },
    xf_InvalidNumber := ⟨ga_InvalidNumber, gg_InvalidNumber, ex_InvalidNumber, gh_InvalidNumber⟩,
    xn_InvalidNumber_word := nf_InvalidNumber,
    xc_InvalidNumber := ⟨ga_InvalidNumber, gg_InvalidNumber, ex_InvalidNumber, gh_InvalidNumber, ha_InvalidNumber, hn, ht, hm_InvalidNumber⟩,
    xs_InvalidNumber := hi_InvalidNumber,
    xm_InvalidNumber_RoomError := exm_of ex_RoomError hi_RoomError ty_RoomError sb_InvalidNumber_RoomError,
    xk_InvalidNumber_InvalidNumber := kit_self,
    xk_InvalidNumber_Refused := kit_of ne_InvalidNumber_Refused hi_Refused ty_Refused sb_InvalidNumber_Refused }).imp (spLaw_of law_true)
theorem walk {l : PySem.W.OpenLaw} {q : Program} {loose : List Str} {XP : (Str → Option Value) → Heap → Prop} {YP : World → Heap → Prop} {d : DefRec} {K : Params → PySem.W.Frag} (hn : l.most = some 63) (hdf : d.params.defaults = [])
    (hY : ∀ (w : World) (h : Heap), YP w h → (K w.params).In h)
    (F : ∀ (w : World) (mg : Str → Option Value) (fa : Addr) (h : Heap), (K w.params).In h → h.Ns mainGlobals mg → mg d.name = some (.ref fa) →
      ∃ fd : FuncData, (∀ (s : Shared) (u : Value), BindsTo s fd ⟨[u], []⟩ [("_law_script", u)]) ∧ ∀ base : Heap, (K w.params).In base → base.Ns mainGlobals mg → FnOk l.prog w (K w.params) mg base (L2.CX l.prog w) 6 fa fd ["_law_script"] (spLaw (K w.params))) :
    PySem.W.WalkO q loose XP YP l.row.toRowW d [] (fun f vs => PySem.call f vs) :=
  L2.walk_of (n := 63) (k := 6) (x := "_law_script") (CX := fun w => L2.CX l.prog w) (sp := fun w => spLaw (K w.params)) hn (by decide) hdf ⟨rfl, by decide, by decide⟩ hY F (fun _ _ a ns hl hO hS => ⟨a, ns, rfl, hl, only_sqF hO hS, fun _ => rfl⟩) fun w H s e s' z => by obtain ⟨_, _, _, _, _, _, _, _, _, _, _, _, z⟩ := z; exact z
end K44
open PySem PySem.W PyProof.Rows in
set_option maxRecDepth 100000 in
set_option maxHeartbeats 0 in
theorem PySem.Challenge.cw_roomlooks_k44_fractions_holds : PySem.Challenge.rw_roomlooks_k44_fractions.Holds := by
  w_on; o_law; k_head; (case hw => w_witness2)
  k_fill
  refine K44.walk (l := PySem.Challenge.rw_roomlooks_k44_fractions) rfl rfl (fun w h Y => PySem.W.kIn_of Y) ?F
  case F =>
    intro w mg fa h KX G hmg
    refine' K44.all_mk KX G hmg ?m0 ?l0 ?c0 ?k0 ?m1 ?l1 ?c1 ?k1 ?m2 ?l2 ?c2 ?k2 ?m3 ?l3 ?c3 ?k3 ?m4 ?l4 ?c4 ?k4 ?m5 ?l5 ?c5 ?k5 ?m6 ?l6 ?c6 ?k6 ?m7 ?l7 ?c7 ?k7 ?m8 ?l8 ?c8 ?k8 ?m9 ?l9 ?c9 ?k9 ?m10 ?l10 ?c10 ?k10 ?m11 ?l11 ?c11 ?k11 ?m12 ?l12 ?c12 ?k12 ?m13 ?l13 ?c13 ?k13 ?m14 ?l14 ?c14 ?k14 ?m15 ?l15 ?c15 ?k15 ?m16 ?l16 ?c16 ?k16 ?m17 ?l17 ?c17 ?k17 ?m18 ?l18 ?c18 ?k18 ?m19 ?l19 ?c19 ?k19 ?m20 ?l20 ?c20 ?k20 ?m21 ?l21 ?c21 ?k21 ?z_abs ?z_all ?z_bool ?z_int ?z_isinstance ?z_len ?z_max ?z_min ?z_range ?z_tuple ?gm_ZERO ?gl_ZERO ?cm_RoomError ?cm_InvalidNumber ?cm_Refused ?xL_InvalidNumber ?al_InvalidNumber ?sa_InvalidNumber ?nf_InvalidNumber ?ic_InvalidNumber ?it_InvalidNumber ?kc_InvalidNumber ?ex_InvalidNumber ?ve_InvalidNumber ?ty_InvalidNumber ?me_InvalidNumber ?stat ?zsup ?ztop ?il_InvalidNumber ?io_InvalidNumber ?iv_InvalidNumber ?if_InvalidNumber ?ig_InvalidNumber ?ih_InvalidNumber ?ga_InvalidNumber ?gg_InvalidNumber ?gh_InvalidNumber ?ha_InvalidNumber ?hm_InvalidNumber ?hn ?ht ?hi_InvalidNumber ?hi_RoomError ?ty_RoomError ?sb_InvalidNumber_RoomError ?ne_InvalidNumber_RoomError ?ex_RoomError ?hi_Refused ?ty_Refused ?sb_InvalidNumber_Refused ?ne_InvalidNumber_Refused
    (case m0 => k_is)
    (case l0 => k_is)
    (case c0 => k_is)
    (case k0 => k_is)
    (case m1 => k_is)
    (case l1 => k_is)
    (case c1 => k_is)
    (case k1 => k_is)
    (case m2 => k_is)
    (case l2 => k_is)
    (case c2 => k_is)
    (case k2 => k_is)
    (case m3 => k_is)
    (case l3 => k_is)
    (case c3 => k_is)
    (case k3 => k_is)
    (case m4 => k_is)
    (case l4 => k_is)
    (case c4 => k_is)
    (case k4 => k_is)
    (case m5 => k_is)
    (case l5 => k_is)
    (case c5 => k_is)
    (case k5 => k_is)
    (case m6 => k_is)
    (case l6 => k_is)
    (case c6 => k_is)
    (case k6 => k_is)
    (case m7 => k_is)
    (case l7 => k_is)
    (case c7 => k_is)
    (case k7 => k_is)
    (case m8 => k_is)
    (case l8 => k_is)
    (case c8 => k_is)
    (case k8 => k_is)
    (case m9 => k_is)
    (case l9 => k_is)
    (case c9 => k_is)
    (case k9 => k_is)
    (case m10 => k_is)
    (case l10 => k_is)
    (case c10 => k_is)
    (case k10 => k_is)
    (case m11 => k_is)
    (case l11 => k_is)
    (case c11 => k_is)
    (case k11 => k_is)
    (case m12 => k_is)
    (case l12 => k_is)
    (case c12 => k_is)
    (case k12 => k_is)
    (case m13 => k_is)
    (case l13 => k_is)
    (case c13 => k_is)
    (case k13 => k_is)
    (case m14 => k_is)
    (case l14 => k_is)
    (case c14 => k_is)
    (case k14 => k_is)
    (case m15 => k_is)
    (case l15 => k_is)
    (case c15 => k_is)
    (case k15 => k_is)
    (case m16 => k_is)
    (case l16 => k_is)
    (case c16 => k_is)
    (case k16 => k_is)
    (case m17 => k_is)
    (case l17 => k_is)
    (case c17 => k_is)
    (case k17 => k_is)
    (case m18 => k_is)
    (case l18 => k_is)
    (case c18 => k_is)
    (case k18 => k_is)
    (case m19 => k_is)
    (case l19 => k_is)
    (case c19 => k_is)
    (case k19 => k_is)
    (case m20 => k_is)
    (case l20 => k_is)
    (case c20 => k_is)
    (case k20 => k_is)
    (case m21 => k_is)
    (case l21 => k_is)
    (case c21 => k_is)
    (case k21 => k_is)
    (case z_abs => k_is)
    (case z_all => k_is)
    (case z_bool => k_is)
    (case z_int => k_is)
    (case z_isinstance => k_is)
    (case z_len => k_is)
    (case z_max => k_is)
    (case z_min => k_is)
    (case z_range => k_is)
    (case z_tuple => k_is)
    (case gm_ZERO => k_is)
    (case gl_ZERO => k_is)
    (case cm_RoomError => k_is)
    (case cm_InvalidNumber => k_is)
    (case cm_Refused => k_is)
    (case xL_InvalidNumber => k_is)
    (case al_InvalidNumber => (first | rfl | k_is))
    (case sa_InvalidNumber => k_is)
    (case nf_InvalidNumber => k_is)
    (case ic_InvalidNumber => k_is)
    (case it_InvalidNumber => k_is)
    (case kc_InvalidNumber => k_is)
    (case ex_InvalidNumber => k_is)
    (case ve_InvalidNumber => k_is)
    (case ty_InvalidNumber => k_is)
    (case me_InvalidNumber => k_is)
    (case stat => k_is)
    (case zsup => k_is)
    (case ztop => first | rfl | decide +kernel)
    (case il_InvalidNumber => k_is)
    (case io_InvalidNumber => k_is)
    (case iv_InvalidNumber => k_is)
    (case if_InvalidNumber => (first | rfl | k_is))
    (case ig_InvalidNumber => (first | rfl | decide +kernel))
    (case ih_InvalidNumber => k_is)
    (case ga_InvalidNumber => k_is)
    (case gg_InvalidNumber => k_is)
    (case gh_InvalidNumber => k_is)
    (case ha_InvalidNumber => k_is)
    (case hm_InvalidNumber => k_is)
    (case hn => k_is)
    (case ht => k_is)
    (case hi_InvalidNumber => k_is)
    (case hi_RoomError => k_is)
    (case ty_RoomError => k_is)
    (case sb_InvalidNumber_RoomError => (first | rfl | k_is))
    (case ne_InvalidNumber_RoomError => decide)
    (case ex_RoomError => k_is)
    (case hi_Refused => k_is)
    (case ty_Refused => k_is)
    (case sb_InvalidNumber_Refused => (first | rfl | k_is))
    (case ne_InvalidNumber_Refused => decide)
