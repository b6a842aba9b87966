import PyProof.Rows.All
import Wide.All
import OpenK.AllK
import Wide.FinOn
import HandS.ForMost
import HandS.ForExc
import HandS.TupAny
import HandS.Deep
import HandS.Wide
import HandS.TupLe
import HandS.IsInst
import HandS.SortInts
import HandS.More
import HandS.Walk
import HandS.Zip
import HandS.Style
import KE.KRevSl
import HandS.Conv
import HandS.Defaults
import HandS.HeadHook1
import HandS.HeadHook2
import PySem.Challenge.RW_putinside_k79_whole_three_lots_of_gaps
import KE.KStateDown
import Lean
import HandS.Head0
import HandS.Head1
import HandS.Head2
import HandS.HeadEnd
section
set_option Elab.async false
set_option linter.all false
set_option maxRecDepth 100000
set_option maxHeartbeats 4000000
namespace DV
open PySem PySem.Spec PyProof.Rows L2

abbrev St := L2.St
/-- plain data -/
inductive D where
  | non | bl (b : Bool) | int (i : Int) | str (x : Str) | opq (v : V)
  | lst (xs : List D) | tup (xs : List D)
  | dct (kvs : List (Key × D)) | dctT (kvs : List (List Key × D))
  | scr (xs : List Int)
  deriving Inhabited

mutual
inductive Rp (K : PySem.W.Frag) (G : Hp) : V → D → Prop
  | non : Rp K G .non .non
  | bl (b : Bool) : Rp K G (.bl b) (.bl b)
  | int (i : Int) : Rp K G (.int i) (.int i)
  | str (x : Str) : Rp K G (.str x) (.str x)
  | opq (v : V) : Rp K G v (.opq v)
  | lst {a : Addr} {vs : List V} {ds : List D} : G a = some (.lst vs) → Rps K G vs ds → Rp K G (.ref a) (.lst ds)
  | tup {a : Addr} {vs : List V} {ds : List D} : G a = some (.tup vs) → Rps K G vs ds → Rp K G (.ref a) (.tup ds)
  | dct {a : Addr} {ks : List (Key × V)} {ds : List (Key × D)} : G a = some (.dK ks) → ks.map (·.1) = ds.map (·.1) → Rps K G (ks.map (·.2)) (ds.map (·.2)) → Rp K G (.ref a) (.dct ds)
  | dctT {a : Addr} {ks : List (List Key × V)} {ds : List (List Key × D)} : G a = some (.dT ks) → ks.map (·.1) = ds.map (·.1) → Rps K G (ks.map (·.2)) (ds.map (·.2)) → Rp K G (.ref a) (.dctT ds)
  | scr {a : Addr} {xs : List Int} : SqL K G a (xs.map V.int) → Rp K G (.ref a) (.scr xs)
inductive Rps (K : PySem.W.Frag) (G : Hp) : List V → List D → Prop
  | nil : Rps K G [] []
  | cons {v : V} {d : D} {vs : List V} {ds : List D} : Rp K G v d → Rps K G vs ds → Rps K G (v :: vs) (d :: ds)
end

mutual
theorem Rp.mono {K : PySem.W.Frag} {G G' : Hp} (h : ∀ a o, G a = some o → G' a = some o) : ∀ {v : V} {d : D}, Rp K G v d → Rp K G' v d
  | _, _, .non => .non
  | _, _, .bl b => .bl b
  | _, _, .int i => .int i
  | _, _, .str x => .str x
  | _, _, .opq v => .opq v
  | _, _, .lst r q => .lst (h _ _ r) (Rps.mono h q)
  | _, _, .tup r q => .tup (h _ _ r) (Rps.mono h q)
  | _, _, .dct r e q => .dct (h _ _ r) e (Rps.mono h q)
  | _, _, .dctT r e q => .dctT (h _ _ r) e (Rps.mono h q)
  | _, _, .scr r => .scr (Same.seq h r)
theorem Rps.mono {K : PySem.W.Frag} {G G' : Hp} (h : ∀ a o, G a = some o → G' a = some o) : ∀ {vs : List V} {ds : List D}, Rps K G vs ds → Rps K G' vs ds
  | _, _, .nil => .nil
  | _, _, .cons r q => .cons (Rp.mono h r) (Rps.mono h q)
end
section
variable {K : PySem.W.Frag} {G : Hp}
theorem Rps.length : ∀ {vs : List V} {ds : List D}, Rps K G vs ds → vs.length = ds.length
  | _, _, .nil => rfl
  | _, _, .cons _ q => by simp [Rps.length q]
theorem Rps.get : ∀ {vs : List V} {ds : List D} {i : Nat} {d : D}, Rps K G vs ds → ds[i]? = some d → ∃ v, vs[i]? = some v ∧ Rp K G v d
  | _, _, i, d, .nil, e => by simp at e
  | _, _, 0, d, .cons r _, e => by simp at e; subst e; exact ⟨_, rfl, r⟩
  | _, _, i + 1, d, .cons _ q, e => by
    obtain ⟨v, h1, h2⟩ := Rps.get (i := i) (d := d) q (by simpa using e)
    exact ⟨v, by simpa using h1, h2⟩
theorem Rps.get' : ∀ {vs : List V} {ds : List D} {i : Nat} {v : V}, Rps K G vs ds → vs[i]? = some v → ∃ d, ds[i]? = some d ∧ Rp K G v d
  | _, _, i, d, .nil, e => by simp at e
  | _, _, 0, d, .cons r _, e => by simp at e; subst e; exact ⟨_, rfl, r⟩
  | _, _, i + 1, d, .cons _ q, e => by
    obtain ⟨v, h1, h2⟩ := Rps.get' (i := i) (v := d) q (by simpa using e)
    exact ⟨v, by simpa using h1, h2⟩
theorem Rps.append : ∀ {vs ws : List V} {ds es : List D}, Rps K G vs ds → Rps K G ws es → Rps K G (vs ++ ws) (ds ++ es)
  | _, _, _, _, .nil, h => h
  | _, _, _, _, .cons r q, h => .cons r (Rps.append q h)
theorem Rps.take : ∀ {vs : List V} {ds : List D} (n : Nat), Rps K G vs ds → Rps K G (vs.take n) (ds.take n)
  | _, _, 0, _ => .nil
  | _, _, _ + 1, .nil => .nil
  | _, _, n + 1, .cons r q => .cons r (Rps.take n q)
theorem Rps.drop : ∀ {vs : List V} {ds : List D} (n : Nat), Rps K G vs ds → Rps K G (vs.drop n) (ds.drop n)
  | _, _, 0, h => h
  | _, _, _ + 1, .nil => .nil
  | _, _, n + 1, .cons _ q => Rps.drop n q
theorem Rps.set {v : V} {d : D} (r : Rp K G v d) : ∀ {vs : List V} {ds : List D} (i : Nat), Rps K G vs ds → Rps K G (vs.set i v) (ds.set i d)
  | _, _, _, .nil => .nil
  | _, _, 0, .cons _ q => .cons r q
  | _, _, i + 1, .cons p q => .cons p (Rps.set r i q)
theorem Rps.eraseIdx : ∀ {vs : List V} {ds : List D} (i : Nat), Rps K G vs ds → Rps K G (vs.eraseIdx i) (ds.eraseIdx i)
  | _, _, _, .nil => .nil
  | _, _, 0, .cons _ q => q
  | _, _, i + 1, .cons r q => .cons r (Rps.eraseIdx i q)
theorem Rps.dropLast {vs : List V} {ds : List D} (h : Rps K G vs ds) : Rps K G vs.dropLast ds.dropLast := by
  rw [List.dropLast_eq_take, List.dropLast_eq_take, h.length]; exact h.take _
theorem Rps.reverse : ∀ {vs : List V} {ds : List D}, Rps K G vs ds → Rps K G vs.reverse ds.reverse
  | _, _, .nil => .nil
  | _, _, .cons r q => by simp only [List.reverse_cons]; exact (Rps.reverse q).append (.cons r .nil)
theorem Rps.rep {vs : List V} {ds : List D} (h : Rps K G vs ds) : ∀ k : Nat, Rps K G (List.replicate k vs).flatten (List.replicate k ds).flatten
  | 0 => .nil
  | k + 1 => by simp only [List.replicate_succ, List.flatten_cons]; exact h.append (Rps.rep h k)
theorem Rps.one {v : V} {ds : List D} (h : Rps K G [v] ds) : ∃ d, ds = [d] ∧ Rp K G v d := by
  cases h with | cons r q => cases q; exact ⟨_, rfl, r⟩
end

/-- an object's content -/
inductive Ob (K : PySem.W.Frag) (G : Hp) : HO → D → Prop
  | lst {vs : List V} {ds : List D} : Rps K G vs ds → Ob K G (.lst vs) (.lst ds)
  | dct {ks : List (Key × V)} {ds : List (Key × D)} : ks.map (·.1) = ds.map (·.1) → Rps K G (ks.map (·.2)) (ds.map (·.2)) → Ob K G (.dK ks) (.dct ds)
  | dctT {ks : List (List Key × V)} {ds : List (List Key × D)} : ks.map (·.1) = ds.map (·.1) → Rps K G (ks.map (·.2)) (ds.map (·.2)) → Ob K G (.dT ks) (.dctT ds)
theorem Ob.mono {K : PySem.W.Frag} {G G' : Hp} (h : ∀ a o, G a = some o → G' a = some o) {o : HO} {d : D} : Ob K G o d → Ob K G' o d
  | .lst q => .lst (q.mono h)
  | .dct e q => .dct e (q.mono h)
  | .dctT e q => .dctT e (q.mono h)
theorem Ob.rp {K : PySem.W.Frag} {G : Hp} {a : Addr} {o : HO} {d : D} (h : G a = some o) : Ob K G o d → Rp K G (.ref a) d
  | .lst q => .lst h q
  | .dct e q => .dct h e q
  | .dctT e q => .dctT h e q
theorem Ob.mut {K : PySem.W.Frag} {G : Hp} {o : HO} {d : D} : Ob K G o d → Mut (some o)
  | .lst _ => trivial
  | .dct _ _ => trivial
  | .dctT _ _ => trivial

inductive Md where
  | own | lock | io (k : Nat) | iolock (k : Nat)
  deriving DecidableEq
/-- a slot, as it is known -/
inductive Sl where
  | un | val (d : D) | bor (d : D) | obj (m : Md) (d : D)
def Md.wr : Md → Bool
  | .own => true | .io _ => true | _ => false
abbrev LS := List Sl
structure Bs where
  K : PySem.W.Frag
  H0 : Hp
  G0 : Hp
  io : List Addr

def ObjAt (L : LS) (σ : St) (a : Addr) : Prop := ∃ (i : Nat) (m : Md) (d : D), L[i]? = some (.obj m d) ∧ σ[i]? = some (some (.ref a))
def WrAt (L : LS) (σ : St) (a : Addr) : Prop := ∃ (i : Nat) (m : Md) (d : D), m.wr = true ∧ L[i]? = some (.obj m d) ∧ σ[i]? = some (some (.ref a))
def MdOk (B : Bs) (a : Addr) : Md → Prop
  | .own => B.H0 a = none
  | .lock => B.H0 a = none
  | .io k => B.io[k]? = some a
  | .iolock k => B.io[k]? = some a
/-- readable now -/
def RpH (B : Bs) (L : LS) (σ : St) (H G : Hp) (v : V) (d : D) : Prop := Rp B.K G v d ∨ ∃ a o, v = .ref a ∧ H a = some o ∧ Ob B.K G o d ∧ ¬ ObjAt L σ a ∧ B.H0 a ≠ none
def SlOk (B : Bs) (L : LS) (σ : St) (H G : Hp) (ov : Option (Option V)) : Sl → Prop
  | .un => True
  | .val d => ∃ v, ov = some (some v) ∧ Rp B.K G v d
  | .bor d => ∃ v, ov = some (some v) ∧ RpH B L σ H G v d
  | .obj m d => ∃ a o, ov = some (some (.ref a)) ∧ H a = some o ∧ Ob B.K G o d ∧ G a = none ∧ MdOk B a m
structure EnvOk (B : Bs) (L : LS) (σ : St) (H G : Hp) : Prop where
  len : L.length = σ.length
  sub : ∀ a o, G a = some o → H a = some o
  old : ∀ a o, B.G0 a = some o → G a = some o
  new : ∀ a o, G a = some o → B.G0 a = some o ∨ B.H0 a = none
  keep : ∀ a o, B.H0 a = some o → a ∉ B.io → H a = some o
  dom : ∀ a, B.H0 a ≠ none → H a ≠ none
  at_ : ∀ (i : Nat) (sl : Sl), L[i]? = some sl → SlOk B L σ H G σ[i]? sl
  inj : ∀ (i j : Nat) (m n : Md) (d e : D) (a : Addr), L[i]? = some (.obj m d) → L[j]? = some (.obj n e) → σ[i]? = some (some (.ref a)) → σ[j]? = some (some (.ref a)) → i = j

/-- an expression's value: frozen data; a new object that nothing else holds; a slot's object -/
inductive R where
  | v (d : D) | t (d : D) | s (i : Nat)
structure Ex where
  cls : Addr
  fs : List (Str × D)
inductive Rs (α : Type) where
  | ok (x : α) (L : LS) | exc (e : Ex) (L : LS) | stuck
def RR (K : PySem.W.Frag) (Hs : Hp) (L : LS) (σ : St) (H G : Hp) (v : V) : R → Prop
  | .v d => Rp K G v d
  | .t d => ∃ a o, v = .ref a ∧ H a = some o ∧ Ob K G o d ∧ G a = none ∧ Hs a = none ∧ ¬ ObjAt L σ a
  | .s i => σ[i]? = some (some v)
structure Stp (L : LS) (σ : St) (H G : Hp) (L' : LS) (H' G' : Hp) : Prop where
  gsub : ∀ a o, G a = some o → G' a = some o
  gnew : ∀ a o, G' a = some o → G a = some o ∨ H a = none ∨ ObjAt L σ a
  keep : ∀ a o, H a = some o → ¬ WrAt L σ a → H' a = some o
  dom : ∀ a, H a ≠ none → H' a ≠ none
  own : ∀ (i : Nat) (m : Md) (d : D), L'[i]? = some (.obj m d) → ∃ e, L[i]? = some (.obj m e)

theorem WrAt.obj {L : LS} {σ : St} {a : Addr} : WrAt L σ a → ObjAt L σ a
  | ⟨i, m, d, _, h, k⟩ => ⟨i, m, d, h, k⟩
section
variable {K : PySem.W.Frag} {B : Bs} {L L' L'' : LS} {σ : St} {H G H' G' H'' G'' : Hp}
theorem Stp.refl : Stp L σ H G L H G := ⟨fun _ _ h => h, fun _ _ h => .inl h, fun _ _ h _ => h, fun _ h => h, fun _ _ d h => ⟨d, h⟩⟩
theorem Stp.objs (s : Stp L σ H G L' H' G') {a : Addr} : ObjAt L' σ a → ObjAt L σ a
  | ⟨i, m, d, h, k⟩ => let ⟨e, q⟩ := s.own i m d h; ⟨i, m, e, q, k⟩
theorem Stp.wrs (s : Stp L σ H G L' H' G') {a : Addr} : WrAt L' σ a → WrAt L σ a
  | ⟨i, m, d, w, h, k⟩ => let ⟨e, q⟩ := s.own i m d h; ⟨i, m, e, w, q, k⟩
theorem Stp.trans (s : Stp L σ H G L' H' G') (t : Stp L' σ H' G' L'' H'' G'') : Stp L σ H G L'' H'' G'' where
  gsub := fun a o h => t.gsub a o (s.gsub a o h)
  gnew := fun a o h => by
    rcases t.gnew a o h with k | k | k
    · exact s.gnew a o k
    · cases q : H a with
      | none => exact .inr (.inl rfl)
      | some u => exact absurd k (s.dom a (by rw [q]; simp))
    · exact .inr (.inr (s.objs k))
  keep := fun a o h n => t.keep a o (s.keep a o h n) fun k => n (s.wrs k)
  dom := fun a h => t.dom a (s.dom a h)
  own := fun i m d h => by
    obtain ⟨e, q⟩ := t.own i m d h
    exact s.own i m e q
theorem Stp.rp (s : Stp L σ H G L' H' G') {v : V} {d : D} (h : Rp K G v d) : Rp K G' v d := h.mono s.gsub
theorem RR.base {Hs Ht : Hp} (q : ∀ a, Hs a ≠ none → Ht a ≠ none) {v : V} {r : R} (h : RR K Ht L σ H G v r) : RR K Hs L σ H G v r := by
  cases r with
  | v d => exact h
  | t d =>
    obtain ⟨a, o, e, h1, h2, h3, h4, h5⟩ := h
    refine ⟨a, o, e, h1, h2, h3, ?_, h5⟩
    cases k : Hs a with
    | none => rfl
    | some u => exact absurd h4 (q a (by rw [k]; simp))
  | s i => exact h
theorem Stp.rr {Hs : Hp} (s : Stp L σ H G L' H' G') {v : V} {r : R} (h : RR K Hs L σ H G v r) : RR K Hs L' σ H' G' v r := by
  cases r with
  | v d => exact h.mono s.gsub
  | t d =>
    obtain ⟨a, o, e, h1, h2, h3, h4, h5⟩ := h
    refine ⟨a, o, e, s.keep a o h1 fun k => h5 k.obj, h2.mono s.gsub, ?_, h4, fun k => h5 (s.objs k)⟩
    cases q : G' a with
    | none => rfl
    | some u =>
      rcases s.gnew a u q with k | k | k
      · rw [h3] at k; cases k
      · rw [h1] at k; cases k
      · exact absurd k h5
  | s i => exact h
end
theorem some_ne {α : Type} {x : α} {o : Option α} (h : o = some x) : o ≠ none := by rw [h]; simp
/-- all that is needed of a new heap and region when slots stay as they are -/
theorem EnvOk.grow {B : Bs} {L : LS} {σ : St} {H G H' G' : Hp} (E : EnvOk B L σ H G) (gs : ∀ a o, G a = some o → G' a = some o) (gn : ∀ a o, G' a = some o → G a = some o ∨ H a = none)
    (hs : ∀ a o, H a = some o → H' a = some o) (sb : ∀ a o, G' a = some o → H' a = some o) : EnvOk B L σ H' G' where
  len := E.len
  sub := sb
  old := fun a o h => gs a o (E.old a o h)
  new := fun a o h => by
    rcases gn a o h with k | k
    · exact E.new a o k
    · refine .inr ?_
      cases q : B.H0 a with
      | none => rfl
      | some u => exact absurd k (E.dom a (some_ne q))
  keep := fun a o h n => hs a o (E.keep a o h n)
  dom := fun a h => by
    cases q : H a with
    | none => exact absurd q (E.dom a h)
    | some u => exact some_ne (hs a u q)
  at_ := fun i sl h => by
    have k := E.at_ i sl h
    cases sl with
    | un => trivial
    | val d => obtain ⟨v, e, r⟩ := k; exact ⟨v, e, r.mono gs⟩
    | bor d =>
      obtain ⟨v, e, r⟩ := k
      refine ⟨v, e, ?_⟩
      rcases r with r | ⟨a, o, e', h1, h2, h3⟩
      · exact .inl (r.mono gs)
      · exact .inr ⟨a, o, e', hs a o h1, h2.mono gs, h3⟩
    | obj m d =>
      obtain ⟨a, o, e, h1, h2, h3, h4⟩ := k
      refine ⟨a, o, e, hs a o h1, h2.mono gs, ?_, h4⟩
      cases q : G' a with
      | none => rfl
      | some u =>
        rcases gn a u q with k | k
        · rw [h3] at k; cases k
        · rw [h1] at k; cases k
  inj := E.inj
theorem Stp.grow {L : LS} {σ : St} {H G H' G' : Hp} (gs : ∀ a o, G a = some o → G' a = some o) (gn : ∀ a o, G' a = some o → G a = some o ∨ H a = none)
    (hs : ∀ a o, H a = some o → H' a = some o) : Stp L σ H G L H' G' where
  gsub := gs
  gnew := fun a o h => (gn a o h).elim .inl fun k => .inr (.inl k)
  keep := fun a o h _ => hs a o h
  dom := fun a h => by
    cases q : H a with
    | none => exact absurd q h
    | some u => exact some_ne (hs a u q)
  own := fun _ _ d h => ⟨d, h⟩
theorem upd_keep {H : Hp} {p : Addr} {o : HO} (h : H p = none) : ∀ a u, H a = some u → upd H p o a = some u := fun a u k => by rw [upd_ne (ne_of_none k h)]; exact k
/-- a new object, not in the region -/
theorem EnvOk.laid {B : Bs} {L : LS} {σ : St} {H G : Hp} (E : EnvOk B L σ H G) {p : Addr} {o : HO} (hp : H p = none) : EnvOk B L σ (upd H p o) G ∧ Stp L σ H G L (upd H p o) G ∧ G p = none ∧ B.H0 p = none ∧ ¬ ObjAt L σ p := by
  refine ⟨E.grow (fun _ _ h => h) (fun _ _ h => .inl h) (upd_keep hp) fun a u h => upd_keep hp a u (E.sub a u h), Stp.grow (fun _ _ h => h) (fun _ _ h => .inl h) (upd_keep hp), ?_, ?_, ?_⟩
  · cases q : G p with
    | none => rfl
    | some u => rw [E.sub p u q] at hp; cases hp
  · cases q : B.H0 p with
    | none => rfl
    | some u => exact absurd hp (E.dom p (some_ne q))
  · rintro ⟨i, m, d, h1, h2⟩
    obtain ⟨a, u, e, k, _⟩ := E.at_ i _ h1
    rw [h2] at e; cases e
    rw [hp] at k; cases k
/-- a new object, in the region -/
theorem EnvOk.laidG {B : Bs} {L : LS} {σ : St} {H G : Hp} (E : EnvOk B L σ H G) {p : Addr} {o : HO} (hp : H p = none) : EnvOk B L σ (upd H p o) (upd G p o) ∧ Stp L σ H G L (upd H p o) (upd G p o) ∧ upd G p o p = some o ∧ ∀ a u, G a = some u → upd G p o a = some u := by
  have gp : G p = none := (E.laid (o := o) hp).2.2.1
  have gn : ∀ a u, upd G p o a = some u → G a = some u ∨ H a = none := fun a u h => by
    by_cases e : a = p
    · subst e; exact .inr hp
    · rw [upd_ne e] at h; exact .inl h
  refine ⟨E.grow (upd_keep gp) gn (upd_keep hp) fun a u h => ?_, Stp.grow (upd_keep gp) gn (upd_keep hp), upd_same, upd_keep gp⟩
  by_cases e : a = p
  · subst e; rw [upd_same] at h ⊢; exact h
  · rw [upd_ne e] at h ⊢; exact E.sub a u h

/-! ### reading a value -/
def peek (L : LS) : R → Option D
  | .v d => some d
  | .t d => some d
  | .s i => match L[i]? with
    | some (.val d) => some d
    | some (.bor d) => some d
    | some (.obj _ d) => some d
    | _ => none
/-- what is readable now, without who holds it -/
def RpN (K : PySem.W.Frag) (H G : Hp) (v : V) (d : D) : Prop := Rp K G v d ∨ ∃ a o, v = .ref a ∧ H a = some o ∧ Ob K G o d
theorem peek_ok {B : Bs} {Hs : Hp} {L : LS} {σ : St} {H G : Hp} (E : EnvOk B L σ H G) {v : V} {r : R} {d : D} (h : RR B.K Hs L σ H G v r) (p : peek L r = some d) : RpN B.K H G v d := by
  cases r with
  | v e => cases p; exact .inl h
  | t e => cases p; obtain ⟨a, o, h1, h2, h3, _⟩ := h; exact .inr ⟨a, o, h1, h2, h3⟩
  | s i =>
    simp only [peek] at p
    have h' : σ[i]? = some (some v) := h
    split at p
    · rename_i e q; cases p; obtain ⟨w, e1, e2⟩ := E.at_ i _ q; rw [h'] at e1; cases e1; exact .inl e2
    · rename_i e q; cases p; obtain ⟨w, e1, e2⟩ := E.at_ i _ q; rw [h'] at e1; cases e1
      rcases e2 with e2 | ⟨a, o, e2, e3, e4, _⟩
      · exact .inl e2
      · exact .inr ⟨a, o, e2, e3, e4⟩
    · rename_i m e q; cases p; obtain ⟨a, o, e1, e2, e3, _⟩ := E.at_ i _ q; rw [h'] at e1; cases e1; exact .inr ⟨a, o, rfl, e2, e3⟩
    · cases p
/-- a list that can be read -/
theorem RpN.lst {K : PySem.W.Frag} {H G : Hp} (sb : ∀ a o, G a = some o → H a = some o) {v : V} {ds : List D} (h : RpN K H G v (.lst ds)) : ∃ a vs, v = .ref a ∧ H a = some (.lst vs) ∧ Rps K G vs ds := by
  rcases h with h | ⟨a, o, e, h1, h2⟩
  · cases h with | lst r q => exact ⟨_, _, rfl, sb _ _ r, q⟩
  · cases h2 with | lst q => exact ⟨_, _, e, h1, q⟩
theorem RpN.tup {K : PySem.W.Frag} {H G : Hp} (sb : ∀ a o, G a = some o → H a = some o) {v : V} {ds : List D} (h : RpN K H G v (.tup ds)) : ∃ a vs, v = .ref a ∧ H a = some (.tup vs) ∧ Rps K G vs ds := by
  rcases h with h | ⟨a, o, e, h1, h2⟩
  · cases h with | tup r q => exact ⟨_, _, rfl, sb _ _ r, q⟩
  · cases h2
theorem RpN.int {K : PySem.W.Frag} {H G : Hp} {v : V} {i : Int} (h : RpN K H G v (.int i)) : v = .int i := by
  rcases h with h | ⟨a, o, e, h1, h2⟩
  · cases h; rfl
  · cases h2
theorem RpN.bl {K : PySem.W.Frag} {H G : Hp} {v : V} {i : Bool} (h : RpN K H G v (.bl i)) : v = .bl i := by
  rcases h with h | ⟨a, o, e, h1, h2⟩
  · cases h; rfl
  · cases h2
theorem RpN.str {K : PySem.W.Frag} {H G : Hp} {v : V} {i : Str} (h : RpN K H G v (.str i)) : v = .str i := by
  rcases h with h | ⟨a, o, e, h1, h2⟩
  · cases h; rfl
  · cases h2
theorem RpN.non {K : PySem.W.Frag} {H G : Hp} {v : V} (h : RpN K H G v .non) : v = .non := by
  rcases h with h | ⟨a, o, e, h1, h2⟩
  · cases h; rfl
  · cases h2
theorem RpN.scr {K : PySem.W.Frag} {H G : Hp} (sb : ∀ a o, G a = some o → H a = some o) {v : V} {xs : List Int} (h : RpN K H G v (.scr xs)) : ∃ a, v = .ref a ∧ SqL K H a (xs.map V.int) := by
  rcases h with h | ⟨a, o, e, h1, h2⟩
  · cases h with | scr r => exact ⟨_, rfl, Same.seq sb r⟩
  · cases h2
theorem RpN.opq {K : PySem.W.Frag} {H G : Hp} {v w : V} (h : RpN K H G v (.opq w)) : v = w := by
  rcases h with h | ⟨a, o, e, h1, h2⟩
  · cases h; rfl
  · cases h2

/-! ### freezing -/
def fz (L : LS) : R → Option (D × LS)
  | .v d => some (d, L)
  | .t d => some (d, L)
  | .s i => match L[i]? with
    | some (.val d) => some (d, L)
    | some (.obj .own d) => some (d, L.set i (.val d))
    | _ => none
/-- an object that none else holds goes into the region -/
theorem EnvOk.freeze {B : Bs} {L L' : LS} {σ : St} {H G : Hp} (E : EnvOk B L σ H G) {a : Addr} {o : HO} {d : D} (ha : H a = some o) (ho : Ob B.K G o d) (ga : G a = none) (b0 : B.H0 a = none)
    (hl : L'.length = L.length) (sl : ∀ (i : Nat) (x : Sl), L'[i]? = some x → (L[i]? = some x ∧ ∀ m e, x = .obj m e → σ[i]? ≠ some (some (.ref a))) ∨ (x = .val d ∧ σ[i]? = some (some (.ref a)))) :
    EnvOk B L' σ H (upd G a o) ∧ Rp B.K (upd G a o) (.ref a) d := by
  have gs := upd_keep (o := o) ga
  have sb : ∀ b u, upd G a o b = some u → H b = some u := fun b u k => by
    by_cases e : b = a
    · subst e; rw [upd_same] at k; cases k; exact ha
    · rw [upd_ne e] at k; exact E.sub b u k
  have rp : Rp B.K (upd G a o) (.ref a) d := (ho.mono gs).rp upd_same
  have ol : ∀ (i : Nat) (m : Md) (e : D), L'[i]? = some (.obj m e) → L[i]? = some (.obj m e) := fun i m e k => by
    rcases sl i _ k with q | q
    · exact q.1
    · cases q.1
  refine ⟨⟨hl.trans E.len, sb, fun b u k => gs b u (E.old b u k), fun b u k => ?_, E.keep, E.dom, fun i x k => ?_, fun i j m n d e b h1 h2 => E.inj i j m n d e b (ol _ _ _ h1) (ol _ _ _ h2)⟩, rp⟩
  · by_cases e : b = a
    · subst e; exact .inr b0
    · rw [upd_ne e] at k; exact E.new b u k
  · rcases sl i x k with ⟨k', ne⟩ | ⟨rfl, e⟩
    · have q := E.at_ i x k'
      cases x with
      | un => trivial
      | val d => obtain ⟨v, e, r⟩ := q; exact ⟨v, e, r.mono gs⟩
      | bor d =>
        obtain ⟨v, e, r⟩ := q
        refine ⟨v, e, ?_⟩
        rcases r with r | ⟨b, u, e', h1, h2, h3⟩
        · exact .inl (r.mono gs)
        · exact .inr ⟨b, u, e', h1, h2.mono gs, fun ⟨j, m, f, z, z'⟩ => h3.1 ⟨j, m, f, ol _ _ _ z, z'⟩, h3.2⟩
      | obj m f =>
        obtain ⟨b, u, e, k1, k2, k3, k4⟩ := q
        have nb : b ≠ a := by rintro rfl; exact ne m f rfl e
        exact ⟨b, u, e, k1, k2.mono gs, by rw [upd_ne nb]; exact k3, k4⟩
    · exact ⟨_, e, rp⟩
theorem fz_ok2 {B : Bs} {L0 L L' : LS} {σ : St} {H0 G0 H G : Hp} (E0 : EnvOk B L0 σ H0 G0) (E : EnvOk B L σ H G) (S : Stp L0 σ H0 G0 L H G) {v : V} {r : R} {d : D} (h : RR B.K H0 L σ H G v r) (p : fz L r = some (d, L')) :
    ∃ G', Stp L0 σ H0 G0 L' H G' ∧ EnvOk B L' σ H G' ∧ Rp B.K G' v d ∧ ∀ a o, G a = some o → G' a = some o := by
  have b0 : ∀ {a}, H0 a = none → B.H0 a = none := fun {a} k => by
    cases q : B.H0 a with
    | none => rfl
    | some u => exact absurd k (E0.dom a (some_ne q))
  have stp : ∀ {a o}, G a = none → (H0 a = none ∨ ObjAt L0 σ a) → (∀ (i : Nat) (m : Md) (e : D), L'[i]? = some (.obj m e) → L[i]? = some (.obj m e)) → Stp L0 σ H0 G0 L' H (upd G a o) := fun {a o} ga hb ol =>
    ⟨fun b u k => upd_keep ga b u (S.gsub b u k), fun b u k => by
      by_cases e : b = a
      · subst e; exact .inr hb
      · rw [upd_ne e] at k; exact S.gnew b u k, S.keep, S.dom, fun i m e k => S.own i m e (ol i m e k)⟩
  cases r with
  | v e => cases p; exact ⟨G, S, E, h, fun _ _ q => q⟩
  | t e =>
    cases p
    obtain ⟨a, o, rfl, h2, h3, h4, h5, h6⟩ := h
    obtain ⟨E', rp⟩ := E.freeze h2 h3 h4 (b0 h5) (L' := L) rfl fun i x k => .inl ⟨k, fun m e z q => h6 ⟨i, m, e, z ▸ k, q⟩⟩
    exact ⟨_, stp h4 (.inl h5) fun _ _ _ k => k, E', rp, upd_keep h4⟩
  | s i =>
    have h' : σ[i]? = some (some v) := h
    simp only [fz] at p
    split at p
    · rename_i e q; cases p; obtain ⟨w, e1, e2⟩ := E.at_ i _ q; rw [h'] at e1; cases e1; exact ⟨G, S, E, e2, fun _ _ q => q⟩
    · rename_i e q; cases p
      obtain ⟨a, o, e1, e2, e3, e4, e5⟩ := E.at_ i _ q
      rw [h'] at e1; cases e1
      have ol : ∀ (j : Nat) (m : Md) (f : D), (L.set i (.val d))[j]? = some (.obj m f) → L[j]? = some (.obj m f) ∧ j ≠ i := fun j m f k => by
        by_cases c : i = j
        · subst c
          have hi : i < L.length := (List.getElem?_eq_some_iff.mp q).1
          rw [List.getElem?_set_self hi] at k; cases k
        · rw [List.getElem?_set_ne c] at k
          exact ⟨k, fun z => c z.symm⟩
      obtain ⟨E', rp⟩ := E.freeze (L' := L.set i (.val d)) e2 e3 e4 e5 (List.length_set ..) fun j x k => by
        by_cases c : i = j
        · subst c
          have hi : i < L.length := (List.getElem?_eq_some_iff.mp q).1
          rw [List.getElem?_set_self hi] at k; cases k
          exact .inr ⟨rfl, h'⟩
        · rw [List.getElem?_set_ne c] at k
          refine .inl ⟨k, fun m e z w => c ?_⟩
          subst z
          exact E.inj _ _ _ _ _ _ _ q k h' w
      refine ⟨_, stp e4 (.inr ?_) fun j m f k => (ol j m f k).1, E', rp, upd_keep e4⟩
      obtain ⟨f, k⟩ := S.own i _ _ q
      exact ⟨i, _, f, k, h'⟩
    · cases p
theorem fz_ok {B : Bs} {L0 L L' : LS} {σ : St} {H0 G0 H G : Hp} (E0 : EnvOk B L0 σ H0 G0) (E : EnvOk B L σ H G) (S : Stp L0 σ H0 G0 L H G) {v : V} {r : R} {d : D} (h : RR B.K H0 L σ H G v r) (p : fz L r = some (d, L')) :
    ∃ G', Stp L0 σ H0 G0 L' H G' ∧ EnvOk B L' σ H G' ∧ Rp B.K G' v d := let ⟨G', a, b, c, _⟩ := fz_ok2 E0 E S h p; ⟨G', a, b, c⟩
end DV
end
section
set_option Elab.async false
set_option linter.all false
set_option maxRecDepth 100000
set_option maxHeartbeats 4000000
namespace DV
open PySem PySem.Spec PyProof.Rows L2

def Rs.bind {α β : Type} : Rs α → (α → LS → Rs β) → Rs β
  | .ok x L, k => k x L
  | .exc e L, _ => .exc e L
  | .stuck, _ => .stuck
@[simp] theorem Rs.bind_ok {α β : Type} (x : α) (L : LS) (k : α → LS → Rs β) : (Rs.ok x L).bind k = k x L := rfl
@[simp] theorem Rs.bind_exc {α β : Type} (e : Ex) (L : LS) (k : α → LS → Rs β) : (Rs.exc e L : Rs α).bind k = .exc e L := rfl
@[simp] theorem Rs.bind_stuck {α β : Type} (k : α → LS → Rs β) : (Rs.stuck : Rs α).bind k = .stuck := rfl

abbrev DE := LS → Rs R
abbrev DT := LS → Rs Bool
abbrev DA := LS → Rs (List R)
def ExR (K : PySem.W.Frag) (H G : Hp) (C : Value) (dx : Option Addr) (e : Ex) : Prop :=
  C = .ref e.cls ∧ ∃ d fvs, dx = some d ∧ H d = some (.xd fvs) ∧ fvs.map (·.1) = e.fs.map (·.1) ∧ Rps K G (fvs.map (·.2)) (e.fs.map (·.2))

def PostG {α β : Type} (rel : LS → Hp → Hp → β → α → Prop) (B : Bs) (L : LS) (σ : St) (H G : Hp) (res : Rs α) (Q : β → Hp → Prop) (E : XK) : Prop :=
  match res with
  | .ok r L' => ∀ v H' G', Stp L σ H G L' H' G' → EnvOk B L' σ H' G' → rel L' H' G' v r → Q v H'
  | .exc e L' => ∀ C dx H' G', Stp L σ H G L' H' G' → EnvOk B L' σ H' G' → ExR B.K H' G' C dx e → E C dx H'
  | .stuck => False
theorem PostG.next {α β α' β' : Type} {rel1 : LS → Hp → Hp → β → α → Prop} {rel2 : LS → Hp → Hp → β' → α' → Prop} {B : Bs} {L L1 : LS} {σ : St} {H G H1 G1 : Hp} {res : Rs α} {k : α → LS → Rs α'} {Q : β' → Hp → Prop} {Q1 : β → Hp → Prop} {E : XK}
    (h : PostG rel2 B L σ H G (res.bind k) Q E) (S : Stp L σ H G L1 H1 G1)
    (hk : ∀ r L' v H' G', Stp L1 σ H1 G1 L' H' G' → EnvOk B L' σ H' G' → rel1 L' H' G' v r → PostG rel2 B L σ H G (k r L') Q E → Q1 v H') : PostG rel1 B L1 σ H1 G1 res Q1 E := by
  cases res with
  | ok r L' => exact fun v H' G' S' E' R' => hk r L' v H' G' S' E' R' h
  | exc e L' => exact fun C dx H' G' S' E' R' => h C dx H' G' (S.trans S') E' R'
  | stuck => exact h
/-- the same, where the value is handed on as it is -/
theorem PostG.last {α β : Type} {rel1 rel2 : LS → Hp → Hp → β → α → Prop} {B : Bs} {L L1 : LS} {σ : St} {H G H1 G1 : Hp} {res : Rs α} {Q Q1 : β → Hp → Prop} {E : XK}
    (h : PostG rel2 B L σ H G res Q E) (S : Stp L σ H G L1 H1 G1)
    (hk : ∀ r L' v H' G', Stp L1 σ H1 G1 L' H' G' → EnvOk B L' σ H' G' → rel1 L' H' G' v r → rel2 L' H' G' v r ∧ ∀ x, Q x H' → Q1 x H') : PostG rel1 B L1 σ H1 G1 res Q1 E := by
  cases res with
  | ok r L' => exact fun v H' G' S' E' R' => let ⟨a, b⟩ := hk r L' v H' G' S' E' R'; b v (h v H' G' (S.trans S') E' a)
  | exc e L' => exact fun C dx H' G' S' E' R' => h C dx H' G' (S.trans S') E' R'
  | stuck => exact h

def relR (K : PySem.W.Frag) (Hs : Hp) (σ : St) : LS → Hp → Hp → V → R → Prop := fun L H G v r => RR K Hs L σ H G v r
def relB : LS → Hp → Hp → Bool → Bool → Prop := fun _ _ _ b c => b = c
def RRs (K : PySem.W.Frag) (Hs : Hp) (L : LS) (σ : St) (H G : Hp) : List V → List R → Prop := fun vs rs => Paired (RR K Hs L σ H G) vs rs
def relA (K : PySem.W.Frag) (Hs : Hp) (σ : St) : LS → Hp → Hp → List V → List R → Prop := fun L H G v r => RRs K Hs L σ H G v r
def relD (K : PySem.W.Frag) : LS → Hp → Hp → V → D → Prop := fun L H G v d => Rp K G v d
def relDs (K : PySem.W.Frag) : LS → Hp → Hp → List V → List D → Prop := fun L H G v d => Rps K G v d

def tD (K : PySem.W.Frag) (E : XK) (f : DE) : TE := fun σ H Q => ∃ B L G, B.K = K ∧ EnvOk B L σ H G ∧ PostG (relR B.K H σ) B L σ H G (f L) Q E
def tDT (K : PySem.W.Frag) (E : XK) (f : DT) : TT := fun σ H Q => ∃ B L G, B.K = K ∧ EnvOk B L σ H G ∧ PostG relB B L σ H G (f L) Q E
def tDA (K : PySem.W.Frag) (E : XK) (f : DA) : TA := fun σ H Q => ∃ B L G, B.K = K ∧ EnvOk B L σ H G ∧ PostG (relA B.K H σ) B L σ H G (f L) Q E
/-- an argument list, each value frozen -/
def tDs (K : PySem.W.Frag) (E : XK) (f : LS → Rs (List D)) : TA := fun σ H Q => ∃ B L G, B.K = K ∧ EnvOk B L σ H G ∧ PostG (relDs B.K) B L σ H G (f L) Q E

def DEx (X : Cx) (E : XK) (e : Expr) (f : DE) : Prop := PE X e (tD X.K E f)
def DTx (X : Cx) (E : XK) (e : Expr) (f : DT) : Prop := PT X e (tDT X.K E f)
def DAx (X : Cx) (E : XK) (es : List Expr) (f : DA) : Prop := PA X es (tDA X.K E f)
def DFx (X : Cx) (E : XK) (es : List Expr) (f : LS → Rs (List D)) : Prop := PA X es (tDs X.K E f)

theorem PE.imp {X : Cx} {e : Expr} {t t' : TE} (h : PE X e t) (k : ∀ σ H Q, t' σ H Q → t σ H Q) : PE X e t' := ⟨fun pins s σ H Q I q => h.run pins s σ H Q I (k σ H Q q)⟩
theorem PT.imp {X : Cx} {e : Expr} {t t' : TT} (h : PT X e t) (k : ∀ σ H Q, t' σ H Q → t σ H Q) : PT X e t' := ⟨fun pins s σ H Q I q => h.run pins s σ H Q I (k σ H Q q)⟩
theorem PA.imp {X : Cx} {e : List Expr} {t t' : TA} (h : PA X e t) (k : ∀ σ H Q, t' σ H Q → t σ H Q) : PA X e t' := ⟨fun p pins s σ H Q I q => h.run p pins s σ H Q I (k σ H Q q)⟩

/-! ### names, constants -/
def dVar (i : Nat) : DE := fun L => match L[i]? with
  | some (.val d) => .ok (.v d) L
  | some (.bor _) => .ok (.s i) L
  | some (.obj _ _) => .ok (.s i) L
  | _ => .stuck
def dC (d : D) : DE := fun L => .ok (.v d) L
section
variable {X : Cx} {E : XK} {e a b c : Expr} {pos : Pos} {f fa fb fc : DE}
theorem de_of_var {i : Nat} (h : PE X e (tVar i)) : DEx X E e (dVar i) := PE.imp h fun σ H Q ⟨B, L, G, hK, E0, P⟩ => by
  unfold dVar at P
  split at P
  · rename_i d q
    obtain ⟨v, e1, e2⟩ := E0.at_ i _ q
    exact ⟨v, e1, P v H G .refl E0 e2⟩
  · rename_i d q
    obtain ⟨v, e1, e2⟩ := E0.at_ i _ q
    exact ⟨v, e1, P v H G .refl E0 e1⟩
  · rename_i m d q
    obtain ⟨a, o, e1, e2⟩ := E0.at_ i _ q
    exact ⟨_, e1, P _ H G .refl E0 e1⟩
  · exact P.elim
theorem dv (i : Nat) {x : Str} {pos : Pos} (hN : X.N[i]? = some x := by rfl) (hv : Vis X.env.scope x := by first | exact Or.inl rfl | exact Or.inr (Or.inl rfl) | exact Or.inr (Or.inr rfl)) (hd : (x == ("__debug__" : Str)) = false := by decide)
    (hcd : (x == ("__classdict__" : Str)) = false := by decide) : DEx X E (.Name x pos) (dVar i) := de_of_var (pe_var hN hv hd hcd)
theorem de_const {v : V} {d : D} (h : PE X e (tC v)) (r : ∀ K G, Rp K G v d) : DEx X E e (dC d) := PE.imp h fun σ H Q ⟨B, L, G, hK, E0, P⟩ => P v H G .refl E0 (r _ _)
theorem de_int {i j pos} : DEx X E (.Constant (.int i) j pos) (dC (.int i)) := de_const pe_int fun _ _ => .int i
theorem de_bl {i j pos} : DEx X E (.Constant (.bool i) j pos) (dC (.bl i)) := de_const pe_bl fun _ _ => .bl i
theorem de_non {j pos} : DEx X E (.Constant .none j pos) (dC .non) := de_const pe_non fun _ _ => .non
theorem de_str {x j pos} : DEx X E (.Constant (.str x) j pos) (dC (.str x)) := de_const pe_str fun _ _ => .str x
/-- a global that holds a plain value -/
theorem de_globI {x : Str} {i : Int} {t : Tok} {pos : Pos} (hg : Gl X x) (hm : X.mg x = some (.int i t)) (hd : (x == ("__debug__" : Str)) = false := by decide) : DEx X E (.Name x pos) (dC (.int i)) := de_const (v := .int i) (pe_glob hg hm ⟨t, rfl⟩ hd) fun _ _ => .int i
theorem de_globS {x y : Str} {t : Tok} {pos : Pos} (hg : Gl X x) (hm : X.mg x = some (.str y t)) (hd : (x == ("__debug__" : Str)) = false := by decide) : DEx X E (.Name x pos) (dC (.str y)) := de_const (v := .str y) (pe_glob hg hm ⟨t, rfl⟩ hd) fun _ _ => .str y
theorem de_globR {x : Str} {a : Addr} {pos : Pos} (hg : Gl X x) (hm : X.mg x = some (.ref a)) (hd : (x == ("__debug__" : Str)) = false := by decide) : DEx X E (.Name x pos) (dC (.opq (.ref a))) := de_const (v := .ref a) (pe_glob hg hm rfl hd) fun _ _ => .opq _

/-! ### operators by values -/
abbrev GOp := D → D → Option R
def NoS : R → Prop
  | .s _ => False
  | _ => True
def OpSnd (K : PySem.W.Frag) (r : R2) (g : GOp) : Prop := ∀ (B : Bs) (L : LS) (σ : St) (H G : Hp) (x y : V) (d e : D) (res : R) (Q : VK), B.K = K → EnvOk B L σ H G → RpN K H G x d → RpN K H G y e → g d e = some res →
  (∀ v H' G', Stp L σ H G L H' G' → EnvOk B L σ H' G' → RR K H L σ H' G' v res → Q v H') → r x y H Q
def on2 (g : GOp) (r1 r2 : R) (L : LS) : Rs R := match peek L r1, peek L r2 with
  | some d, some e => match g d e with
    | some res => .ok res L
    | none => .stuck
  | _, _ => .stuck
def dOp (g : GOp) (fa fb : DE) : DE := fun L => (fa L).bind fun r1 L1 => (fb L1).bind fun r2 L2 => on2 g r1 r2 L2
theorem on2_ok {K : PySem.W.Frag} {r : R2} {g : GOp} (sn : OpSnd K r g) {B : Bs} {L L2 : LS} {σ : St} {H G H2 G2 H1 Ha : Hp} {v1 v2 : V} {r1 r2 : R} {Q : VK} (hK : B.K = K)
    (P : PostG (relR B.K H σ) B L σ H G (on2 g r1 r2 L2) Q E) (S : Stp L σ H G L2 H2 G2) (E2 : EnvOk B L2 σ H2 G2) (R1 : RR B.K Ha L2 σ H2 G2 v1 r1) (R2 : RR B.K H1 L2 σ H2 G2 v2 r2) : r v1 v2 H2 Q := by
  subst hK
  unfold on2 at P
  split at P
  · rename_i d e p1 p2
    split at P
    · rename_i res hg
      exact sn B L2 σ H2 G2 v1 v2 d e res Q rfl E2 (peek_ok E2 R1 p1) (peek_ok E2 R2 p2) hg fun v H' G' S' E' R' => P v H' G' (S.trans S') E' (RR.base S.dom R')
    · exact P.elim
  · exact P.elim
theorem tOp_of {r : R2} {g : GOp} (sn : OpSnd X.K r g) {σ : St} {H : Hp} {Q : VK} (h : tD X.K E (dOp g fa fb) σ H Q) : tOp r (tD X.K E fa) (tD X.K E fb) σ H Q := by
  obtain ⟨B, L, G, hK, E0, P⟩ := h
  refine ⟨B, L, G, hK, E0, PostG.next P .refl fun r1 L1 v1 H1 G1 S1 E1 R1 P1 => ?_⟩
  refine ⟨B, L1, G1, hK, E1, PostG.next P1 S1 fun r2 L2 v2 H2 G2 S2 E2 R2 P2 => ?_⟩
  exact on2_ok sn hK P2 (S1.trans S2) E2 (S2.rr R1) R2
theorem de_op {op : Operator} {r : R2} {g : GOp} (ho : OpR X (binaryOp op) r) (sn : OpSnd X.K r g) (ha : DEx X E a fa) (hb : DEx X E b fb) : DEx X E (.BinOp a op b pos) (dOp g fa fb) :=
  PE.imp (pe_op ho ha hb) fun _ _ _ h => tOp_of sn h
theorem de_cmp {op : CmpOp} {r : R2} {g : GOp} (ho : OpR X (compareOp op) r) (sn : OpSnd X.K r g) (ha : DEx X E a fa) (hb : DEx X E b fb) (hm : behindInMarks op b = false) : DEx X E (.Compare a [op] [b] pos) (dOp g fa fb) :=
  PE.imp (pe_cmpR ho ha hb hm) fun _ _ _ h => tOp_of sn h
theorem de_ix {r : R2} {g : GOp} (ho : IxR X r) (sn : OpSnd X.K r g) (ha : DEx X E a fa) (hb : DEx X E b fb) (hs : PlainIx b) : DEx X E (.Subscript a b pos) (dOp g fa fb) :=
  PE.imp (pe_ix ho ha hb hs) fun _ _ _ h => tOp_of sn h
theorem OpSnd.or {K : PySem.W.Frag} {r r' : R2} {g g' : GOp} (h : OpSnd K r g) (h' : OpSnd K r' g') : OpSnd K (fun x y H Q => r x y H Q ∨ r' x y H Q) (fun d e => (g d e).or (g' d e)) := by
  intro B L σ H G x y d e res Q hK E0 hx hy hg hQ
  cases q : g d e with
  | some u => 
    have e1 : u = res := by simpa [q] using hg
    subst e1
    exact .inl (h B L σ H G x y d e _ Q hK E0 hx hy q hQ)
  | none => exact .inr (h' B L σ H G x y d e _ Q hK E0 hx hy (by simpa [q] using hg) hQ)

/-! ### tests -/
def dTest (f : DE) : DT := fun L => (f L).bind fun r L1 => match peek L1 r with
  | some (.bl b) => .ok b L1
  | _ => .stuck
theorem tTest_of {t : TE} {σ : St} {H : Hp} {Q : Bool → Hp → Prop} (k : ∀ Q, tD X.K E f σ H Q → t σ H Q) (h : tDT X.K E (dTest f) σ H Q) : tTest t σ H Q := by
  obtain ⟨B, L, G, hK, E0, P⟩ := h
  refine k _ ⟨B, L, G, hK, E0, PostG.next P .refl fun r1 L1 v1 H1 G1 S1 E1 R1 P1 => ?_⟩
  split at P1
  · rename_i b p
    exact ⟨b, (peek_ok E1 R1 p).bl, P1 b H1 G1 S1 E1 rfl⟩
  · exact P1.elim
theorem dt_cmp {op : CmpOp} {r : R2} {g : GOp} (ho : OpR X (compareOp op) r) (sn : OpSnd X.K r g) (ha : DEx X E a fa) (hb : DEx X E b fb) (hm : behindInMarks op b = false) : DTx X E (.Compare a [op] [b] pos) (dTest (dOp g fa fb)) :=
  PT.imp (pt_cmpR ho ha hb hm) fun _ _ _ h => tTest_of (fun _ => tOp_of sn) h
theorem dt_val (ha : DEx X E a f) (he : ∀ whole, isTrue a X.env whole = (do let v ← whole; standAt a.pos; holding [v] (truthy v)) := by intro _; rfl) : DTx X E a (dTest f) :=
  PT.imp (pt_val ha he) fun _ _ _ h => tTest_of (fun _ q => q) h
def dNotT (f : DT) : DT := fun L => (f L).bind fun b L1 => .ok (!b) L1
def dAndT (f g : DT) : DT := fun L => (f L).bind fun b L1 => if b = true then g L1 else .ok false L1
def dOrT (f g : DT) : DT := fun L => (f L).bind fun b L1 => if b = true then .ok true L1 else g L1
theorem dt_not {f : DT} (h : DTx X E a f) : DTx X E (.UnaryOp .Not a pos) (dNotT f) := PT.imp (pt_not h) fun σ H Q ⟨B, L, G, hK, E0, P⟩ =>
  ⟨B, L, G, hK, E0, PostG.next P .refl fun r1 L1 v1 H1 G1 S1 E1 R1 P1 => by
    cases (show v1 = r1 from R1)
    exact P1 _ H1 G1 S1 E1 rfl⟩
def DWx (X : Cx) (E : XK) (e : Expr) (f : DT) : Prop := PW X e (tDT X.K E f)
theorem PW.imp {X : Cx} {e : Expr} {t t' : TT} (h : PW X e t) (k : ∀ σ H Q, t' σ H Q → t σ H Q) : PW X e t' := ⟨fun w pins s σ H Q I q => h.run w pins s σ H Q I (k σ H Q q)⟩
theorem dw_and1 {f : DT} (h : DTx X E a f) : DWx X E (.BoolOp .And [a] pos) f := pw_and1 h
theorem dw_or1 {f : DT} (h : DTx X E a f) : DWx X E (.BoolOp .Or [a] pos) f := pw_or1 h
theorem DWx.pt {f : DT} (h : DWx X E a f) : DTx X E a f := L2.PW.pt h
theorem dw_and {f g : DT} {rest : List Expr} (ha : DTx X E a f) (hb : DWx X E (.BoolOp .And (b :: rest) pos) g) : DWx X E (.BoolOp .And (a :: b :: rest) pos) (dAndT f g) :=
  PW.imp (pw_and ha hb) fun σ H Q ⟨B, L, G, hK, E0, P⟩ => ⟨B, L, G, hK, E0, PostG.next P .refl fun r1 L1 v1 H1 G1 S1 E1 R1 P1 => by
    have e1 : v1 = r1 := R1
    subst e1
    cases v1 with
    | true => exact ⟨B, L1, G1, hK, E1, PostG.last (rel2 := relB) P1 S1 fun r L' v H' G' S' E' R' => ⟨R', fun _ q => q⟩⟩
    | false => exact P1 _ H1 G1 S1 E1 rfl⟩
theorem dw_or {f g : DT} {rest : List Expr} (ha : DTx X E a f) (hb : DWx X E (.BoolOp .Or (b :: rest) pos) g) : DWx X E (.BoolOp .Or (a :: b :: rest) pos) (dOrT f g) :=
  PW.imp (pw_or ha hb) fun σ H Q ⟨B, L, G, hK, E0, P⟩ => ⟨B, L, G, hK, E0, PostG.next P .refl fun r1 L1 v1 H1 G1 S1 E1 R1 P1 => by
    have e1 : v1 = r1 := R1
    subst e1
    cases v1 with
    | false => exact ⟨B, L1, G1, hK, E1, PostG.last (rel2 := relB) P1 S1 fun r L' v H' G' S' E' R' => ⟨R', fun _ q => q⟩⟩
    | true => exact P1 _ H1 G1 S1 E1 rfl⟩
/-! .. as values -/
def dOfT (f : DT) : DE := fun L => (f L).bind fun b L1 => .ok (.v (.bl b)) L1
def blOf (f : DE) (k : Bool → LS → Rs R) : DE := fun L => (f L).bind fun r L1 => match peek L1 r with
  | some (.bl b) => k b L1
  | _ => .stuck
def dAndV (f g : DE) : DE := blOf f fun b L1 => if b = true then g L1 else .ok (.v (.bl false)) L1
def dOrV (f g : DE) : DE := blOf f fun b L1 => if b = true then .ok (.v (.bl true)) L1 else g L1
def dNotV (f : DE) : DE := blOf f fun b L1 => .ok (.v (.bl (!b))) L1
theorem de_one {op} (h : DEx X E a f) : DEx X E (.BoolOp op [a] pos) f := pe_one h
theorem relR_trans {K : PySem.W.Frag} {Ha Hb : Hp} {L L' : LS} {σ : St} {H G H' G' : Hp} {L0 : LS} {G0 Gb : Hp} {Lb : LS} (S : Stp L0 σ Ha G0 Lb Hb Gb) {v : V} {r : R} (h : RR K Hb L σ H G v r) : RR K Ha L σ H G v r := RR.base S.dom h
theorem de_and {rest : List Expr} {fb : DE} (ha : DEx X E a fa) (hb : DEx X E (.BoolOp .And (b :: rest) pos) fb) : DEx X E (.BoolOp .And (a :: b :: rest) pos) (dAndV fa fb) :=
  PE.imp (pe_and ha hb) fun σ H Q ⟨B, L, G, hK, E0, P⟩ => ⟨B, L, G, hK, E0, PostG.next P .refl fun r1 L1 v1 H1 G1 S1 E1 R1 P1 => by
    split at P1
    · rename_i c p
      refine ⟨c, (peek_ok E1 R1 p).bl, ?_⟩
      cases c with
      | true => exact ⟨B, L1, G1, hK, E1, PostG.last (rel2 := relR B.K H σ) P1 S1 fun r L' v H' G' S' E' R' => ⟨RR.base S1.dom R', fun _ q => q⟩⟩
      | false => exact P1 _ H1 G1 S1 E1 (.bl false)
    · exact P1.elim⟩
theorem de_or {rest : List Expr} {fb : DE} (ha : DEx X E a fa) (hb : DEx X E (.BoolOp .Or (b :: rest) pos) fb) : DEx X E (.BoolOp .Or (a :: b :: rest) pos) (dOrV fa fb) :=
  PE.imp (pe_or ha hb) fun σ H Q ⟨B, L, G, hK, E0, P⟩ => ⟨B, L, G, hK, E0, PostG.next P .refl fun r1 L1 v1 H1 G1 S1 E1 R1 P1 => by
    split at P1
    · rename_i c p
      refine ⟨c, (peek_ok E1 R1 p).bl, ?_⟩
      cases c with
      | false => exact ⟨B, L1, G1, hK, E1, PostG.last (rel2 := relR B.K H σ) P1 S1 fun r L' v H' G' S' E' R' => ⟨RR.base S1.dom R', fun _ q => q⟩⟩
      | true => exact P1 _ H1 G1 S1 E1 (.bl true)
    · exact P1.elim⟩
theorem de_not (ha : DEx X E a fa) : DEx X E (.UnaryOp .Not a pos) (dNotV fa) :=
  PE.imp (pe_not ha) fun σ H Q ⟨B, L, G, hK, E0, P⟩ => ⟨B, L, G, hK, E0, PostG.next P .refl fun r1 L1 v1 H1 G1 S1 E1 R1 P1 => by
    split at P1
    · rename_i c p
      exact ⟨c, (peek_ok E1 R1 p).bl, P1 _ H1 G1 S1 E1 (.bl _)⟩
    · exact P1.elim⟩
def dIf (t : DT) (f g : DE) : DE := fun L => (t L).bind fun b L1 => if b = true then f L1 else g L1
theorem de_if {t : DT} (hc : DTx X E c t) (ha : DEx X E a fa) (hb : DEx X E b fb) : DEx X E (.IfExp c a b pos) (dIf t fa fb) :=
  PE.imp (pe_ifExp hc ha hb) fun σ H Q ⟨B, L, G, hK, E0, P⟩ => ⟨B, L, G, hK, E0, PostG.next P .refl fun r1 L1 v1 H1 G1 S1 E1 R1 P1 => by
    have e1 : v1 = r1 := R1
    subst e1
    cases v1 with
    | true => exact ⟨B, L1, G1, hK, E1, PostG.last (rel2 := relR B.K H σ) P1 S1 fun r L' v H' G' S' E' R' => ⟨RR.base S1.dom R', fun _ q => q⟩⟩
    | false => exact ⟨B, L1, G1, hK, E1, PostG.last (rel2 := relR B.K H σ) P1 S1 fun r L' v H' G' S' E' R' => ⟨RR.base S1.dom R', fun _ q => q⟩⟩⟩
/-- a chain a < b < c -/
def dChain (g g' : GOp) (fa fb fc : DE) : DE := fun L => (fa L).bind fun r1 L1 => (fb L1).bind fun r2 L2 => match peek L2 r1, peek L2 r2 with
  | some d, some e => match g d e with
    | some (.v (.bl k)) => if k = true then (fc L2).bind fun r3 L3 => on2 g' r2 r3 L3 else .ok (.v (.bl false)) L2
    | _ => .stuck
  | _, _ => .stuck
end
end DV
end
section
set_option Elab.async false
set_option linter.all false
set_option maxRecDepth 100000
set_option maxHeartbeats 4000000
namespace DV
open PySem PySem.Spec PyProof.Rows L2

/-! ### data of the model -/
mutual
def D.py : D → Option PyData
  | .non => some .none
  | .bl b => some (.bool b)
  | .int i => some (.int i)
  | .str x => some (.str x)
  | .lst xs => (pys xs).map .list
  | .tup xs => (pys xs).map .tuple
  | _ => none
def pys : List D → Option (List PyData)
  | [] => some []
  | d :: ds => (D.py d).bind fun p => (pys ds).map fun ps => p :: ps
end
mutual
theorem Rp.dp {K : PySem.W.Frag} {G : Hp} : ∀ {v : V} {d : D} {p : PyData}, Rp K G v d → d.py = some p → Dp K G v p
  | _, _, _, .non, e => by cases e; exact .non
  | _, _, _, .bl b, e => by cases e; exact .bl b
  | _, _, _, .int i, e => by cases e; exact .int i
  | _, _, _, .str x, e => by cases e; exact .str x
  | _, _, _, .opq v, e => by cases e
  | _, _, _, .lst r q, e => by
    simp only [D.py, Option.map_eq_some_iff] at e
    obtain ⟨ps, e, rfl⟩ := e
    exact .lst (.of r) (Rps.dps q e)
  | _, _, _, .tup r q, e => by
    simp only [D.py, Option.map_eq_some_iff] at e
    obtain ⟨ps, e, rfl⟩ := e
    exact .tup (.of r) (Rps.dps q e)
  | _, _, _, .dct r h q, e => by cases e
  | _, _, _, .dctT r h q, e => by cases e
  | _, _, _, .scr r, e => by cases e
theorem Rps.dps {K : PySem.W.Frag} {G : Hp} : ∀ {vs : List V} {ds : List D} {ps : List PyData}, Rps K G vs ds → pys ds = some ps → DpAll K G vs ps
  | _, _, _, .nil, e => by cases e; exact .nil
  | _, _, _, .cons r q, e => by
    simp only [pys, Option.bind_eq_some_iff, Option.map_eq_some_iff] at e
    obtain ⟨p, e1, ps, e2, rfl⟩ := e
    exact .cons (Rp.dp r e1) (Rps.dps q e2)
end
mutual
theorem Dp.mono {K : PySem.W.Frag} {G G' : Hp} (h : ∀ a o, G a = some o → G' a = some o) : ∀ {v : V} {d : PyData}, Dp K G v d → Dp K G' v d
  | _, _, .non => .non
  | _, _, .bl b => .bl b
  | _, _, .int i => .int i
  | _, _, .str x => .str x
  | _, _, .lst r q => .lst (Same.seq h r) (DpAll.mono h q)
  | _, _, .tup r q => .tup (by
      rcases r with (r | ⟨o, r⟩) | r
      · exact .inl (.inl (h _ _ r))
      · exact .inl (.inr ⟨o, h _ _ r⟩)
      · exact .inr r) (DpAll.mono h q)
theorem DpAll.mono {K : PySem.W.Frag} {G G' : Hp} (h : ∀ a o, G a = some o → G' a = some o) : ∀ {vs : List V} {ds : List PyData}, DpAll K G vs ds → DpAll K G' vs ds
  | _, _, .nil => .nil
  | _, _, .cons r q => .cons (Dp.mono h r) (DpAll.mono h q)
end
theorem RpN.dp {K : PySem.W.Frag} {H G : Hp} (sb : ∀ a o, G a = some o → H a = some o) {v : V} {d : D} {p : PyData} (h : RpN K H G v d) (e : d.py = some p) : Dp K H v p := by
  rcases h with h | ⟨a, o, e', h1, h2⟩
  · exact Dp.mono sb (h.dp e)
  · subst e'
    cases h2 with
    | lst q =>
      simp only [D.py, Option.map_eq_some_iff] at e
      obtain ⟨ps, e, rfl⟩ := e
      exact .lst (.of h1) (DpAll.mono sb (q.dps e))
    | dct _ _ => cases e
    | dctT _ _ => cases e

section
variable {K : PySem.W.Frag}
/-! ### ints -/
def gII (f : Int → Int → D) : GOp := fun d e => match d, e with
  | .int i, .int j => some (.v (f i j))
  | _, _ => none
def gIC (C : Int → Int → Bool) (f : Int → Int → D) : GOp := fun d e => match d, e with
  | .int i, .int j => if C i j = true then some (.v (f i j)) else none
  | _, _ => none
inductive Pl : V → D → Prop
  | int (i : Int) : Pl (.int i) (.int i)
  | bl (b : Bool) : Pl (.bl b) (.bl b)
  | str (x : Str) : Pl (.str x) (.str x)
  | non : Pl .non .non
theorem Pl.rp {G : Hp} {v : V} {d : D} : Pl v d → Rp K G v d
  | .int i => .int i
  | .bl b => .bl b
  | .str x => .str x
  | .non => .non
theorem snd_II {g : Int → Int → V} {f : Int → Int → D} (h : ∀ i j, Pl (g i j) (f i j)) : OpSnd K (rI0 g) (gII f) := by
  intro B L σ H G x y d e res Q hK E0 hx hy hg hQ
  unfold gII at hg
  split at hg
  · rename_i i j
    cases hg
    exact ⟨i, j, hx.int, hy.int, hQ _ H G .refl E0 (h i j).rp⟩
  · cases hg
theorem snd_IC {Cp : Int → Int → Prop} {C : Int → Int → Bool} {g : Int → Int → V} {f : Int → Int → D} (h : ∀ i j, Pl (g i j) (f i j)) (hc : ∀ i j, C i j = true → Cp i j) : OpSnd K (rI Cp g) (gIC C f) := by
  intro B L σ H G x y d e res Q hK E0 hx hy hg hQ
  unfold gIC at hg
  split at hg
  · rename_i i j
    split at hg
    · rename_i c
      cases hg
      exact ⟨i, j, hx.int, hy.int, hc i j c, hQ _ H G .refl E0 (h i j).rp⟩
    · cases hg
  · cases hg
abbrev gSub : GOp := gII fun i j => .int (i - j)
theorem snd_sub : OpSnd K (rI0 fun i j => .int (i - j)) gSub := snd_II fun _ _ => .int _
def mulOk (i j : Int) : Bool := decide (i.natAbs < 2 ^ 64) || decide (j.natAbs < 2 ^ 64) || decide (i.natAbs.log2 + j.natAbs.log2 < 1000000)
abbrev gMulI : GOp := gIC mulOk fun i j => .int (i * j)
theorem op_mulA {X : Cx} : OpR X (binaryOp .Mult) (rI (fun i j => CMul i j ∨ CMulW i j) fun i j => .int (i * j)) := opI fun _ _ _ _ _ _ _ hc q => mul_int q (hc.elim CMul.ok CMulW.ok)
theorem snd_mulI : OpSnd K (rI (fun i j => CMul i j ∨ CMulW i j) fun i j => .int (i * j)) gMulI := snd_IC (fun _ _ => .int _) fun i j h => by
  unfold mulOk at h
  simp only [Bool.or_eq_true, decide_eq_true_eq] at h
  rcases h with (h | h) | h
  · exact .inl (.inl ⟨by omega, by omega⟩)
  · exact .inl (.inr ⟨by omega, by omega⟩)
  · exact .inr h
def divOk (_ j : Int) : Bool := decide (0 < j) && decide (j < 2 ^ 64)
abbrev gFdiv : GOp := gIC divOk fun i j => .int (i / j)
theorem snd_fdiv : OpSnd K (rI CDivW fun i j => .int (i / j)) gFdiv := snd_IC (fun _ _ => .int _) fun i j h => by
  unfold divOk at h
  simp only [Bool.and_eq_true, decide_eq_true_eq] at h
  exact wide_div (b := 64) h.1 (by omega) (by omega) (by omega)
def posOk (_ j : Int) : Bool := decide (0 < j)
abbrev gMod : GOp := gIC posOk fun i j => .int (i % j)
theorem snd_mod : OpSnd K (rI (fun _ j => 0 < j) fun i j => .int (i % j)) gMod := snd_IC (fun _ _ => .int _) fun i j h => of_decide_eq_true h
def powOk (i j : Int) : Bool := decide (0 ≤ j) && decide (j ≤ 1000) && decide (i.natAbs < 2 ^ 64)
abbrev gPow : GOp := gIC powOk fun i j => .int (i ^ j.toNat)
theorem snd_pow : OpSnd K (rI CPow fun i j => .int (i ^ j.toNat)) gPow := snd_IC (fun _ _ => .int _) fun i j h => by
  unfold powOk at h
  simp only [Bool.and_eq_true, decide_eq_true_eq] at h
  exact ⟨h.1.1, by omega, h.2⟩
abbrev gLt : GOp := gII fun i j => .bl (decide (i < j))
abbrev gLe : GOp := gII fun i j => .bl (decide (i ≤ j))
abbrev gGt : GOp := gII fun i j => .bl (decide (j < i))
abbrev gGe : GOp := gII fun i j => .bl (decide (j ≤ i))
theorem snd_lt : OpSnd K (rI0 fun i j => .bl (decide (i < j))) gLt := snd_II fun _ _ => .bl _
theorem snd_le : OpSnd K (rI0 fun i j => .bl (decide (i ≤ j))) gLe := snd_II fun _ _ => .bl _
theorem snd_gt : OpSnd K (rI0 fun i j => .bl (decide (j < i))) gGt := snd_II fun _ _ => .bl _
theorem snd_ge : OpSnd K (rI0 fun i j => .bl (decide (j ≤ i))) gGe := snd_II fun _ _ => .bl _

/-! ### == by data -/
def gEqB (neg : Bool) : GOp := fun d e => match d.py, e.py with
  | some p, some q => if (SeqAt.shaped p && SeqAt.shaped q) = true then some (.v (.bl (if neg then !PyData.eqv p q else PyData.eqv p q))) else none
  | _, _ => none
abbrev gEq : GOp := gEqB false
abbrev gNe : GOp := gEqB true
theorem snd_eqB (neg : Bool) : OpSnd K (fun x y H Q => ∃ d e, Dp K H x d ∧ Dp K H y e ∧ SeqAt.shaped d = true ∧ SeqAt.shaped e = true ∧ Q (.bl (if neg then !PyData.eqv d e else PyData.eqv d e)) H) (gEqB neg) := by
  intro B L σ H G x y d e res Q hK E0 hx hy hg hQ
  unfold gEqB at hg
  split at hg
  · rename_i p q h1 h2
    split at hg
    · rename_i c
      cases hg
      rw [Bool.and_eq_true] at c
      exact ⟨p, q, hx.dp E0.sub h1, hy.dp E0.sub h2, c.1, c.2, hQ _ H G .refl E0 (.bl _)⟩
    · cases hg
  · cases hg
theorem snd_eq : OpSnd K (rEqD K) gEq := fun B L σ H G x y d e res Q hK E0 hx hy hg hQ => by
  obtain ⟨d, e, h1, h2, h3, h4, q⟩ := snd_eqB false B L σ H G x y d e res Q hK E0 hx hy hg hQ
  exact ⟨d, e, h1, h2, h3, h4, q⟩
theorem snd_ne : OpSnd K (rNeD K) gNe := fun B L σ H G x y d e res Q hK E0 hx hy hg hQ => by
  obtain ⟨d, e, h1, h2, h3, h4, q⟩ := snd_eqB true B L σ H G x y d e res Q hK E0 hx hy hg hQ
  exact ⟨d, e, h1, h2, h3, h4, q⟩
/-! is None; is True | False -/
def D.isNon : D → Option Bool
  | .non => some true
  | .scr _ => none
  | .opq _ => none
  | _ => some false
def gIsN (neg : Bool) : GOp := fun d e => match e with
  | .non => (D.isNon d).map fun b => .v (.bl (if neg then !b else b))
  | _ => none
theorem RpN.isNon {H G : Hp} {v : V} {d : D} {b : Bool} (h : RpN K H G v d) (e : d.isNon = some b) : decide (v = .non) = b := by
  rcases h with h | ⟨a, o, rfl, h1, h2⟩
  · cases h <;> simp [D.isNon] at e <;> subst e <;> simp
  · cases h2 <;> simp [D.isNon] at e <;> subst e <;> simp
theorem snd_isN : OpSnd K (fun x y H Q => y = .non ∧ Q (.bl (decide (x = .non))) H) (gIsN false) := by
  intro B L σ H G x y d e res Q hK E0 hx hy hg hQ
  cases e with
  | non =>
    simp only [gIsN, Option.map_eq_some_iff] at hg
    obtain ⟨b, h1, rfl⟩ := hg
    exact ⟨hy.non, by rw [hx.isNon h1]; exact hQ _ H G .refl E0 (.bl _)⟩
  | _ => cases hg
theorem snd_notN : OpSnd K (fun x y H Q => y = .non ∧ Q (.bl (!decide (x = .non))) H) (gIsN true) := by
  intro B L σ H G x y d e res Q hK E0 hx hy hg hQ
  cases e with
  | non =>
    simp only [gIsN, Option.map_eq_some_iff] at hg
    obtain ⟨b, h1, rfl⟩ := hg
    exact ⟨hy.non, by rw [hx.isNon h1]; exact hQ _ H G .refl E0 (.bl _)⟩
  | _ => cases hg

/-! ### new objects -/
theorem RR.fresh {B : Bs} {L : LS} {σ : St} {H G : Hp} (E0 : EnvOk B L σ H G) {p : Addr} {o : HO} {d : D} (hp : H p = none) (ho : Ob B.K G o d) : EnvOk B L σ (upd H p o) G ∧ Stp L σ H G L (upd H p o) G ∧ RR B.K H L σ (upd H p o) G (.ref p) (.t d) := by
  obtain ⟨E1, S1, g, h0, ha⟩ := E0.laid (o := o) hp
  exact ⟨E1, S1, p, o, rfl, upd_same, ho, g, hp, ha⟩
theorem RR.freshG {B : Bs} {L : LS} {σ : St} {H G : Hp} (E0 : EnvOk B L σ H G) {p : Addr} {vs : List V} {ds : List D} (hp : H p = none) (r : Rps B.K G vs ds) :
    ∃ G', EnvOk B L σ (upd H p (.tup vs)) G' ∧ Stp L σ H G L (upd H p (.tup vs)) G' ∧ Rp B.K G' (.ref p) (.tup ds) := by
  obtain ⟨E1, S1, g, gs⟩ := E0.laidG (o := .tup vs) hp
  exact ⟨_, E1, S1, .tup g (r.mono gs)⟩
/-! ### + -/
def lenOk (n : Nat) : Bool := decide (n ≤ 1000000)
theorem lenOk_line {n : Nat} (h : lenOk n = true) : n ≤ sizeLine := by
  unfold lenOk at h
  have := of_decide_eq_true h
  rw [sizeLine_eq]; omega
def gAdd : GOp := fun d e => match d, e with
  | .int i, .int j => some (.v (.int (i + j)))
  | .str i, .str j => if lenOk (i.length + j.length) = true then some (.v (.str (i ++ j))) else none
  | .lst xs, .lst ys => if lenOk (xs.length + ys.length) = true then some (.t (.lst (xs ++ ys))) else none
  | .tup xs, .tup ys => if lenOk (xs.length + ys.length) = true then some (.v (.tup (xs ++ ys))) else none
  | _, _ => none
def rAddA (K : PySem.W.Frag) : R2 := fun x y H Q => (rI0 (fun i j => .int (i + j)) x y H Q) ∨ (∃ i j, x = .str i ∧ y = .str j ∧ i.length + j.length ≤ sizeLine ∧ Q (.str (i ++ j)) H) ∨ rCat x y H Q ∨ rCatA K x y H Q
theorem op_addA {X : Cx} : OpR X (binaryOp .Add) (rAddA X.K) := op_add.or (op_add_str.or (op_cat.or op_catA))
theorem snd_add : OpSnd K (rAddA K) gAdd := by
  intro B L σ H G x y d e res Q hK E0 hx hy hg hQ
  subst hK
  unfold gAdd at hg
  split at hg
  · cases hg; exact .inl ⟨_, _, hx.int, hy.int, hQ _ H G .refl E0 (.int _)⟩
  · split at hg
    · rename_i c; cases hg
      exact .inr (.inl ⟨_, _, hx.str, hy.str, lenOk_line c, hQ _ H G .refl E0 (.str _)⟩)
    · cases hg
  · split at hg
    · rename_i c; cases hg
      obtain ⟨a, vs, rfl, ha, ra⟩ := hx.lst E0.sub
      obtain ⟨b, ws, rfl, hb, rb⟩ := hy.lst E0.sub
      refine .inr (.inr (.inl ⟨a, b, vs, ws, rfl, rfl, ha, hb, by rw [ra.length, rb.length]; exact lenOk_line c, fun p hp => ?_⟩))
      obtain ⟨E1, S1, R1⟩ := RR.fresh E0 hp (.lst (ra.append rb))
      exact hQ _ _ G S1 E1 R1
    · cases hg
  · split at hg
    · rename_i xs ys c; cases hg
      obtain ⟨a, vs, rfl, ha, ra⟩ := hx.tup E0.sub
      obtain ⟨b, ws, rfl, hb, rb⟩ := hy.tup E0.sub
      have rpx : ∀ {v : V} {ds : List D}, RpN B.K H G v (.tup ds) → Rp B.K G v (.tup ds) := fun {v ds} h => by
        rcases h with h | ⟨_, _, _, _, h2⟩
        · exact h
        · cases h2
      refine .inr (.inr (.inr ⟨a, b, vs, ws, rfl, rfl, .of ha, .of hb, by rw [ra.length, rb.length]; exact lenOk_line c, fun e => ?_, fun _ e => ?_, fun _ _ p hp => ?_⟩))
      · subst e
        have : xs = [] := by cases ra; rfl
        subst this
        exact hQ _ H G .refl E0 (by simpa [RR] using rpx hy)
      · subst e
        have : ys = [] := by cases rb; rfl
        subst this
        exact hQ _ H G .refl E0 (by simpa [RR] using rpx hx)
      · obtain ⟨G', E1, S1, R1⟩ := RR.freshG E0 hp (ra.append rb)
        exact hQ _ _ G' S1 E1 R1
    · cases hg
  · cases hg
/-! * : ints, a list times an int -/
def gMul : GOp := fun d e => match d, e with
  | .int i, .int j => if mulOk i j = true then some (.v (.int (i * j))) else none
  | .lst xs, .int j => if (lenOk (xs.length * j.toNat) && decide (-1000000 ≤ j) && decide (j ≤ 1000000)) = true then some (.t (.lst (List.replicate j.toNat xs).flatten)) else none
  | _, _ => none
def rMulA : R2 := fun x y H Q => (rI (fun i j => CMul i j ∨ CMulW i j) (fun i j => .int (i * j)) x y H Q) ∨ rRep x y H Q
theorem op_mulAA {X : Cx} : OpR X (binaryOp .Mult) rMulA := op_mulA.or op_rep
theorem snd_mul : OpSnd K rMulA gMul := by
  intro B L σ H G x y d e res Q hK E0 hx hy hg hQ
  subst hK
  unfold gMul at hg
  split at hg
  · rename_i i j
    exact .inl (snd_mulI B L σ H G x y _ _ res Q rfl E0 hx hy hg hQ)
  · split at hg
    · rename_i c; cases hg
      obtain ⟨a, vs, rfl, ha, ra⟩ := hx.lst E0.sub
      simp only [Bool.and_eq_true, decide_eq_true_eq] at c
      refine .inr ⟨a, _, vs, rfl, hy.int, ha, by omega, by omega, by rw [ra.length]; exact lenOk_line c.1.1, fun p hp => ?_⟩
      obtain ⟨E1, S1, R1⟩ := RR.fresh E0 hp (.lst (ra.rep _))
      exact hQ _ _ G S1 E1 R1
    · cases hg
  · cases hg
/-! ### x[i] -/
def gIx : GOp := fun d e => match d, e with
  | .lst xs, .int i => (atI xs i).map .v
  | .tup xs, .int i => (atI xs i).map .v
  | .scr xs, .int i => (atI xs i).map fun j => .v (.int j)
  | .str z, .int i => if lenOk z.length = true then (atI z.cps.toList i).map fun c => .v (.str ⟨#[c]⟩) else none
  | _, _ => none
theorem atI_len {α β : Type} {xs : List α} {ys : List β} {i : Int} {x : α} (h : atI xs i = some x) (e : xs.length = ys.length) : ∃ (j : Nat), xs[j]? = some x ∧ ∀ y, ys[j]? = some y → atI ys i = some y := by
  unfold atI at h ⊢
  rw [← e]
  cases q : ixN xs.length i with
  | none => rw [q] at h; cases h
  | some j =>
    rw [q] at h
    exact ⟨j, h, fun y hy => hy⟩
theorem Rps.atI {G : Hp} {vs : List V} {ds : List D} {i : Int} {d : D} (r : Rps K G vs ds) (h : atI ds i = some d) : ∃ v, L2.atI vs i = some v ∧ Rp K G v d := by
  obtain ⟨j, h1, h2⟩ := atI_len (ys := vs) h r.length.symm
  obtain ⟨v, h3, h4⟩ := r.get h1
  exact ⟨v, h2 v h3, h4⟩
theorem snd_ix : OpSnd K (rIx K) gIx := by
  intro B L σ H G x y d e res Q hK E0 hx hy hg hQ
  subst hK
  unfold gIx at hg
  split at hg
  · simp only [Option.map_eq_some_iff] at hg
    obtain ⟨z, h1, rfl⟩ := hg
    obtain ⟨a, vs, rfl, ha, ra⟩ := hx.lst E0.sub
    obtain ⟨v, h2, h3⟩ := ra.atI h1
    exact .inl ⟨a, vs, _, v, rfl, hy.int, .of ha, h2, hQ _ H G .refl E0 h3⟩
  · simp only [Option.map_eq_some_iff] at hg
    obtain ⟨z, h1, rfl⟩ := hg
    obtain ⟨a, vs, rfl, ha, ra⟩ := hx.tup E0.sub
    obtain ⟨v, h2, h3⟩ := ra.atI h1
    exact .inr (.inl ⟨a, vs, _, v, rfl, hy.int, .of ha, h2, hQ _ H G .refl E0 h3⟩)
  · simp only [Option.map_eq_some_iff] at hg
    obtain ⟨z, h1, rfl⟩ := hg
    obtain ⟨a, rfl, ha⟩ := hx.scr E0.sub
    obtain ⟨j, h2, h3⟩ := atI_len (ys := List.map V.int _) h1 (List.length_map ..).symm
    exact .inl ⟨a, _, _, .int z, rfl, hy.int, ha, h3 _ (by rw [List.getElem?_map, h2]; rfl), hQ _ H G .refl E0 (.int z)⟩
  · split at hg
    · rename_i c
      simp only [Option.map_eq_some_iff] at hg
      obtain ⟨z, h1, rfl⟩ := hg
      exact .inr (.inr ⟨_, _, z, hx.str, hy.int, lenOk_line c, h1, hQ _ H G .refl E0 (.str _)⟩)
    · cases hg
  · cases hg
end
end DV
end
section
set_option Elab.async false
set_option linter.all false
set_option maxRecDepth 100000
set_option maxHeartbeats 4000000
namespace DV
open PySem PySem.Spec PyProof.Rows L2

/-! ### argument lists -/
def RRL (K : PySem.W.Frag) (Hs : Hp) (L : LS) (σ : St) (H G : Hp) : List V → List R → Prop
  | [], [] => True
  | v :: vs, r :: rs => RR K Hs L σ H G v r ∧ RRL K Hs L σ H G vs rs ∧ ∀ d, r = .t d → ∀ (k : Nat) e, rs[k]? = some (.t e) → vs[k]? ≠ some v
  | _, _ => False
theorem RRL.base {K : PySem.W.Frag} {L : LS} {σ : St} {H G Hs Ht : Hp} (q : ∀ a, Hs a ≠ none → Ht a ≠ none) : ∀ {vs : List V} {rs : List R}, RRL K Ht L σ H G vs rs → RRL K Hs L σ H G vs rs
  | [], [], h => h
  | _ :: _, _ :: _, ⟨a, b, c⟩ => ⟨RR.base q a, RRL.base q b, c⟩
  | [], _ :: _, h => h.elim
  | _ :: _, [], h => h.elim
theorem RRL.stp {K : PySem.W.Frag} {Hs : Hp} {L L' : LS} {σ : St} {H G H' G' : Hp} (S : Stp L σ H G L' H' G') : ∀ {vs : List V} {rs : List R}, RRL K Hs L σ H G vs rs → RRL K Hs L' σ H' G' vs rs
  | [], [], h => h
  | _ :: _, _ :: _, ⟨a, b, c⟩ => ⟨S.rr a, RRL.stp S b, c⟩
  | [], _ :: _, h => h.elim
  | _ :: _, [], h => h.elim
theorem RRL.temp {K : PySem.W.Frag} {Hs : Hp} {L : LS} {σ : St} {H G : Hp} : ∀ {vs : List V} {rs : List R} {k : Nat} {e : D}, RRL K Hs L σ H G vs rs → rs[k]? = some (.t e) → ∃ a, vs[k]? = some (.ref a) ∧ Hs a = none
  | [], [], k, e, h, q => by simp at q
  | v :: vs, r :: rs, 0, e, ⟨a, b, c⟩, q => by
    simp at q; subst q
    obtain ⟨a, o, rfl, _, _, _, h5, _⟩ := a
    exact ⟨a, rfl, h5⟩
  | v :: vs, r :: rs, k + 1, e, ⟨a, b, c⟩, q => by
    obtain ⟨a, h1, h2⟩ := RRL.temp (k := k) (e := e) b (by simpa using q)
    exact ⟨a, by simpa using h1, h2⟩
  | [], _ :: _, _, _, h, _ => h.elim
  | _ :: _, [], _, _, h, _ => h.elim
def relL (K : PySem.W.Frag) (Hs : Hp) (σ : St) : LS → Hp → Hp → List V → List R → Prop := fun L H G v r => RRL K Hs L σ H G v r
def tDL (K : PySem.W.Frag) (E : XK) (f : DA) : TA := fun σ H Q => ∃ B L G, B.K = K ∧ EnvOk B L σ H G ∧ PostG (relL B.K H σ) B L σ H G (f L) Q E
def DLx (X : Cx) (E : XK) (es : List Expr) (f : DA) : Prop := PA X es (tDL X.K E f)
def dANil : DA := fun L => .ok [] L
def dACons (f : DE) (g : DA) : DA := fun L => (f L).bind fun r L1 => (g L1).bind fun rs L2 => .ok (r :: rs) L2
def dFNil : LS → Rs (List D) := fun L => .ok [] L
def dFCons (f : DE) (g : LS → Rs (List D)) : LS → Rs (List D) := fun L => (f L).bind fun r L1 => match fz L1 r with
  | some (d, L1') => (g L1').bind fun ds L2 => .ok (d :: ds) L2
  | none => .stuck
section
variable {X : Cx} {E : XK} {e a b c : Expr} {es : List Expr} {pos : Pos} {f fa fb fc : DE}
theorem da_nil : DLx X E [] dANil := PA.imp pa_nil fun σ H Q ⟨B, L, G, hK, E0, P⟩ => P [] H G .refl E0 trivial
theorem da_cons {g : DA} (ha : DEx X E e f) (hr : DLx X E es g) (hs : starEach (e :: es) X.env = (false, eval e X.env) :: starEach es X.env := by rfl) : DLx X E (e :: es) (dACons f g) :=
  PA.imp (pa_cons ha hr hs) fun σ H Q ⟨B, L, G, hK, E0, P⟩ => ⟨B, L, G, hK, E0, PostG.next P .refl fun r1 L1 v1 H1 G1 S1 E1 R1 P1 =>
    ⟨B, L1, G1, hK, E1, PostG.next P1 S1 fun rs L2 vs H2 G2 S2 E2 R2 P2 => P2 _ H2 G2 (S1.trans S2) E2 ⟨S2.rr R1, RRL.base S1.dom R2, fun d hd k e' hk hv => by
      subst hd
      obtain ⟨a, h1, h2⟩ := RRL.temp R2 hk
      rw [hv] at h1
      obtain ⟨a', o, e1, e2, _⟩ := R1
      cases (Option.some.inj h1).symm.trans e1
      rw [e2] at h2; cases h2⟩⟩⟩
theorem df_nil : DFx X E [] dFNil := PA.imp pa_nil fun σ H Q ⟨B, L, G, hK, E0, P⟩ => P [] H G .refl E0 .nil
theorem df_cons {g : LS → Rs (List D)} (ha : DEx X E e f) (hr : DFx X E es g) (hs : starEach (e :: es) X.env = (false, eval e X.env) :: starEach es X.env := by rfl) : DFx X E (e :: es) (dFCons f g) :=
  PA.imp (pa_cons ha hr hs) fun σ H Q ⟨B, L, G, hK, E0, P⟩ => ⟨B, L, G, hK, E0, PostG.next P .refl fun r1 L1 v1 H1 G1 S1 E1 R1 P1 => by
    split at P1
    · rename_i d L1' h
      obtain ⟨G1', S1', E1', rp⟩ := fz_ok E0 E1 S1 R1 h
      exact ⟨B, L1', G1', hK, E1', PostG.next P1 S1' fun ds L2 vs H2 G2 S2 E2 R2 P2 => P2 _ H2 G2 (S1'.trans S2) E2 (.cons (rp.mono S2.gsub) R2)⟩
    · exact P1.elim⟩
/-! ### displays -/
def dLst (g : LS → Rs (List D)) : DE := fun L => (g L).bind fun ds L1 => if lenOk ds.length = true then .ok (.t (.lst ds)) L1 else .stuck
def dTup (g : LS → Rs (List D)) : DE := fun L => (g L).bind fun ds L1 => if lenOk ds.length = true then .ok (.v (.tup ds)) L1 else .stuck
theorem de_lst {g : LS → Rs (List D)} (h : DFx X E es g) : DEx X E (.List es pos) (dLst g) := PE.imp (pe_lst h) fun σ H Q ⟨B, L, G, hK, E0, P⟩ =>
  ⟨B, L, G, hK, E0, PostG.next P .refl fun ds L1 vs H1 G1 S1 E1 R1 P1 => by
    split at P1
    · rename_i c
      refine ⟨by rw [Rps.length R1]; exact lenOk_line c, fun p hp => ?_⟩
      obtain ⟨E2, S2, R2⟩ := RR.fresh E1 hp (.lst R1)
      exact P1 _ _ G1 (S1.trans S2) E2 (RR.base S1.dom R2)
    · exact P1.elim⟩
theorem de_tup {g : LS → Rs (List D)} {x1} (h : DFx X E es g) : DEx X E (.Tuple es x1 pos) (dTup g) := PE.imp (pe_tup h) fun σ H Q ⟨B, L, G, hK, E0, P⟩ =>
  ⟨B, L, G, hK, E0, PostG.next P .refl fun ds L1 vs H1 G1 S1 E1 R1 P1 => by
    split at P1
    · rename_i c
      refine ⟨by rw [Rps.length R1]; exact lenOk_line c, fun p hp => ?_⟩
      obtain ⟨G2, E2, S2, R2⟩ := RR.freshG E1 hp R1
      exact P1 _ _ G2 (S1.trans S2) E2 R2
    · exact P1.elim⟩
/-! ### calls of builtins -/
inductive RpNs (K : PySem.W.Frag) (H G : Hp) : List V → List D → Prop
  | nil : RpNs K H G [] []
  | cons {v : V} {d : D} {vs : List V} {ds : List D} : RpN K H G v d → RpNs K H G vs ds → RpNs K H G (v :: vs) (d :: ds)
def peeks (L : LS) : List R → Option (List D)
  | [] => some []
  | r :: rs => match peek L r, peeks L rs with
    | some d, some ds => some (d :: ds)
    | _, _ => none
theorem peeks_ok {B : Bs} {Hs : Hp} {L : LS} {σ : St} {H G : Hp} (E0 : EnvOk B L σ H G) : ∀ {vs : List V} {rs : List R} {ds : List D}, RRL B.K Hs L σ H G vs rs → peeks L rs = some ds → RpNs B.K H G vs ds
  | [], [], _, _, e => by cases e; exact .nil
  | v :: vs, r :: rs, ds, ⟨h1, h2, _⟩, e => by
    simp only [peeks] at e
    split at e
    · rename_i d ds' p1 p2
      cases e
      exact .cons (peek_ok E0 h1 p1) (peeks_ok E0 h2 p2)
    · cases e
  | [], _ :: _, _, h, _ => h.elim
  | _ :: _, [], _, h, _ => h.elim
abbrev GCall := List D → Option R
def CallSnd (K : PySem.W.Frag) (r : List V → Hp → VK → Prop) (g : GCall) : Prop := ∀ (B : Bs) (L : LS) (σ : St) (H G : Hp) (vs : List V) (ds : List D) (res : R) (Q : VK), B.K = K → EnvOk B L σ H G → RpNs K H G vs ds → g ds = some res →
  (∀ v H' G', Stp L σ H G L H' G' → EnvOk B L σ H' G' → RR K H L σ H' G' v res → Q v H') → r vs H Q
def onL (g : GCall) (rs : List R) (L : LS) : Rs R := match peeks L rs with
  | some ds => match g ds with
    | some res => .ok res L
    | none => .stuck
  | none => .stuck
def dCall (g : GCall) (as : DA) : DE := fun L => (as L).bind fun rs L1 => onL g rs L1
theorem onL_ok {K : PySem.W.Frag} {r : List V → Hp → VK → Prop} {g : GCall} (sn : CallSnd K r g) {B : Bs} {L L2 : LS} {σ : St} {H G H2 G2 Ha : Hp} {vs : List V} {rs : List R} {Q : VK} (hK : B.K = K)
    (P : PostG (relR B.K H σ) B L σ H G (onL g rs L2) Q E) (S : Stp L σ H G L2 H2 G2) (E2 : EnvOk B L2 σ H2 G2) (R1 : RRL B.K Ha L2 σ H2 G2 vs rs) : r vs H2 Q := by
  subst hK
  unfold onL at P
  split at P
  · rename_i ds p1
    split at P
    · rename_i res hg
      exact sn B L2 σ H2 G2 vs ds res Q rfl E2 (peeks_ok E2 R1 p1) hg fun v H' G' S' E' R' => P v H' G' (S.trans S') E' (RR.base S.dom R')
    · exact P.elim
  · exact P.elim
theorem tCB_of {r : List V → Hp → VK → Prop} {g : GCall} (sn : CallSnd X.K r g) {as : DA} {σ : St} {H : Hp} {Q : VK} (h : tD X.K E (dCall g as) σ H Q) : tCB r (tDL X.K E as) σ H Q := by
  obtain ⟨B, L, G, hK, E0, P⟩ := h
  exact ⟨B, L, G, hK, E0, PostG.next P .refl fun rs L1 vs H1 G1 S1 E1 R1 P1 => onL_ok sn hK P1 S1 E1 R1⟩
theorem de_callB {id : String} {x : Str} {p : Pos} {r : List V → Hp → VK → Prop} {g : GCall} {as : DA} (hc : CallR X (.builtin id) r) (sn : CallSnd X.K r g) (hg : Gl X x) (hm : X.mg x = none) (hv : bootBuiltins x = some (.builtin id)) (ha : DLx X E (e :: es) as)
    (hn : x ≠ "__name__" := by decide) (hdb : (x == ("__debug__" : Str)) = false := by decide) (hs : starEach (e :: es) X.env = (false, eval e X.env) :: starEach es X.env := by rfl) (hplain : (backTo pos (starEach es X.env)).any (·.1) = false := by rfl) :
    DEx X E (.Call (.Name x p) (e :: es) [] pos) (dCall g as) := PE.imp (pe_callB hc hg hm hv ha hn hdb hs hplain) fun _ _ _ h => tCB_of sn h
theorem de_callTy {T : String} {x : Str} {p : Pos} {r : List V → Hp → VK → Prop} {g : GCall} {as : DA} (hc : CallR X (.type T) r) (sn : CallSnd X.K r g) (hg : Gl X x) (hm : X.mg x = none) (hv : bootBuiltins x = some (.type T)) (ha : DLx X E (e :: es) as)
    (hn : x ≠ "__name__" := by decide) (hdb : (x == ("__debug__" : Str)) = false := by decide) (hs : starEach (e :: es) X.env = (false, eval e X.env) :: starEach es X.env := by rfl) (hplain : (backTo pos (starEach es X.env)).any (·.1) = false := by rfl) :
    DEx X E (.Call (.Name x p) (e :: es) [] pos) (dCall g as) := PE.imp (pe_callTy hc hg hm hv ha hn hdb hs hplain) fun _ _ _ h => tCB_of sn h
/-! ### chains -/
theorem tChain_of {r r' : R2} {g g' : GOp} (sn : OpSnd X.K r g) (sn' : OpSnd X.K r' g') {σ : St} {H : Hp} {Q : VK} (h : tD X.K E (dChain g g' fa fb fc) σ H Q) : tChain r r' (tD X.K E fa) (tD X.K E fb) (tD X.K E fc) σ H Q := by
  obtain ⟨B, L, G, hK, E0, P⟩ := h
  refine ⟨B, L, G, hK, E0, PostG.next P .refl fun r1 L1 v1 H1 G1 S1 E1 R1 P1 => ?_⟩
  refine ⟨B, L1, G1, hK, E1, PostG.next P1 S1 fun r2 L2 v2 H2 G2 S2 E2 R2 P2 => ?_⟩
  split at P2
  · rename_i d e' p1 p2
    split at P2
    · rename_i k hg
      have S02 := S1.trans S2
      refine sn B L2 σ H2 G2 v1 v2 d e' _ _ hK E2 (hK ▸ peek_ok E2 (S2.rr R1) p1) (hK ▸ peek_ok E2 R2 p2) hg fun v H3 G3 S3 E3 R3 => ?_
      have R3' : Rp X.K G3 v (.bl k) := R3
      cases R3'
      have S03 := S02.trans S3
      refine ⟨k, rfl, ?_⟩
      cases k with
      | true => exact ⟨B, L2, G3, hK, E3, PostG.next P2 S03 fun r3 L3 v3 H4 G4 S4 E4 R4 P4 => on2_ok sn' hK P4 (S03.trans S4) E4 ((S3.trans S4).rr R2) R4⟩
      | false => exact P2 _ H3 G3 S03 E3 (.bl false)
    · exact P2.elim
  · exact P2.elim
theorem de_chain {op op' : CmpOp} {r r' : R2} {g g' : GOp} (ho : OpR X (compareOp op) r) (ho' : OpR X (compareOp op') r') (sn : OpSnd X.K r g) (sn' : OpSnd X.K r' g') (ha : DEx X E a fa) (hb : DEx X E b fb) (hc : DEx X E c fc)
    (hm : lastMarks [op, op'] [b, c] = false := by with_unfolding_all rfl) : DEx X E (.Compare a [op, op'] [b, c] pos) (dChain g g' fa fb fc) := PE.imp (pe_chain ho ho' ha hb hc hm) fun _ _ _ h => tChain_of sn sn' h
theorem dt_chain {op op' : CmpOp} {r r' : R2} {g g' : GOp} (ho : OpR X (compareOp op) r) (ho' : OpR X (compareOp op') r') (sn : OpSnd X.K r g) (sn' : OpSnd X.K r' g') (ha : DEx X E a fa) (hb : DEx X E b fb) (hc : DEx X E c fc)
    (hm : lastMarks [op, op'] [b, c] = false := by with_unfolding_all rfl) : DTx X E (.Compare a [op, op'] [b, c] pos) (dTest (dChain g g' fa fb fc)) := PT.imp (pt_chain ho ho' ha hb hc hm) fun _ _ _ h => tTest_of (fun _ q => tChain_of sn sn' q) h
/-! ### one-place operators -/
def dUn (g : D → Option R) (fa : DE) : DE := fun L => (fa L).bind fun r L1 => match peek L1 r with
  | some d => match g d with
    | some res => .ok res L1
    | none => .stuck
  | none => .stuck
def gNeg : D → Option R
  | .int i => some (.v (.int (-i)))
  | _ => none
theorem de_neg (ha : DEx X E a fa) : DEx X E (.UnaryOp .USub a pos) (dUn gNeg fa) := PE.imp (pe_un un_neg ha) fun σ H Q ⟨B, L, G, hK, E0, P⟩ =>
  ⟨B, L, G, hK, E0, PostG.next P .refl fun r1 L1 v1 H1 G1 S1 E1 R1 P1 => by
    split at P1
    · rename_i d p
      split at P1
      · rename_i res hg
        cases d with
        | int i => cases hg; exact ⟨i, (peek_ok E1 R1 p).int, P1 _ H1 G1 S1 E1 (.int _)⟩
        | _ => cases hg
      · exact P1.elim
    · exact P1.elim⟩

/-! ### slices -/
def dONone : LS → Rs (Option Int) := fun L => .ok none L
def dOSome (f : DE) : LS → Rs (Option Int) := fun L => (f L).bind fun r L1 => match peek L1 r with
  | some (.int i) => .ok (some i) L1
  | _ => .stuck
def relO : LS → Hp → Hp → Option Int → Option Int → Prop := fun _ _ _ b c => b = c
def tDO (K : PySem.W.Frag) (E : XK) (f : LS → Rs (Option Int)) : TO := fun σ H Q => ∃ B L G, B.K = K ∧ EnvOk B L σ H G ∧ PostG relO B L σ H G (f L) Q E
def DOx (X : Cx) (E : XK) (e : Option Expr) (f : LS → Rs (Option Int)) : Prop := PO X e (tDO X.K E f)
theorem PO.imp {e : Option Expr} {t t' : TO} (h : PO X e t) (k : ∀ σ H Q, t' σ H Q → t σ H Q) : PO X e t' := ⟨fun pins s σ H Q I q => h.run pins s σ H Q I (k σ H Q q)⟩
theorem do_none : DOx X E none dONone := PO.imp po_none fun σ H Q ⟨B, L, G, hK, E0, P⟩ => P none H G .refl E0 rfl
theorem do_some (h : DEx X E e f) : DOx X E (some e) (dOSome f) := PO.imp (po_some h) fun σ H Q ⟨B, L, G, hK, E0, P⟩ =>
  ⟨B, L, G, hK, E0, PostG.next P .refl fun r1 L1 v1 H1 G1 S1 E1 R1 P1 => by
    split at P1
    · rename_i i p
      exact ⟨i, (peek_ok E1 R1 p).int, P1 _ H1 G1 S1 E1 rfl⟩
    · exact P1.elim⟩
def cutD (xs : List D) (lo hi : Option Int) : List D := (xs.drop (HT.sIx xs.length 0 lo)).take (HT.sIx xs.length xs.length hi - HT.sIx xs.length 0 lo)
def gSl (d : D) (lo hi : Option Int) : Option R := match d with
  | .lst xs => some (.t (.lst (cutD xs lo hi)))
  | .tup xs => some (.v (.tup (cutD xs lo hi)))
  | _ => none
def dSl (fa : DE) (fl fh : LS → Rs (Option Int)) : DE := fun L => (fa L).bind fun r L1 => (fl L1).bind fun lo L2 => (fh L2).bind fun hi L3 => match peek L3 r with
  | some d => match gSl d lo hi with
    | some res => .ok res L3
    | none => .stuck
  | none => .stuck
theorem Rps.cut {K : PySem.W.Frag} {G : Hp} {vs : List V} {ds : List D} (r : Rps K G vs ds) (lo hi : Option Int) : Rps K G (cutV vs lo hi) (cutD ds lo hi) := by
  unfold cutV cutD
  rw [r.length]
  exact (r.drop _).take _
theorem de_sl {lo hi : Option Expr} {p2 : Pos} {fl fh : LS → Rs (Option Int)} (ha : DEx X E a fa) (hl : DOx X E lo fl) (hh : DOx X E hi fh) : DEx X E (.Subscript a (.Slice lo hi none p2) pos) (dSl fa fl fh) :=
  PE.imp (pe_slice (sl_list.or sl_tupA) ha hl hh) fun σ H Q ⟨B, L, G, hK, E0, P⟩ =>
  ⟨B, L, G, hK, E0, PostG.next P .refl fun r1 L1 v1 H1 G1 S1 E1 R1 P1 => ⟨B, L1, G1, hK, E1, PostG.next P1 S1 fun l1 L2 l2 H2 G2 S2 E2 R2 P2 => ⟨B, L2, G2, hK, E2, PostG.next P2 (S1.trans S2) fun h1 L3 h2 H3 G3 S3 E3 R3 P3 => by
    have el : l2 = l1 := R2
    have eh : h2 = h1 := R3
    subst el eh
    have S03 := (S1.trans S2).trans S3
    have R1' := (S2.trans S3).rr R1
    split at P3
    · rename_i d p
      split at P3
      · rename_i res hg
        have q := peek_ok E3 R1' p
        unfold gSl at hg
        split at hg
        · cases hg
          obtain ⟨a, vs, rfl, ha, ra⟩ := q.lst E3.sub
          refine .inl ⟨a, vs, rfl, .of ha, fun p hp => ?_⟩
          obtain ⟨E4, S4, R4⟩ := RR.fresh E3 hp (.lst (ra.cut l2 h2))
          exact P3 _ _ G3 (S03.trans S4) E4 (RR.base S03.dom R4)
        · rename_i xs
          cases hg
          obtain ⟨a, vs, rfl, ha, ra⟩ := q.tup E3.sub
          refine .inr ⟨a, vs, rfl, .of ha, fun hw => ?_, fun _ p hp => ?_⟩
          · have e : cutD xs l2 h2 = xs := by
              unfold cutD
              rw [← ra.length, hw.1, hw.2]
              simp [ra.length]
            have rx : Rp B.K G3 (.ref a) (.tup xs) := by
              rcases q with h | ⟨_, _, _, _, h2⟩
              · exact h
              · cases h2
            refine P3 _ H3 G3 S03 E3 ?_
            rw [e]
            exact rx
          · obtain ⟨G4, E4, S4, R4⟩ := RR.freshG E3 hp (ra.cut l2 h2)
            exact P3 _ _ G4 (S03.trans S4) E4 R4
        · cases hg
      · exact P3.elim
    · exact P3.elim⟩⟩⟩
end
end DV
end
section
set_option Elab.async false
set_option linter.all false
set_option maxRecDepth 100000
set_option maxHeartbeats 4000000
namespace DV
open PySem PySem.Spec PyProof.Rows L2
section
variable {K : PySem.W.Frag}
theorem RpN.rp {H G : Hp} {v : V} {d : D} (h : RpN K H G v d) (n : ∀ o, ¬ Ob K G o d) : Rp K G v d := by
  rcases h with h | ⟨_, o, _, _, h2⟩
  · exact h
  · exact absurd h2 (n o)
/-! ### len -/
def gLen : GCall := fun ds => match ds with
  | [.lst xs] => some (.v (.int xs.length))
  | [.tup xs] => some (.v (.int xs.length))
  | [.scr xs] => some (.v (.int xs.length))
  | [.str z] => if lenOk z.length = true then some (.v (.int z.length)) else none
  | _ => none
theorem snd_len : CallSnd K (fun xs H Q => ∃ x n, xs = [x] ∧ LenV K x H n ∧ Q (.int n) H) gLen := by
  intro B L σ H G vs ds res Q hK E0 hr hg hQ
  subst hK
  unfold gLen at hg
  split at hg
  · cases hr with | cons r q => cases q; cases hg; obtain ⟨a, vs, rfl, ha, ra⟩ := r.lst E0.sub; exact ⟨_, _, rfl, .inl ⟨vs, .of ha, rfl⟩, hQ _ H G .refl E0 (by rw [ra.length]; exact .int _)⟩
  · cases hr with | cons r q => cases q; cases hg; obtain ⟨a, vs, rfl, ha, ra⟩ := r.tup E0.sub; exact ⟨_, _, rfl, .inr ⟨vs, .of ha, rfl⟩, hQ _ H G .refl E0 (by rw [ra.length]; exact .int _)⟩
  · cases hr with | cons r q => cases q; cases hg; obtain ⟨a, rfl, ha⟩ := r.scr E0.sub; exact ⟨_, _, rfl, .inl ⟨_, ha, rfl⟩, hQ _ H G .refl E0 (by rw [List.length_map]; exact .int _)⟩
  · split at hg
    · rename_i c
      cases hr with | cons r q => cases q; cases hg; rw [r.str]; exact ⟨_, _, rfl, ⟨lenOk_line c, rfl⟩, hQ _ H G .refl E0 (.int _)⟩
    · cases hg
  · cases hg
/-! ### list(x), tuple(x) -/
def gList : GCall := fun ds => match ds with
  | [.lst xs] => some (.t (.lst xs))
  | [.tup xs] => some (.t (.lst xs))
  | _ => none
theorem snd_list : CallSnd K (fun xs H Q => ∃ p ys, xs = [.ref p] ∧ (SqL K H p ys ∨ SqT K H p ys) ∧ ∀ l, H l = none → Q (.ref l) (upd H l (.lst ys))) gList := by
  intro B L σ H G vs ds res Q hK E0 hr hg hQ
  subst hK
  unfold gList at hg
  split at hg
  · cases hr with | cons r q =>
    cases q; cases hg
    obtain ⟨a, vs, rfl, ha, ra⟩ := r.lst E0.sub
    refine ⟨a, vs, rfl, .inl (.of ha), fun p hp => ?_⟩
    obtain ⟨E1, S1, R1⟩ := RR.fresh E0 hp (.lst ra)
    exact hQ _ _ G S1 E1 R1
  · cases hr with | cons r q =>
    cases q; cases hg
    obtain ⟨a, vs, rfl, ha, ra⟩ := r.tup E0.sub
    refine ⟨a, vs, rfl, .inr (.of ha), fun p hp => ?_⟩
    obtain ⟨E1, S1, R1⟩ := RR.fresh E0 hp (.lst ra)
    exact hQ _ _ G S1 E1 R1
  · cases hg
def gTuple : GCall := fun ds => match ds with
  | [.lst xs] => some (.v (.tup xs))
  | [.tup xs] => some (.v (.tup xs))
  | _ => none
theorem noTup {G : Hp} {xs : List D} : ∀ o, ¬ Ob K G o (.tup xs) := fun o h => by cases h
theorem snd_tuple : CallSnd K (fun xs H Q => ∃ p ys, xs = [.ref p] ∧ ((SqL K H p ys ∧ ∀ l, H l = none → Q (.ref l) (upd H l (.tup ys))) ∨ (SqT K H p ys ∧ Q (.ref p) H))) gTuple := by
  intro B L σ H G vs ds res Q hK E0 hr hg hQ
  subst hK
  unfold gTuple at hg
  split at hg
  · cases hr with | cons r q =>
    cases q; cases hg
    obtain ⟨a, vs, rfl, ha, ra⟩ := r.lst E0.sub
    refine ⟨a, vs, rfl, .inl ⟨.of ha, fun p hp => ?_⟩⟩
    obtain ⟨G', E1, S1, R1⟩ := RR.freshG E0 hp ra
    exact hQ _ _ G' S1 E1 R1
  · cases hr with | cons r q =>
    cases q; cases hg
    have rp := r.rp noTup
    obtain ⟨a, vs, rfl, ha, ra⟩ := r.tup E0.sub
    exact ⟨a, vs, rfl, .inr ⟨.of ha, hQ _ H G .refl E0 rp⟩⟩
  · cases hg
/-! ### int, str, abs, max, min of ints -/
def gInt : GCall := fun ds => match ds with
  | [.int i] => some (.v (.int i))
  | [.bl k] => some (.v (.int (if k then 1 else 0)))
  | _ => none
theorem snd_int : CallSnd K (fun xs H Q => (∃ i, xs = [.int i] ∧ Q (.int i) H) ∨ ∃ k, xs = [.bl k] ∧ Q (.int (if k then 1 else 0)) H) gInt := by
  intro B L σ H G vs ds res Q hK E0 hr hg hQ
  unfold gInt at hg
  split at hg
  · cases hr with | cons r q => cases q; cases hg; rw [r.int]; exact .inl ⟨_, rfl, hQ _ H G .refl E0 (.int _)⟩
  · cases hr with | cons r q => cases q; cases hg; rw [r.bl]; exact .inr ⟨_, rfl, hQ _ H G .refl E0 (.int _)⟩
  · cases hg
def gStr : GCall := fun ds => match ds with
  | [.int i] => if decide (i.natAbs < 2 ^ 1000) = true then some (.v (.str (toString i))) else none
  | _ => none
theorem snd_str : CallSnd K (fun xs H Q => ∃ i, xs = [.int i] ∧ i.natAbs.log2 < 1920 ∧ Q (.str (toString i)) H) gStr := by
  intro B L σ H G vs ds res Q hK E0 hr hg hQ
  unfold gStr at hg
  split at hg
  · split at hg
    · rename_i c
      cases hr with | cons r q =>
        cases q; cases hg; rw [r.int]
        exact ⟨_, rfl, Nat.lt_trans (PySem.Flt.log2_lt_of (by decide) (of_decide_eq_true c)) (by decide), hQ _ H G .refl E0 (.str _)⟩
    · cases hg
  · cases hg
def gAbs : GCall := fun ds => match ds with
  | [.int i] => some (.v (.int (if i < 0 then -i else i)))
  | _ => none
theorem snd_abs : CallSnd K (fun xs H Q => ∃ i, xs = [.int i] ∧ Q (.int (if i < 0 then -i else i)) H) gAbs := by
  intro B L σ H G vs ds res Q hK E0 hr hg hQ
  unfold gAbs at hg
  split at hg
  · cases hr with | cons r q => cases q; cases hg; rw [r.int]; exact ⟨_, rfl, hQ _ H G .refl E0 (.int _)⟩
  · cases hg
def gMax2 : GCall := fun ds => match ds with
  | [.int i, .int j] => some (.v (.int (if j > i then j else i)))
  | _ => none
def gMin2 : GCall := fun ds => match ds with
  | [.int i, .int j] => some (.v (.int (if j < i then j else i)))
  | _ => none
theorem snd_max2 : CallSnd K (fun xs H Q => ∃ i j, xs = [.int i, .int j] ∧ Q (.int (if j > i then j else i)) H) gMax2 := by
  intro B L σ H G vs ds res Q hK E0 hr hg hQ
  unfold gMax2 at hg
  split at hg
  · cases hr with | cons r q => cases q with | cons r' q => cases q; cases hg; rw [r.int, r'.int]; exact ⟨_, _, rfl, hQ _ H G .refl E0 (.int _)⟩
  · cases hg
theorem snd_min2 : CallSnd K (fun xs H Q => ∃ i j, xs = [.int i, .int j] ∧ Q (.int (if j < i then j else i)) H) gMin2 := by
  intro B L σ H G vs ds res Q hK E0 hr hg hQ
  unfold gMin2 at hg
  split at hg
  · cases hr with | cons r q => cases q with | cons r' q => cases q; cases hg; rw [r.int, r'.int]; exact ⟨_, _, rfl, hQ _ H G .refl E0 (.int _)⟩
  · cases hg
/-! ### all, any, sum -/
def D.bls : List D → Option (List Bool)
  | [] => some []
  | .bl b :: ds => (D.bls ds).map fun r => b :: r
  | _ => none
def D.ints : List D → Option (List Int)
  | [] => some []
  | .int i :: ds => (D.ints ds).map fun r => i :: r
  | _ => none
theorem Rps.bls {G : Hp} : ∀ {vs : List V} {ds : List D} {bs : List Bool}, Rps K G vs ds → D.bls ds = some bs → vs = bs.map V.bl
  | _, _, _, .nil, e => by cases e; rfl
  | _, _, _, .cons (d := .bl b) r q, e => by
    simp only [D.bls, Option.map_eq_some_iff] at e
    obtain ⟨bs, e, rfl⟩ := e
    cases r
    rw [Rps.bls q e]; rfl
  | _, _, _, .cons (d := .non) r q, e => by cases e
  | _, _, _, .cons (d := .int _) r q, e => by cases e
  | _, _, _, .cons (d := .str _) r q, e => by cases e
  | _, _, _, .cons (d := .opq _) r q, e => by cases e
  | _, _, _, .cons (d := .lst _) r q, e => by cases e
  | _, _, _, .cons (d := .tup _) r q, e => by cases e
  | _, _, _, .cons (d := .dct _) r q, e => by cases e
  | _, _, _, .cons (d := .dctT _) r q, e => by cases e
  | _, _, _, .cons (d := .scr _) r q, e => by cases e
theorem Rps.ints {G : Hp} : ∀ {vs : List V} {ds : List D} {bs : List Int}, Rps K G vs ds → D.ints ds = some bs → vs = bs.map V.int
  | _, _, _, .nil, e => by cases e; rfl
  | _, _, _, .cons (d := .int b) r q, e => by
    simp only [D.ints, Option.map_eq_some_iff] at e
    obtain ⟨bs, e, rfl⟩ := e
    cases r
    rw [Rps.ints q e]; rfl
  | _, _, _, .cons (d := .non) r q, e => by cases e
  | _, _, _, .cons (d := .bl _) r q, e => by cases e
  | _, _, _, .cons (d := .str _) r q, e => by cases e
  | _, _, _, .cons (d := .opq _) r q, e => by cases e
  | _, _, _, .cons (d := .lst _) r q, e => by cases e
  | _, _, _, .cons (d := .tup _) r q, e => by cases e
  | _, _, _, .cons (d := .dct _) r q, e => by cases e
  | _, _, _, .cons (d := .dctT _) r q, e => by cases e
  | _, _, _, .cons (d := .scr _) r q, e => by cases e
def gAll : GCall := fun ds => match ds with
  | [.lst xs] => (D.bls xs).map fun bs => .v (.bl (bs.all id))
  | _ => none
def gAny : GCall := fun ds => match ds with
  | [.lst xs] => (D.bls xs).map fun bs => .v (.bl (bs.any id))
  | _ => none
def gSum : GCall := fun ds => match ds with
  | [.lst xs] => (D.ints xs).map fun bs => .v (.int bs.sum)
  | _ => none
theorem snd_all : CallSnd K (rAll K) gAll := by
  intro B L σ H G vs ds res Q hK E0 hr hg hQ
  subst hK
  unfold gAll at hg
  split at hg
  · simp only [Option.map_eq_some_iff] at hg
    obtain ⟨bs, h1, rfl⟩ := hg
    cases hr with | cons r q =>
      cases q
      obtain ⟨a, vs, rfl, ha, ra⟩ := r.lst E0.sub
      rw [ra.bls h1] at ha
      exact ⟨a, bs, rfl, .of ha, hQ _ H G .refl E0 (.bl _)⟩
  · cases hg
theorem snd_any : CallSnd K (rAny K) gAny := by
  intro B L σ H G vs ds res Q hK E0 hr hg hQ
  subst hK
  unfold gAny at hg
  split at hg
  · simp only [Option.map_eq_some_iff] at hg
    obtain ⟨bs, h1, rfl⟩ := hg
    cases hr with | cons r q =>
      cases q
      obtain ⟨a, vs, rfl, ha, ra⟩ := r.lst E0.sub
      rw [ra.bls h1] at ha
      exact ⟨a, bs, rfl, .of ha, hQ _ H G .refl E0 (.bl _)⟩
  · cases hg
theorem snd_sum : CallSnd K (rSum K) gSum := by
  intro B L σ H G vs ds res Q hK E0 hr hg hQ
  subst hK
  unfold gSum at hg
  split at hg
  · simp only [Option.map_eq_some_iff] at hg
    obtain ⟨bs, h1, rfl⟩ := hg
    cases hr with | cons r q =>
      cases q
      obtain ⟨a, vs, rfl, ha, ra⟩ := r.lst E0.sub
      rw [ra.ints h1] at ha
      exact ⟨a, bs, rfl, .of ha, hQ _ H G .refl E0 (.int _)⟩
  · cases hg
/-! ### isinstance with built-in classes -/
def isiB : String → String → Option Bool
  | "NoneType", "int" => some false | "NoneType", "bool" => some false | "NoneType", "str" => some false | "NoneType", "list" => some false | "NoneType", "tuple" => some false
  | "bool", "int" => some true | "bool", "bool" => some true | "bool", "str" => some false | "bool", "list" => some false | "bool", "tuple" => some false
  | "int", "int" => some true | "int", "bool" => some false | "int", "str" => some false | "int", "list" => some false | "int", "tuple" => some false
  | "str", "int" => some false | "str", "bool" => some false | "str", "str" => some true | "str", "list" => some false | "str", "tuple" => some false
  | "list", "int" => some false | "list", "bool" => some false | "list", "str" => some false | "list", "list" => some true | "list", "tuple" => some false
  | "tuple", "int" => some false | "tuple", "bool" => some false | "tuple", "str" => some false | "tuple", "list" => some false | "tuple", "tuple" => some true
  | _, _ => none
theorem isiB_ok {a b : String} {r : Bool} (h : isiB a b = some r) : PySem.W.kitOne K (.type a) (.type b) = some r := by
  apply kit_ty
  unfold isiB at h
  split at h <;> first | (cases h; decide +kernel) | cases h
def D.tyn : D → Option String
  | .non => some "NoneType" | .bl _ => some "bool" | .int _ => some "int" | .str _ => some "str" | .lst _ => some "list" | .tup _ => some "tuple"
  | _ => none
theorem RpN.tyx {H G : Hp} (sb : ∀ a o, G a = some o → H a = some o) {v : V} {d : D} {t : String} (h : RpN K H G v d) (e : d.tyn = some t) : TyX K H v (.type t) := by
  rcases h with h | ⟨a, o, rfl, h1, h2⟩
  · cases h with
    | non => cases e; exact .base .non
    | bl b => cases e; exact .base (.bl b)
    | int b => cases e; exact .base (.int b)
    | str b => cases e; exact .base (.str b)
    | lst r q => cases e; exact .base (.lst (sb _ _ r))
    | tup r q => cases e; exact .base (.tup (sb _ _ r))
    | _ => cases e
  · cases h2 with
    | lst q => cases e; exact .base (.lst h1)
    | _ => cases e
def isiAny (t : String) : List D → Option Bool
  | [] => some false
  | .opq (.ty n) :: ds => match isiB t n, isiAny t ds with
    | some b, some c => some (b || c)
    | _, _ => none
  | _ => none
def gIsi : GCall := fun ds => match ds with
  | [d, .opq (.ty n)] => (d.tyn.bind fun t => isiB t n).map fun b => .v (.bl b)
  | [d, .tup ts] => (d.tyn.bind fun t => isiAny t ts).map fun b => .v (.bl b)
  | _ => none
theorem isiAny_ok {G : Hp} {t : String} : ∀ {cs : List V} {ts : List D} {b : Bool}, Rps K G cs ts → isiAny t ts = some b → ∃ us, Paired ClsV cs us ∧ PySem.W.kitAny K (.type t) us = some b
  | _, _, _, .nil, e => by cases e; exact ⟨[], .nil, kitAny_nil⟩
  | _, _, b, .cons (d := .opq (.ty n)) r q, e => by
    cases r
    simp only [isiAny] at e
    split at e
    · rename_i b1 c1 h1 h2
      cases e
      obtain ⟨us, h3, h4⟩ := isiAny_ok q h2
      refine ⟨_, .cons (.ty n) h3, kitAny_cons (isiB_ok h1) (fun z => ?_) (fun z => ?_)⟩
      · rw [z]; exact h4
      · rw [z]; rfl
    · cases e
  | _, _, _, .cons (d := .non) r q, e => by cases e
  | _, _, _, .cons (d := .bl _) r q, e => by cases e
  | _, _, _, .cons (d := .int _) r q, e => by cases e
  | _, _, _, .cons (d := .str _) r q, e => by cases e
  | _, _, _, .cons (d := .lst _) r q, e => by cases e
  | _, _, _, .cons (d := .tup _) r q, e => by cases e
  | _, _, _, .cons (d := .dct _) r q, e => by cases e
  | _, _, _, .cons (d := .dctT _) r q, e => by cases e
  | _, _, _, .cons (d := .scr _) r q, e => by cases e
  | _, _, _, .cons (d := .opq .non) r q, e => by cases e
  | _, _, _, .cons (d := .opq (.bl _)) r q, e => by cases e
  | _, _, _, .cons (d := .opq (.int _)) r q, e => by cases e
  | _, _, _, .cons (d := .opq (.str _)) r q, e => by cases e
  | _, _, _, .cons (d := .opq (.byt _)) r q, e => by cases e
  | _, _, _, .cons (d := .opq (.flt _)) r q, e => by cases e
  | _, _, _, .cons (d := .opq (.ref _)) r q, e => by cases e
theorem snd_isi : CallSnd K (fun xs H Q => rIsi K xs H Q ∨ rIsiT K xs H Q) gIsi := by
  intro B L σ H G vs ds res Q hK E0 hr hg hQ
  subst hK
  unfold gIsi at hg
  split at hg
  · simp only [Option.map_eq_some_iff, Option.bind_eq_some_iff] at hg
    obtain ⟨b, ⟨t, h1, h2⟩, rfl⟩ := hg
    cases hr with | cons r q => cases q with | cons r' q =>
      cases q
      rw [r'.opq]
      exact .inl ⟨_, _, _, _, b, rfl, .ty _, r.tyx E0.sub h1, isiB_ok h2, hQ _ H G .refl E0 (.bl _)⟩
  · simp only [Option.map_eq_some_iff, Option.bind_eq_some_iff] at hg
    obtain ⟨b, ⟨t, h1, h2⟩, rfl⟩ := hg
    cases hr with | cons r q => cases q with | cons r' q =>
      cases q
      obtain ⟨a, cs, rfl, ha, ra⟩ := r'.tup E0.sub
      obtain ⟨us, h3, h4⟩ := isiAny_ok ra h2
      exact .inr ⟨_, a, cs, _, us, b, rfl, ha, h3, r.tyx E0.sub h1, h4, hQ _ H G .refl E0 (.bl _)⟩
  · cases hg
theorem call_isiA {X : Cx} : CallR X (.builtin "isinstance") (fun xs H Q => rIsi X.K xs H Q ∨ rIsiT X.K xs H Q) := call_isi.or call_isiT
/-- a built-in class as a value -/
theorem de_ty {X : Cx} {E : XK} {x : Str} {n : String} {pos : Pos} (hg : Gl X x) (hm : X.mg x = none) (hv : bootBuiltins x = some (.type n)) (hn : x ≠ "__name__" := by decide) (hd : (x == ("__debug__" : Str)) = false := by decide) : DEx X E (.Name x pos) (dC (.opq (.ty n))) :=
  de_const (v := .ty n) (pe_bltn hg hm hv rfl hn hd) fun _ _ => .opq _
end

/-! ### an object is changed -/
section
variable {X : Cx} {E : XK} {e a b c : Expr} {es : List Expr} {pos : Pos} {f fa fb fc : DE}
theorem EnvOk.write {B : Bs} {L : LS} {σ : St} {H G : Hp} (E0 : EnvOk B L σ H G) {i : Nat} {m : Md} {d d' : D} {a : Addr} {o' : HO} (hw : m.wr = true) (hl : L[i]? = some (.obj m d)) (hs : σ[i]? = some (some (.ref a))) (ho : Ob B.K G o' d') :
    EnvOk B (L.set i (.obj m d')) σ (upd H a o') G ∧ Stp L σ H G (L.set i (.obj m d')) (upd H a o') G := by
  obtain ⟨a', o1, e1, e2, e3, e4, e5⟩ := E0.at_ i _ hl
  rw [hs] at e1; cases e1
  have hi : i < L.length := (List.getElem?_eq_some_iff.mp hl).1
  have back : ∀ (j : Nat) (n : Md) (x : D), (L.set i (.obj m d'))[j]? = some (.obj n x) → ∃ y, L[j]? = some (.obj n y) := fun j n x k => by
    by_cases c : i = j
    · subst c
      rw [List.getElem?_set_self hi] at k; cases k
      exact ⟨d, hl⟩
    · rw [List.getElem?_set_ne c] at k; exact ⟨x, k⟩
  have gne : ∀ b u, G b = some u → b ≠ a := fun b u k z => by subst z; rw [e4] at k; cases k
  have obj : ∀ b, ¬ ObjAt L σ b → ¬ ObjAt (L.set i (.obj m d')) σ b := fun b n ⟨j, k, x, h1, h2⟩ => let ⟨y, q⟩ := back j k x h1; n ⟨j, k, y, q, h2⟩
  refine ⟨⟨by rw [List.length_set]; exact E0.len, fun b u k => by rw [upd_ne (gne b u k)]; exact E0.sub b u k, E0.old, E0.new, fun b u k n => ?_, fun b k => ?_, fun j x k => ?_, fun j k m1 n1 d1 e1 b h1 h2 h3 h4 => ?_⟩, ⟨fun _ _ h => h, fun _ _ h => .inl h, fun b u k n => ?_, fun b k => ?_, fun j n x k => ?_⟩⟩
  · have ne : b ≠ a := by
      rintro rfl
      cases m with
      | own => rw [show B.H0 b = none from e5] at k; cases k
      | io q => exact n (List.mem_of_getElem? (show B.io[q]? = some b from e5))
      | lock => cases hw
      | iolock _ => cases hw
    rw [upd_ne ne]; exact E0.keep b u k n
  · by_cases c : b = a
    · subst c; rw [upd_same]; simp
    · rw [upd_ne c]; exact E0.dom b k
  · by_cases c : i = j
    · subst c
      rw [List.getElem?_set_self hi] at k; cases k
      exact ⟨a, o', hs, upd_same, ho, e4, e5⟩
    · rw [List.getElem?_set_ne c] at k
      have q := E0.at_ j x k
      cases x with
      | un => trivial
      | val y => exact q
      | bor y =>
        obtain ⟨v, h1, h2⟩ := q
        refine ⟨v, h1, ?_⟩
        rcases h2 with h2 | ⟨b, u, h2, h3, h4, h5⟩
        · exact .inl h2
        · have ne : b ≠ a := by rintro rfl; exact h5.1 ⟨i, m, d, hl, hs⟩
          exact .inr ⟨b, u, h2, by rw [upd_ne ne]; exact h3, h4, obj b h5.1, h5.2⟩
      | obj n y =>
        obtain ⟨b, u, h1, h2, h3, h4, h5⟩ := q
        have ne : b ≠ a := by rintro rfl; exact c (E0.inj _ _ _ _ _ _ _ hl k hs h1)
        exact ⟨b, u, h1, by rw [upd_ne ne]; exact h2, h3, h4, h5⟩
  · obtain ⟨y1, q1⟩ := back _ _ _ h1
    obtain ⟨y2, q2⟩ := back _ _ _ h2
    exact E0.inj _ _ _ _ _ _ _ q1 q2 h3 h4
  · have ne : b ≠ a := by rintro rfl; exact n ⟨i, m, d, hw, hl, hs⟩
    rw [upd_ne ne]; exact k
  · by_cases c : b = a
    · subst c; rw [upd_same]; simp
    · rw [upd_ne c]; exact k
  · exact back j n x k
abbrev GMut := D → List D → Option (D × D)
def MutSnd (K : PySem.W.Frag) (r : V → List V → Hp → VK → Prop) (g : GMut) : Prop := ∀ (H G : Hp) (a : Addr) (o : HO) (d : D) (vs : List V) (ds : List D) (d' res : D) (Q : VK), (∀ b u, G b = some u → H b = some u) → H a = some o → Ob K G o d → Rps K G vs ds → g d ds = some (d', res) →
  (∀ o' v, Ob K G o' d' → Rp K G v res → Q v (upd H a o')) → r (.ref a) vs H Q
def tyOk (T : String) : D → Bool
  | .lst _ => T == "list"
  | .dct _ => T == "dict"
  | .dctT _ => T == "dict"
  | _ => false
def onMut (g : GMut) (i : Nat) (ds : List D) (L : LS) : Rs R := match L[i]? with
  | some (.obj m d) => if m.wr = true then match g d ds with
    | some (d', res) => .ok (.v res) (L.set i (.obj m d'))
    | none => .stuck
    else .stuck
  | _ => .stuck
def recv (T : String) (r : R) (L : LS) : Option Nat := match r with
  | .s i => match L[i]? with
    | some (.obj _ d) => if tyOk T d = true then some i else none
    | _ => none
  | _ => none
def dMut (T : String) (g : GMut) (fo : DE) (as : LS → Rs (List D)) : DE := fun L => (fo L).bind fun r L1 => match recv T r L1 with
  | some i => (as L1).bind fun ds L2 => onMut g i ds L2
  | none => .stuck
theorem recv_ok {B : Bs} {L : LS} {σ : St} {H G Hs : Hp} (E0 : EnvOk B L σ H G) {T : String} {v : V} {r : R} {i : Nat} (R1 : RR B.K Hs L σ H G v r) (h : recv T r L = some i) : r = .s i ∧ tyV B.K T v H ∧ σ[i]? = some (some v) := by
  unfold recv at h
  split at h
  · rename_i j
    split at h
    · rename_i m d q
      split at h
      · rename_i c
        cases h
        have e : σ[i]? = some (some v) := R1
        obtain ⟨a, o, e1, e2, e3, _⟩ := E0.at_ i _ q
        rw [e] at e1; cases e1
        refine ⟨rfl, ?_, e⟩
        cases e3 with
        | lst q => exact .inl ⟨by simpa [tyOk] using c, _, .of e2⟩
        | dct _ _ => exact .inr (.inr (.inl ⟨by simpa [tyOk] using c, .inl ⟨_, e2⟩⟩))
        | dctT _ _ => exact .inr (.inr (.inl ⟨by simpa [tyOk] using c, .inr ⟨_, e2⟩⟩))
      · cases h
    · cases h
  · cases h
theorem onMut_ok {K : PySem.W.Frag} {r : V → List V → Hp → VK → Prop} {g : GMut} (sn : MutSnd K r g) {B : Bs} {L L2 : LS} {σ : St} {H G H2 G2 : Hp} {i : Nat} {v : V} {vs : List V} {ds : List D} {Q : VK} (hK : B.K = K)
    (P : PostG (relR B.K H σ) B L σ H G (onMut g i ds L2) Q E) (S : Stp L σ H G L2 H2 G2) (E2 : EnvOk B L2 σ H2 G2) (e : σ[i]? = some (some v)) (R2 : Rps B.K G2 vs ds) : r v vs H2 Q := by
  subst hK
  unfold onMut at P
  split at P
  · rename_i m d q
    split at P
    · rename_i hw
      split at P
      · rename_i d' res hg
        obtain ⟨a, o, e1, e2, e3, _⟩ := E2.at_ i _ q
        rw [e] at e1; cases e1
        refine sn H2 G2 a o d vs ds d' res Q E2.sub e2 e3 R2 hg fun o' v ho hv => ?_
        obtain ⟨E3, S3⟩ := E2.write hw q e ho
        exact P v _ G2 (S.trans S3) E3 hv
      · exact P.elim
    · exact P.elim
  · exact P.elim
theorem de_mut {o : Expr} {name : Str} {apos cpos : Pos} {T id : String} {r : V → List V → Hp → VK → Prop} {g : GMut} {as : LS → Rs (List D)} (pa : PlainAttrs T) (slot : Slot T name id) (hty : typeOf (.builtin id) = pure (.type "method_descriptor")) (hm : MtR X id r) (sn : MutSnd X.K r g)
    (ho : DEx X E o f) (ha : DFx X E (e :: es) as) (hbase : attributeBase o name X.env (eval o X.env) = eval o X.env := by rfl)
    (hfew : ((backTo cpos (starEach (e :: es) X.env)).all (fun x => !x.1) && (backToKw cpos (keywordEach [] X.env)).all (fun x => x.1.isSome)
      && decide ((e :: es).length + ([] : List Keyword).length + (if ([] : List Keyword).isEmpty then 0 else 1) < 30)) = true := by rfl)
    (hline : (apos.endLine == cpos.line) = true := by rfl) (hs : starEach (e :: es) X.env = (false, eval e X.env) :: starEach es X.env := by rfl) (hplain : (backTo cpos (starEach es X.env)).any (·.1) = false := by rfl) :
    DEx X E (.Call (.Attribute o name apos) (e :: es) [] cpos) (dMut T g f as) := PE.imp (pe_bm pa slot hty hm ho ha hbase hfew hline hs hplain) fun σ H Q ⟨B, L, G, hK, E0, P⟩ =>
  ⟨B, L, G, hK, E0, PostG.next P .refl fun r1 L1 v1 H1 G1 S1 E1 R1 P1 => by
    split at P1
    · rename_i i h
      obtain ⟨rfl, ty, e1⟩ := recv_ok E1 R1 h
      refine ⟨hK ▸ ty, B, L1, G1, hK, E1, PostG.next P1 S1 fun ds L2 vs H2 G2 S2 E2 R2 P2 => ?_⟩
      exact onMut_ok sn hK P2 (S1.trans S2) E2 e1 R2
    · exact P1.elim⟩
theorem de_mut0 {o : Expr} {name : Str} {apos cpos : Pos} {T id : String} {r : V → List V → Hp → VK → Prop} {g : GMut} (pa : PlainAttrs T) (slot : Slot T name id) (hty : typeOf (.builtin id) = pure (.type "method_descriptor")) (hm : MtR X id r) (sn : MutSnd X.K r g)
    (ho : DEx X E o f) (hbase : attributeBase o name X.env (eval o X.env) = eval o X.env := by rfl) (hline : (apos.endLine == cpos.line) = true := by rfl) :
    DEx X E (.Call (.Attribute o name apos) [] [] cpos) (dMut T g f dFNil) := PE.imp (pe_bm0 pa slot hty hm ho hbase hline) fun σ H Q ⟨B, L, G, hK, E0, P⟩ =>
  ⟨B, L, G, hK, E0, PostG.next P .refl fun r1 L1 v1 H1 G1 S1 E1 R1 P1 => by
    split at P1
    · rename_i i h
      obtain ⟨rfl, ty, e1⟩ := recv_ok E1 R1 h
      exact ⟨hK ▸ ty, onMut_ok sn hK P1 S1 E1 e1 .nil⟩
    · exact P1.elim⟩
/-- a method that reads alone -/
def MtSnd (K : PySem.W.Frag) (T : String) (r : V → List V → Hp → VK → Prop) (g : GCall) : Prop := ∀ (B : Bs) (L : LS) (σ : St) (H G : Hp) (v : V) (vs : List V) (d : D) (ds : List D) (res : R) (Q : VK), B.K = K → EnvOk B L σ H G → RpN K H G v d → RpNs K H G vs ds → g (d :: ds) = some res →
  (∀ v H' G', Stp L σ H G L H' G' → EnvOk B L σ H' G' → RR K H L σ H' G' v res → Q v H') → r v vs H Q
def tyOkR (T : String) : D → Bool
  | .lst _ => T == "list"
  | .str _ => T == "str"
  | .dct _ => T == "dict"
  | .dctT _ => T == "dict"
  | _ => false
theorem tyOkR_ok {K : PySem.W.Frag} {H G : Hp} (sb : ∀ a o, G a = some o → H a = some o) {v : V} {d : D} {T : String} (h : RpN K H G v d) (c : tyOkR T d = true) : tyV K T v H := by
  rcases h with h | ⟨a, o, rfl, h1, h2⟩
  · cases h with
    | str x => exact (by simpa [tyOkR] using c : T = "str")
    | lst r q => exact .inl ⟨by simpa [tyOkR] using c, _, .of (sb _ _ r)⟩
    | dct r _ q => exact .inr (.inr (.inl ⟨by simpa [tyOkR] using c, .inl ⟨_, sb _ _ r⟩⟩))
    | dctT r _ q => exact .inr (.inr (.inl ⟨by simpa [tyOkR] using c, .inr ⟨_, sb _ _ r⟩⟩))
    | _ => cases c
  · cases h2 with
    | lst q => exact .inl ⟨by simpa [tyOkR] using c, _, .of h1⟩
    | dct _ q => exact .inr (.inr (.inl ⟨by simpa [tyOkR] using c, .inl ⟨_, h1⟩⟩))
    | dctT _ q => exact .inr (.inr (.inl ⟨by simpa [tyOkR] using c, .inr ⟨_, h1⟩⟩))
def peekTy (T : String) (r : R) (L : LS) : Bool := match peek L r with
  | some d => tyOkR T d
  | none => false
def dMt (T : String) (g : GCall) (fo : DE) (as : DA) : DE := fun L => (fo L).bind fun r L1 => if peekTy T r L1 = true then (as L1).bind fun rs L2 => onL g (r :: rs) L2 else .stuck
theorem de_mt {o : Expr} {name : Str} {apos cpos : Pos} {T id : String} {r : V → List V → Hp → VK → Prop} {g : GCall} {as : DA} (pa : PlainAttrs T) (slot : Slot T name id) (hty : typeOf (.builtin id) = pure (.type "method_descriptor")) (hm : MtR X id r) (sn : MtSnd X.K T r g)
    (ho : DEx X E o f) (ha : DLx X E (e :: es) as) (hbase : attributeBase o name X.env (eval o X.env) = eval o X.env := by rfl)
    (hfew : ((backTo cpos (starEach (e :: es) X.env)).all (fun x => !x.1) && (backToKw cpos (keywordEach [] X.env)).all (fun x => x.1.isSome)
      && decide ((e :: es).length + ([] : List Keyword).length + (if ([] : List Keyword).isEmpty then 0 else 1) < 30)) = true := by rfl)
    (hline : (apos.endLine == cpos.line) = true := by rfl) (hs : starEach (e :: es) X.env = (false, eval e X.env) :: starEach es X.env := by rfl) (hplain : (backTo cpos (starEach es X.env)).any (·.1) = false := by rfl) :
    DEx X E (.Call (.Attribute o name apos) (e :: es) [] cpos) (dMt T g f as) := PE.imp (pe_bm pa slot hty hm ho ha hbase hfew hline hs hplain) fun σ H Q ⟨B, L, G, hK, E0, P⟩ =>
  ⟨B, L, G, hK, E0, PostG.next P .refl fun r1 L1 v1 H1 G1 S1 E1 R1 P1 => by
    split at P1
    · rename_i c
      unfold peekTy at c
      split at c
      · rename_i d0 p0
        refine ⟨hK ▸ tyOkR_ok E1.sub (peek_ok E1 R1 p0) c, B, L1, G1, hK, E1, PostG.next P1 S1 fun rs L2 vs H2 G2 S2 E2 R2 P2 => ?_⟩
        unfold onL at P2
        split at P2
        · rename_i ds p1
          simp only [peeks] at p1
          split at p1
          · rename_i d' ds' q1 q2
            cases p1
            split at P2
            · rename_i res hg
              exact sn B L2 σ H2 G2 _ vs d' ds' res Q hK E2 (hK ▸ peek_ok E2 (S2.rr R1) q1) (hK ▸ peeks_ok E2 R2 q2) hg fun v H' G' S' E' R' => P2 v H' G' ((S1.trans S2).trans S') E' (by rw [hK]; exact RR.base (S1.trans S2).dom R')
            · exact P2.elim
          · cases p1
        · exact P2.elim
      · cases c
    · exact P1.elim⟩
/-! ### the lists' methods -/
def gApp : GMut := fun d ds => match d, ds with
  | .lst xs, [y] => if lenOk xs.length = true then some (.lst (xs ++ [y]), .non) else none
  | _, _ => none
theorem lenOk_lt {n : Nat} (h : lenOk n = true) : n < sizeLine := by
  unfold lenOk at h
  have := of_decide_eq_true h
  rw [sizeLine_eq]; omega
theorem snd_app {K : PySem.W.Frag} : MutSnd K rAppend gApp := by
  intro H G a o d vs ds d' res Q sb ha ho hr hg hQ
  unfold gApp at hg
  split at hg
  · split at hg
    · rename_i c
      cases hg
      cases ho with | lst q =>
      cases hr with | cons r q' =>
      cases q'
      exact ⟨a, _, _, rfl, rfl, ha, by rw [q.length]; exact lenOk_lt c, hQ _ _ (.lst (q.append (.cons r .nil))) .non⟩
    · cases hg
  · cases hg
def gExt : GMut := fun d ds => match d, ds with
  | .lst xs, [.lst ys] => if lenOk (xs.length + ys.length) = true then some (.lst (xs ++ ys), .non) else none
  | _, _ => none
theorem snd_ext {K : PySem.W.Frag} : MutSnd K rExtend gExt := by
  intro H G a o d vs ds d' res Q sb ha ho hr hg hQ
  unfold gExt at hg
  split at hg
  · split at hg
    · rename_i c
      cases hg
      cases ho with | lst q =>
      cases hr with | cons r q' =>
      cases q'
      cases r with | lst rb rq =>
      exact ⟨a, _, _, _, rfl, rfl, ha, sb _ _ rb, by rw [q.length, rq.length]; exact lenOk_line c, hQ _ _ (.lst (q.append rq)) .non⟩
    · cases hg
  · cases hg
def gPopAt : GMut := fun d ds => match d, ds with
  | .lst xs, [.int i] => if (decide (0 ≤ i) && lenOk xs.length) = true then match xs[i.toNat]? with
    | some y => some (.lst (xs.eraseIdx i.toNat), y)
    | none => none
    else none
  | _, _ => none
theorem snd_popAt {K : PySem.W.Frag} : MutSnd K rPopAt gPopAt := by
  intro H G a o d vs ds d' res Q sb ha ho hr hg hQ
  unfold gPopAt at hg
  split at hg
  · rename_i xs i
    split at hg
    · rename_i c
      rw [Bool.and_eq_true] at c
      have c1 := of_decide_eq_true c.1
      split at hg
      · rename_i y hy
        cases hg
        cases ho with | lst q =>
        cases hr with | cons r q' =>
        cases q'
        cases r
        obtain ⟨v, h1, h2⟩ := q.get hy
        have hl : i.toNat < xs.length := (List.getElem?_eq_some_iff.mp hy).1
        have hz := of_decide_eq_true (show decide (xs.length ≤ 1000000) = true from c.2)
        obtain ⟨k, rfl⟩ : ∃ k : Nat, i = k := ⟨i.toNat, by omega⟩
        simp only [Int.toNat_natCast] at *
        refine ⟨a, _, _, k, v, rfl, rfl, ha, by omega, by omega, ?_, h1, hQ _ _ (.lst (q.eraseIdx _)) h2⟩
        rw [q.length]
        exact (ixN_seq (n := xs.length) (i := (k : Int)) (j := k) (by unfold ixN; simp [hl])).1
      · cases hg
    · cases hg
  · cases hg
def gPop : GMut := fun d ds => match d, ds with
  | .lst xs, [] => match xs[xs.length - 1]? with
    | some y => some (.lst xs.dropLast, y)
    | none => none
  | _, _ => none
theorem snd_pop {K : PySem.W.Frag} : MutSnd K rPop gPop := by
  intro H G a o d vs ds d' res Q sb ha ho hr hg hQ
  unfold gPop at hg
  split at hg
  · rename_i xs
    split at hg
    · rename_i y hy
      cases hg
      cases ho with | lst q =>
      cases hr
      obtain ⟨v, h1, h2⟩ := q.get hy
      exact ⟨a, _, v, rfl, rfl, ha, by rw [q.length]; exact h1, hQ _ _ (.lst q.dropLast) h2⟩
    · cases hg
  · cases hg
end
end DV
end
section
set_option Elab.async false
set_option linter.all false
set_option maxRecDepth 100000
set_option maxHeartbeats 4000000
namespace DV
open PySem PySem.Spec PyProof.Rows L2

inductive Fl where
  | nx (L : LS) | ret (r : R) (L : LS) | brk (L : LS) | ct (L : LS) | exc (e : Ex) (L : LS) | stuck
abbrev DS := LS → Fl
def GSub (G G' : Hp) : Prop := ∀ a o, G a = some o → G' a = some o
theorem GSub.refl {G : Hp} : GSub G G := fun _ _ h => h
theorem GSub.trans {G G1 G2 : Hp} (h : GSub G G1) (k : GSub G1 G2) : GSub G G2 := fun a o q => k a o (h a o q)
def PostS (B : Bs) (G : Hp) (fl : Fl) (D : Ends) (E : XK) : Prop :=
  match fl with
  | .nx L' => ∀ σ' H' G', GSub G G' → EnvOk B L' σ' H' G' → D.nx σ' H'
  | .ret r L' => ∀ v σ' H' G', GSub G G' → EnvOk B L' σ' H' G' → RR B.K B.H0 L' σ' H' G' v r → D.rt v H'
  | .brk L' => ∀ σ' H' G', GSub G G' → EnvOk B L' σ' H' G' → D.bk σ' H'
  | .ct L' => ∀ σ' H' G', GSub G G' → EnvOk B L' σ' H' G' → D.ct σ' H'
  | .exc e L' => ∀ C dx σ' H' G', GSub G G' → EnvOk B L' σ' H' G' → ExR B.K H' G' C dx e → E C dx H'
  | .stuck => False
def tS (K : PySem.W.Frag) (E : XK) (g : DS) : TS := fun D σ H => ∃ B L G, B.K = K ∧ EnvOk B L σ H G ∧ PostS B G (g L) D E
def DSx (X : Cx) (E : XK) (st : Stmt) (g : DS) : Prop := PS X st (tS X.K E g)
def DSsx (X : Cx) (E : XK) (st : List Stmt) (g : DS) : Prop := PSs X st (tS X.K E g)
theorem PS.imp {X : Cx} {e : Stmt} {t t' : TS} (h : PS X e t) (k : ∀ D σ H, t' D σ H → t D σ H) : PS X e t' := ⟨fun pins s σ H D I q => h.run pins s σ H D I (k D σ H q)⟩
theorem PSs.imp {X : Cx} {e : List Stmt} {t t' : TS} (h : PSs X e t) (k : ∀ D σ H, t' D σ H → t D σ H) : PSs X e t' := ⟨fun pins s σ H D I q => h.run pins s σ H D I (k D σ H q)⟩
theorem PostS.mono {B : Bs} {G G1 : Hp} {fl : Fl} {D : Ends} {E : XK} (h : PostS B G fl D E) (k : GSub G G1) : PostS B G1 fl D E := by
  cases fl with
  | nx L => exact fun σ' H' G' s => h σ' H' G' (k.trans s)
  | ret r L => exact fun v σ' H' G' s => h v σ' H' G' (k.trans s)
  | brk L => exact fun σ' H' G' s => h σ' H' G' (k.trans s)
  | ct L => exact fun σ' H' G' s => h σ' H' G' (k.trans s)
  | exc e L => exact fun C dx σ' H' G' s => h C dx σ' H' G' (k.trans s)
  | stuck => exact h
/-- other ends -/
theorem PostS.ends {B : Bs} {G : Hp} {fl fl' : Fl} {D D' : Ends} {E : XK} (h : PostS B G fl D E)
    (nx : ∀ L, fl = .nx L → ∀ σ' H' G', GSub G G' → EnvOk B L σ' H' G' → D'.nx σ' H') (bk : ∀ L, fl = .brk L → ∀ σ' H' G', GSub G G' → EnvOk B L σ' H' G' → D'.bk σ' H')
    (ct : ∀ L, fl = .ct L → ∀ σ' H' G', GSub G G' → EnvOk B L σ' H' G' → D'.ct σ' H') (rt : D'.rt = D.rt) : PostS B G fl D' E := by
  cases fl with
  | nx L => exact nx L rfl
  | ret r L => intro v σ' H' G' s e q; rw [rt]; exact h v σ' H' G' s e q
  | brk L => exact bk L rfl
  | ct L => exact ct L rfl
  | exc e L => exact h
  | stuck => exact h
def Fl.seq (f : Fl) (k : LS → Fl) : Fl := match f with
  | .nx L => k L
  | .ret r L => .ret r L
  | .brk L => .brk L
  | .ct L => .ct L
  | .exc e L => .exc e L
  | .stuck => .stuck
@[simp] theorem Fl.seq_nx (L : LS) (k : LS → Fl) : (Fl.nx L).seq k = k L := rfl
@[simp] theorem Fl.seq_ret (r : R) (L : LS) (k : LS → Fl) : (Fl.ret r L).seq k = .ret r L := rfl
@[simp] theorem Fl.seq_brk (L : LS) (k : LS → Fl) : (Fl.brk L).seq k = .brk L := rfl
@[simp] theorem Fl.seq_ct (L : LS) (k : LS → Fl) : (Fl.ct L).seq k = .ct L := rfl
@[simp] theorem Fl.seq_exc (e : Ex) (L : LS) (k : LS → Fl) : (Fl.exc e L).seq k = .exc e L := rfl
@[simp] theorem Fl.seq_stuck (k : LS → Fl) : Fl.stuck.seq k = .stuck := rfl
def Rs.fl {α : Type} (r : Rs α) (k : α → LS → Fl) : Fl := match r with
  | .ok x L => k x L
  | .exc e L => .exc e L
  | .stuck => .stuck
@[simp] theorem Rs.fl_ok {α : Type} (x : α) (L : LS) (k : α → LS → Fl) : (Rs.ok x L).fl k = k x L := rfl
@[simp] theorem Rs.fl_exc {α : Type} (e : Ex) (L : LS) (k : α → LS → Fl) : (Rs.exc e L : Rs α).fl k = .exc e L := rfl
@[simp] theorem Rs.fl_stuck {α : Type} (k : α → LS → Fl) : (Rs.stuck : Rs α).fl k = .stuck := rfl
/-- an expression ahead of what a statement does with it -/
theorem PostS.next {α β : Type} {rel1 : LS → Hp → Hp → β → α → Prop} {B : Bs} {L : LS} {σ : St} {H G : Hp} {res : Rs α} {k : α → LS → Fl} {D : Ends} {Q1 : β → Hp → Prop} {E : XK}
    (h : PostS B G (res.fl k) D E) (hk : ∀ r L' v H' G', Stp L σ H G L' H' G' → EnvOk B L' σ H' G' → rel1 L' H' G' v r → PostS B G' (k r L') D E → Q1 v H') : PostG rel1 B L σ H G res Q1 E := by
  cases res with
  | ok r L' => exact fun v H' G' S' E' R' => hk r L' v H' G' S' E' R' (PostS.mono h S'.gsub)
  | exc e L' => exact fun C dx H' G' S' E' R' => h C dx σ H' G' S'.gsub E' R'
  | stuck => exact h

/-! ### slots set -/
theorem EnvOk.setVal {B : Bs} {L : LS} {σ : St} {H G : Hp} (E0 : EnvOk B L σ H G) (i : Nat) {v : V} {s : Sl} (hs : (∃ d, s = .val d ∧ Rp B.K G v d) ∨ (∃ d, s = .bor d ∧ RpH B L σ H G v d) ∨ s = .un) : EnvOk B (L.set i s) (σ.set i (some v)) H G := by
  have old : ∀ (j : Nat) (m : Md) (x : D), (L.set i s)[j]? = some (.obj m x) → i ≠ j ∧ L[j]? = some (.obj m x) := fun j m x k => by
    by_cases c : i = j
    · subst c
      by_cases hi : i < L.length
      · rw [List.getElem?_set_self hi] at k
        cases k
        rcases hs with ⟨d, e, _⟩ | ⟨d, e, _⟩ | e <;> cases e
      · rw [List.getElem?_eq_none (by rw [List.length_set]; omega)] at k; cases k
    · rw [List.getElem?_set_ne c] at k; exact ⟨c, k⟩
  have obj : ∀ a, ObjAt (L.set i s) (σ.set i (some v)) a → ObjAt L σ a := fun a ⟨j, m, x, h1, h2⟩ => by
    obtain ⟨c, q⟩ := old j m x h1
    rw [List.getElem?_set_ne c] at h2
    exact ⟨j, m, x, q, h2⟩
  have bor : ∀ {w : V} {d : D}, RpH B L σ H G w d → RpH B (L.set i s) (σ.set i (some v)) H G w d := fun {w d} h => by
    rcases h with h | ⟨a, o, h1, h2, h3, h4, h5⟩
    · exact .inl h
    · exact .inr ⟨a, o, h1, h2, h3, fun z => h4 (obj a z), h5⟩
  refine ⟨by rw [List.length_set, List.length_set]; exact E0.len, E0.sub, E0.old, E0.new, E0.keep, E0.dom, fun j x k => ?_, fun j k m n d e a h1 h2 h3 h4 => ?_⟩
  · by_cases c : i = j
    · subst c
      by_cases hi : i < L.length
      · rw [List.getElem?_set_self hi] at k
        cases k
        rw [List.getElem?_set_self (by rw [← E0.len]; exact hi)]
        rcases hs with ⟨d, rfl, r⟩ | ⟨d, rfl, r⟩ | rfl
        · exact ⟨v, rfl, r⟩
        · exact ⟨v, rfl, bor r⟩
        · trivial
      · rw [List.getElem?_eq_none (by rw [List.length_set]; omega)] at k; cases k
    · rw [List.getElem?_set_ne c] at k
      rw [List.getElem?_set_ne c]
      have q := E0.at_ j x k
      cases x with
      | un => trivial
      | val y => exact q
      | bor y => obtain ⟨w, h1, h2⟩ := q; exact ⟨w, h1, bor h2⟩
      | obj m y => exact q
  · obtain ⟨c1, q1⟩ := old _ _ _ h1
    obtain ⟨c2, q2⟩ := old _ _ _ h2
    rw [List.getElem?_set_ne c1] at h3
    rw [List.getElem?_set_ne c2] at h4
    exact E0.inj _ _ _ _ _ _ _ q1 q2 h3 h4
theorem EnvOk.setOwn {B : Bs} {L : LS} {σ : St} {H G : Hp} (E0 : EnvOk B L σ H G) (i : Nat) {a : Addr} {o : HO} {d : D} (h1 : H a = some o) (h2 : Ob B.K G o d) (h3 : G a = none) (h4 : B.H0 a = none) (h5 : ¬ ObjAt L σ a) :
    EnvOk B (L.set i (.obj .own d)) (σ.set i (some (.ref a))) H G := by
  have old : ∀ (j : Nat) (m : Md) (x : D), (L.set i (.obj .own d))[j]? = some (.obj m x) → (i = j ∧ i < L.length ∧ m = .own ∧ x = d) ∨ (i ≠ j ∧ L[j]? = some (.obj m x)) := fun j m x k => by
    by_cases c : i = j
    · subst c
      by_cases hi : i < L.length
      · rw [List.getElem?_set_self hi] at k
        cases k
        exact .inl ⟨rfl, hi, rfl, rfl⟩
      · rw [List.getElem?_eq_none (by rw [List.length_set]; omega)] at k; cases k
    · rw [List.getElem?_set_ne c] at k; exact .inr ⟨c, k⟩
  have obj : ∀ b, ObjAt (L.set i (.obj .own d)) (σ.set i (some (.ref a))) b → b = a ∨ ObjAt L σ b := fun b ⟨j, m, x, k1, k2⟩ => by
    rcases old j m x k1 with ⟨rfl, hi, _, _⟩ | ⟨c, q⟩
    · rw [List.getElem?_set_self (by rw [← E0.len]; exact hi)] at k2
      cases k2; exact .inl rfl
    · rw [List.getElem?_set_ne c] at k2
      exact .inr ⟨j, m, x, q, k2⟩
  refine ⟨by rw [List.length_set, List.length_set]; exact E0.len, E0.sub, E0.old, E0.new, E0.keep, E0.dom, fun j x k => ?_, fun j k m n d1 e1 b q1 q2 q3 q4 => ?_⟩
  · by_cases c : i = j
    · subst c
      by_cases hi : i < L.length
      · rw [List.getElem?_set_self hi] at k
        cases k
        rw [List.getElem?_set_self (by rw [← E0.len]; exact hi)]
        exact ⟨a, o, rfl, h1, h2, h3, h4⟩
      · rw [List.getElem?_eq_none (by rw [List.length_set]; omega)] at k; cases k
    · rw [List.getElem?_set_ne c] at k
      rw [List.getElem?_set_ne c]
      have q := E0.at_ j x k
      cases x with
      | un => trivial
      | val y => exact q
      | bor y =>
        obtain ⟨w, e1, r⟩ := q
        refine ⟨w, e1, ?_⟩
        rcases r with r | ⟨b, u, e2, k1, k2, k3, k4⟩
        · exact .inl r
        · refine .inr ⟨b, u, e2, k1, k2, fun z => ?_, k4⟩
          rcases obj b z with rfl | z
          · exact k4 h4
          · exact k3 z
      | obj m y => exact q
  · rcases old _ _ _ q1 with ⟨rfl, hi, _, _⟩ | ⟨c1, p1⟩
    · rcases old _ _ _ q2 with ⟨rfl, _, _, _⟩ | ⟨c2, p2⟩
      · rfl
      · rw [List.getElem?_set_self (by rw [← E0.len]; exact hi)] at q3
        cases q3
        rw [List.getElem?_set_ne c2] at q4
        exact absurd ⟨_, _, _, p2, q4⟩ h5
    · rcases old _ _ _ q2 with ⟨rfl, hi, _, _⟩ | ⟨c2, p2⟩
      · rw [List.getElem?_set_self (by rw [← E0.len]; exact hi)] at q4
        cases q4
        rw [List.getElem?_set_ne c1] at q3
        exact absurd ⟨_, _, _, p1, q3⟩ h5
      · rw [List.getElem?_set_ne c1] at q3
        rw [List.getElem?_set_ne c2] at q4
        exact E0.inj _ _ _ _ _ _ _ p1 p2 q3 q4
def asgR (i : Nat) (r : R) (L : LS) : Option LS := match r with
  | .v d => some (L.set i (.val d))
  | .t d => some (L.set i (.obj .own d))
  | .s j => match L[j]? with
    | some (.bor d) => some (L.set i (.bor d))
    | _ => match fz L (.s j) with
      | some (d, L') => some (L'.set i (.val d))
      | none => none
theorem asgR_ok {B : Bs} {L L' : LS} {σ : St} {H G Hs : Hp} (E0 : EnvOk B L σ H G) (hs : ∀ a, B.H0 a ≠ none → Hs a ≠ none) {v : V} {r : R} {i : Nat} (h : RR B.K Hs L σ H G v r) (p : asgR i r L = some L') :
    ∃ G', GSub G G' ∧ EnvOk B L' (σ.set i (some v)) H G' := by
  have b0 : ∀ {a}, Hs a = none → B.H0 a = none := fun {a} k => by
    cases q : B.H0 a with
    | none => rfl
    | some u => exact absurd k (hs a (some_ne q))
  cases r with
  | v d => cases p; exact ⟨G, .refl, E0.setVal i (.inl ⟨d, rfl, h⟩)⟩
  | t d =>
    cases p
    obtain ⟨a, o, rfl, h1, h2, h3, h4, h5⟩ := h
    exact ⟨G, .refl, E0.setOwn i h1 h2 h3 (b0 h4) h5⟩
  | s j =>
    have h' : σ[j]? = some (some v) := h
    simp only [asgR] at p
    split at p
    · rename_i d q
      cases p
      obtain ⟨w, e1, r⟩ := E0.at_ j _ q
      rw [h'] at e1; cases e1
      exact ⟨G, .refl, E0.setVal i (.inr (.inl ⟨d, rfl, r⟩))⟩
    · split at p
      · rename_i d L1 q
        cases p
        -- frozen first: the region grows
        obtain ⟨G', S', E', r'⟩ := fz_ok (H0 := H) (G0 := G) (L0 := L) E0 E0 .refl (v := v) (r := .s j) h' q
        exact ⟨G', S'.gsub, E'.setVal i (.inl ⟨d, rfl, r'⟩)⟩
      · cases p

section
variable {X : Cx} {E : XK} {e a b c : Expr} {es : List Expr} {st : Stmt} {sts : List Stmt} {pos : Pos} {f fa fb fc : DE} {g h : DS}
theorem dss_nil : DSsx X E [] (fun L => .nx L) := PSs.imp pss_nil fun D σ H ⟨B, L, G, hK, E0, P⟩ => P σ H G .refl E0
def dSeq (g h : DS) : DS := fun L => (g L).seq h
theorem tSeq_of {D : Ends} {σ : St} {H : Hp} {K : PySem.W.Frag} (q : tS K E (dSeq g h) D σ H) : tSeq (tS K E g) (tS K E h) D σ H := by
  obtain ⟨B, L, G, hK, E0, P⟩ := q
  refine ⟨B, L, G, hK, E0, ?_⟩
  unfold dSeq at P
  cases hg : g L with
  | nx L1 => rw [hg] at P; exact fun σ' H' G' s E' => ⟨B, L1, G', hK, E', PostS.mono P s⟩
  | ret r L1 => rw [hg] at P; exact P
  | brk L1 => rw [hg] at P; exact P
  | ct L1 => rw [hg] at P; exact P
  | exc x L1 => rw [hg] at P; exact P
  | stuck => rw [hg] at P; exact P
theorem dss_cons (h1 : DSx X E st g) (h2 : DSsx X E sts h) : DSsx X E (st :: sts) (dSeq g h) := PSs.imp (pss_cons h1 h2) fun _ _ _ q => tSeq_of q
theorem dss_one (h1 : DSx X E st g) : DSsx X E [st] g := pss_one h1
theorem ds_never : DSx X E st (fun _ => .stuck) := PS.imp ps_never fun D σ H ⟨B, L, G, hK, E0, P⟩ => P
def dDrop (f : DE) : DS := fun L => (f L).fl fun _ L1 => .nx L1
theorem ds_expr (he : DEx X E e f) (hs : swapsWith e none pos.line X.env = pure false := by rfl) : DSx X E (.Expr e pos) (dDrop f) := PS.imp (ps_expr he hs) fun D σ H ⟨B, L, G, hK, E0, P⟩ =>
  ⟨B, L, G, hK, E0, PostS.next P fun r L1 v H1 G1 S1 E1 R1 P1 => P1 σ H1 G1 .refl E1⟩
def dRet (f : DE) : DS := fun L => (f L).fl fun r L1 => .ret r L1
theorem ds_ret (he : DEx X E e f) : DSx X E (.Return (some e) pos) (dRet f) := PS.imp (ps_ret he) fun D σ H ⟨B, L, G, hK, E0, P⟩ =>
  ⟨B, L, G, hK, E0, PostS.next P fun r L1 v H1 G1 S1 E1 R1 P1 => P1 v σ H1 G1 .refl E1 (RR.base E0.dom R1)⟩
def dRetN : DS := fun L => .ret (.v .non) L
theorem ds_retN : DSx X E (.Return none pos) dRetN := PS.imp ps_retN fun D σ H ⟨B, L, G, hK, E0, P⟩ => P .non σ H G .refl E0 .non
def dBrk : DS := fun L => .brk L
def dCt : DS := fun L => .ct L
theorem ds_break : DSx X E (.Break pos) dBrk := PS.imp ps_break fun D σ H ⟨B, L, G, hK, E0, P⟩ => P σ H G .refl E0
theorem ds_continue : DSx X E (.Continue pos) dCt := PS.imp ps_continue fun D σ H ⟨B, L, G, hK, E0, P⟩ => P σ H G .refl E0
theorem ds_pass : DSx X E (.Pass pos) (fun L => .nx L) := PS.imp ps_pass fun D σ H ⟨B, L, G, hK, E0, P⟩ => P σ H G .refl E0
def dIfS (t : DT) (g h : DS) : DS := fun L => (t L).fl fun b L1 => if b = true then g L1 else h L1
theorem ds_if {t : DT} {x y : List Stmt} (hc : DTx X E c t) (ha : DSsx X E x g) (hb : DSsx X E y h) : DSx X E (.If c x y pos) (dIfS t g h) := PS.imp (ps_if hc ha hb) fun D σ H ⟨B, L, G, hK, E0, P⟩ =>
  ⟨B, L, G, hK, E0, PostS.next P fun r L1 v H1 G1 S1 E1 R1 P1 => by
    have e1 : v = r := R1
    subst e1
    cases v with
    | true => exact ⟨B, L1, G1, hK, E1, P1⟩
    | false => exact ⟨B, L1, G1, hK, E1, P1⟩⟩
def dAsg (i : Nat) (f : DE) : DS := fun L => (f L).fl fun r L1 => match asgR i r L1 with
  | some L2 => .nx L2
  | none => .stuck
theorem ds_asg {i : Nat} {x : Str} {pos' : Pos} (hN : X.N.Nodup) (hi : X.N[i]? = some x) (hx : Loc X.env.scope x) (he : DEx X E e f) (hs : swapsWith e (some (.Name x pos')) pos.line X.env = pure false := by rfl) (hf : X.fn x = true ∨ X.env.scope.names.lookup x = some .local := by first | exact .inl rfl | exact .inr rfl | assumption) :
    DSx X E (.Assign [.Name x pos'] e pos) (dAsg i f) := PS.imp (ps_set hN hi hx he hs hf) fun D σ H ⟨B, L, G, hK, E0, P⟩ =>
  ⟨B, L, G, hK, E0, PostS.next P fun r L1 v H1 G1 S1 E1 R1 P1 => by
    split at P1
    · rename_i L2 p
      obtain ⟨G2, gs, E2⟩ := asgR_ok E1 E0.dom R1 p
      exact P1 _ H1 G2 gs E2
    · exact P1.elim⟩
def dAug (i : Nat) (g : GOp) (f : DE) : DS := fun L => match L[i]? with
  | some (.val d) => (f L).fl fun r L1 => match peek L1 r with
    | some e => match g d e with
      | some res => match asgR i res L1 with
        | some L2 => .nx L2
        | none => .stuck
      | none => .stuck
    | none => .stuck
  | _ => .stuck
theorem ds_aug {i : Nat} {x : Str} {op : Operator} {ti : TIp} {pos' : Pos} {go : GOp} (hN : X.N.Nodup) (hi : X.N[i]? = some x) (hx : Loc X.env.scope x) (ho : PIp X op ti) (sn : OpSnd X.K ti go) (he : DEx X E e f) (hf : X.fn x = true ∨ X.env.scope.names.lookup x = some .local := by first | exact .inl rfl | exact .inr rfl | assumption) :
    DSx X E (.AugAssign (.Name x pos') op e pos) (dAug i go f) := PS.imp (ps_aug hN hi hx he ho hf) fun D σ H ⟨B, L, G, hK, E0, P⟩ => by
  unfold dAug at P
  split at P
  · rename_i d q
    obtain ⟨w, e1, r⟩ := E0.at_ i _ q
    refine ⟨w, e1, B, L, G, hK, E0, PostS.next P fun r1 L1 v H1 G1 S1 E1 R1 P1 => ?_⟩
    split at P1
    · rename_i e p
      split at P1
      · rename_i res hg
        split at P1
        · rename_i L2 p2
          refine sn B L1 σ H1 G1 w v d e res _ hK E1 (hK ▸ .inl (S1.rp r)) (hK ▸ peek_ok E1 R1 p) hg fun z H2 G2 S2 E2 R2 => ?_
          obtain ⟨G3, gs, E3⟩ := asgR_ok E2 E1.dom (hK ▸ R2) p2
          exact P1 _ H2 G3 (GSub.trans S2.gsub gs) E3
        · exact P1.elim
      · exact P1.elim
    · exact P1.elim
  · exact P.elim
end
end DV
end
section
set_option Elab.async false
set_option linter.all false
set_option maxRecDepth 100000
set_option maxHeartbeats 4000000
namespace DV
open PySem PySem.Spec PyProof.Rows L2

/-! ### several targets -/
def sets : St → List Nat → List V → St
  | σ, i :: is, v :: vs => sets (σ.set i (some v)) is vs
  | σ, _, _ => σ
def NoSl : List R → Prop
  | [] => True
  | r :: rs => NoS r ∧ NoSl rs
def fzS : List R → LS → Option (List R × LS)
  | [], L => some ([], L)
  | .v d :: rs, L => (fzS rs L).map fun p => (.v d :: p.1, p.2)
  | .t d :: rs, L => (fzS rs L).map fun p => (.t d :: p.1, p.2)
  | .s i :: rs, L => match fz L (.s i) with
    | some (d, L') => (fzS rs L').map fun p => (.v d :: p.1, p.2)
    | none => none
theorem fzS_ok {B : Bs} {σ : St} {H Hs : Hp} : ∀ {vs : List V} {rs rs' : List R} {L L' : LS} {G : Hp}, EnvOk B L σ H G → RRL B.K Hs L σ H G vs rs → fzS rs L = some (rs', L') →
    ∃ G', Stp L σ H G L' H G' ∧ EnvOk B L' σ H G' ∧ RRL B.K Hs L' σ H G' vs rs' ∧ NoSl rs' ∧ ∀ (k : Nat) e, rs'[k]? = some (.t e) → rs[k]? = some (.t e)
  | [], [], _, L, L', G, E0, h, p => by cases p; exact ⟨G, .refl, E0, trivial, trivial, fun k e q => q⟩
  | v :: vs, .v d :: rs, _, L, L', G, E0, ⟨h1, h2, h3⟩, p => by
    simp only [fzS, Option.map_eq_some_iff] at p
    obtain ⟨⟨rs', L1⟩, p1, p2⟩ := p
    cases p2
    obtain ⟨G', S, E1, R1, n, t⟩ := fzS_ok E0 h2 p1
    exact ⟨G', S, E1, ⟨S.rr h1, R1, fun d' hd => by cases hd⟩, ⟨trivial, n⟩, fun k e q => by
      cases k with
      | zero => exact q
      | succ k => exact t k e (by simpa using q)⟩
  | v :: vs, .t d :: rs, _, L, L', G, E0, ⟨h1, h2, h3⟩, p => by
    simp only [fzS, Option.map_eq_some_iff] at p
    obtain ⟨⟨rs', L1⟩, p1, p2⟩ := p
    cases p2
    obtain ⟨G', S, E1, R1, n, t⟩ := fzS_ok E0 h2 p1
    exact ⟨G', S, E1, ⟨S.rr h1, R1, fun d' hd k e q => h3 d' hd k e (t k e q)⟩, ⟨trivial, n⟩, fun k e q => by
      cases k with
      | zero => exact q
      | succ k => exact t k e (by simpa using q)⟩
  | v :: vs, .s i :: rs, _, L, L', G, E0, ⟨h1, h2, h3⟩, p => by
    simp only [fzS] at p
    split at p
    · rename_i d L1 q
      simp only [Option.map_eq_some_iff] at p
      obtain ⟨⟨rs', L2⟩, p1, p2⟩ := p
      cases p2
      have h1' : RR B.K H L σ H G v (.s i) := h1
      obtain ⟨G1, S1, E1, r1⟩ := fz_ok E0 E0 .refl h1' q
      obtain ⟨G', S, E2, R1, n, t⟩ := fzS_ok E1 (RRL.stp S1 h2) p1
      exact ⟨G', S1.trans S, E2, ⟨S.rp r1, R1, fun d' hd => by cases hd⟩, ⟨trivial, n⟩, fun k e q => by
        cases k with
        | zero => cases q
        | succ k => exact t k e (by simpa using q)⟩
    · cases p
  | [], _ :: _, _, _, _, _, _, h, _ => h.elim
  | _ :: _, [], _, _, _, _, _, h, _ => h.elim
theorem objs_val {L : LS} {σ : St} {i : Nat} {v : V} {s : Sl} (hs : ∀ m d, s ≠ .obj m d) {a : Addr} : ObjAt (L.set i s) (σ.set i (some v)) a → ObjAt L σ a
  | ⟨j, m, x, h1, h2⟩ => by
    by_cases c : i = j
    · subst c
      by_cases hi : i < L.length
      · rw [List.getElem?_set_self hi] at h1; exact absurd (Option.some.inj h1) (hs _ _)
      · rw [List.getElem?_eq_none (by rw [List.length_set]; omega)] at h1; cases h1
    · rw [List.getElem?_set_ne c] at h1 h2; exact ⟨j, m, x, h1, h2⟩
theorem objs_own {L : LS} {σ : St} {i : Nat} {b : Addr} {d : D} {m : Md} (hl : L.length = σ.length) {a : Addr} : ObjAt (L.set i (.obj m d)) (σ.set i (some (.ref b))) a → a = b ∨ ObjAt L σ a
  | ⟨j, m, x, h1, h2⟩ => by
    by_cases c : i = j
    · subst c
      by_cases hi : i < σ.length
      · rw [List.getElem?_set_self hi] at h2; cases h2; exact .inl rfl
      · rw [List.getElem?_eq_none (by rw [List.length_set]; omega)] at h1; cases h1
    · rw [List.getElem?_set_ne c] at h1 h2; exact .inr ⟨j, m, x, h1, h2⟩
def setMany : List Nat → List R → LS → Option LS
  | [], [], L => some L
  | i :: is, .v d :: rs, L => setMany is rs (L.set i (.val d))
  | i :: is, .t d :: rs, L => setMany is rs (L.set i (.obj .own d))
  | _, _, _ => none
theorem RRL.move {K : PySem.W.Frag} {Hs : Hp} {L L' : LS} {σ σ' : St} {H G : Hp} : ∀ {vs : List V} {rs : List R}, NoSl rs → RRL K Hs L σ H G vs rs → (∀ (k : Nat) e a, rs[k]? = some (.t e) → vs[k]? = some (.ref a) → ¬ ObjAt L σ a → ¬ ObjAt L' σ' a) → RRL K Hs L' σ' H G vs rs
  | [], [], _, _, _ => trivial
  | v :: vs, r :: rs, ⟨n, ns⟩, ⟨h1, h2, h3⟩, q => by
    refine ⟨?_, RRL.move ns h2 fun k e a hk hv => q (k + 1) e a (by simpa using hk) (by simpa using hv), h3⟩
    cases r with
    | v d => exact h1
    | t d =>
      obtain ⟨a, o, rfl, k1, k2, k3, k4, k5⟩ := h1
      exact ⟨a, o, rfl, k1, k2, k3, k4, q 0 d a rfl rfl k5⟩
    | s i => exact n.elim
  | [], _ :: _, _, h, _ => h.elim
  | _ :: _, [], _, h, _ => h.elim
theorem setMany_ok {B : Bs} {H G Hs : Hp} (hb : ∀ a, B.H0 a ≠ none → Hs a ≠ none) : ∀ {is : List Nat} {vs : List V} {rs : List R} {L L' : LS} {σ : St}, EnvOk B L σ H G → NoSl rs → RRL B.K Hs L σ H G vs rs → setMany is rs L = some L' → EnvOk B L' (sets σ is vs) H G ∧ vs.length = is.length
  | [], [], [], L, L', σ, E0, _, h, p => by cases p; exact ⟨E0, rfl⟩
  | i :: is, v :: vs, .v d :: rs, L, L', σ, E0, ⟨_, n⟩, ⟨h1, h2, h3⟩, p => by
    have E1 := E0.setVal i (s := .val d) (v := v) (.inl ⟨d, rfl, h1⟩)
    have R2 : RRL B.K Hs (L.set i (.val d)) (σ.set i (some v)) H G vs rs := RRL.move n h2 fun k e a _ _ q z => q (objs_val (fun _ _ w => by cases w) z)
    obtain ⟨E2, e⟩ := setMany_ok hb E1 n R2 p
    exact ⟨E2, by simp [e]⟩
  | i :: is, v :: vs, .t d :: rs, L, L', σ, E0, ⟨_, n⟩, ⟨h1, h2, h3⟩, p => by
    obtain ⟨a, o, rfl, k1, k2, k3, k4, k5⟩ := h1
    have b0 : B.H0 a = none := by
      cases q : B.H0 a with
      | none => rfl
      | some u => exact absurd k4 (hb a (some_ne q))
    have E1 := E0.setOwn i k1 k2 k3 b0 k5
    have R2 : RRL B.K Hs (L.set i (.obj .own d)) (σ.set i (some (.ref a))) H G vs rs := RRL.move n h2 fun k e b hk hv q z => by
      rcases objs_own E0.len z with rfl | z
      · exact h3 d rfl k e hk hv
      · exact q z
    obtain ⟨E2, e⟩ := setMany_ok hb E1 n R2 p
    exact ⟨E2, by simp [e]⟩
  | is, v :: vs, .s _ :: rs, L, L', σ, E0, ⟨n, _⟩, h, p => n.elim
  | [], v :: vs, .v _ :: rs, L, L', σ, E0, n, h, p => by cases p
  | [], v :: vs, .t _ :: rs, L, L', σ, E0, n, h, p => by cases p
  | i :: is, [], [], L, L', σ, E0, n, h, p => by cases p
  | _, [], _ :: _, L, L', σ, E0, n, h, p => h.elim
  | _, _ :: _, [], L, L', σ, E0, n, h, p => h.elim
def dTupAsg (is : List Nat) (as : DA) : DS := fun L => (as L).fl fun rs L1 => match fzS rs L1 with
  | some (rs', L2) => match setMany is rs' L2 with
    | some L3 => .nx L3
    | none => .stuck
  | none => .stuck
/-- the slots after it, whatever way the model stores -/
theorem tupAsg_ok {K : PySem.W.Frag} {E : XK} {as : DA} {is : List Nat} {D : Ends} {σ : St} {H : Hp} {Q : List V → Hp → Prop} (h : tS K E (dTupAsg is as) D σ H)
    (hq : ∀ vs H1, vs.length = is.length → D.nx (sets σ is vs) H1 → (∀ p o, H1 p = none → D.nx (sets σ is vs) (upd H1 p o)) → Q vs H1) : tDL K E as σ H Q := by
  obtain ⟨B, L, G, hK, E0, P⟩ := h
  refine ⟨B, L, G, hK, E0, PostS.next P fun rs L1 vs H1 G1 S1 E1 R1 P1 => ?_⟩
  split at P1
  · rename_i rs' L2 p
    split at P1
    · rename_i L3 p3
      obtain ⟨G2, S2, E2, R2, n, _⟩ := fzS_ok E1 R1 p
      obtain ⟨E3, hl⟩ := setMany_ok E0.dom E2 n R2 p3
      exact hq vs H1 hl (P1 _ H1 G2 S2.gsub E3) fun p o hp => P1 _ _ G2 S2.gsub (E3.laid (o := o) hp).1
    · exact P1.elim
  · exact P1.elim
section
variable {X : Cx} {E : XK} {e a b c : Expr} {es : List Expr} {st : Stmt} {sts : List Stmt} {pos : Pos} {f fa fb fc : DE} {g h : DS}
theorem ds_par2 {i j : Nat} {x y : Str} {as : DA} {px py pt : Pos} {kt k2 pt2} (hc : X.calm = true) (hN : X.N.Nodup) (hi : X.N[i]? = some x) (hj : X.N[j]? = some y) (hij : i ≠ j)
    (hx : X.env.scope.names.lookup x = some .local) (hy : X.env.scope.names.lookup y = some .local) (ha : DLx X E [a, b] as)
    (hw : swappedStores [.Tuple [.Name x px, .Name y py] kt pt] (.Tuple [a, b] k2 pt2) X.env = pure (some [x, y]))
    (hs : swapsWithSole [.Tuple [.Name x px, .Name y py] kt pt] (.Tuple [a, b] k2 pt2) pos.line X.env = pure false := by rfl) :
    DSx X E (.Assign [.Tuple [.Name x px, .Name y py] kt pt] (.Tuple [a, b] k2 pt2) pos) (dTupAsg [i, j] as) :=
  PS.imp (ps_par hc hN hi hj hij hx hy ha hw hs) fun D σ H q => tupAsg_ok q fun vs H1 hl hd _ => by
    match vs, hl with
    | [v, w], _ => exact ⟨v, w, rfl, hd⟩
theorem ds_par3 {i j l : Nat} {x y z : Str} {as : DA} {px py pz pt : Pos} {kt k2 pt2} (hc : X.calm = true) (hN : X.N.Nodup) (hi : X.N[i]? = some x) (hj : X.N[j]? = some y) (hl : X.N[l]? = some z) (hij : i ≠ j) (hil : i ≠ l) (hjl : j ≠ l)
    (hx : X.env.scope.names.lookup x = some .local) (hy : X.env.scope.names.lookup y = some .local) (hz : X.env.scope.names.lookup z = some .local) (ha : DLx X E [a, b, c] as)
    (hw : swappedStores [.Tuple [.Name x px, .Name y py, .Name z pz] kt pt] (.Tuple [a, b, c] k2 pt2) X.env = pure (some [x, y, z]))
    (hs : swapsWithSole [.Tuple [.Name x px, .Name y py, .Name z pz] kt pt] (.Tuple [a, b, c] k2 pt2) pos.line X.env = pure false := by rfl) :
    DSx X E (.Assign [.Tuple [.Name x px, .Name y py, .Name z pz] kt pt] (.Tuple [a, b, c] k2 pt2) pos) (dTupAsg [i, j, l] as) :=
  PS.imp (ps_par3 hc hN hi hj hl hij hil hjl hx hy hz ha hw hs) fun D σ H q => tupAsg_ok q fun vs H1 hl hd _ => by
    match vs, hl with
    | [u, v, w], _ => exact ⟨u, v, w, rfl, hd⟩
/-! targets that are names -/
def gNames : List Nat → TGs
  | [] => gNil
  | i :: is => gCons (gName i) (gNames is)
theorem gNames_ok {Q : St → Hp → Prop} {H : Hp} : ∀ {is : List Nat} {vs : List V} {σ : St}, vs.length = is.length → Q (sets σ is vs) H → gNames is vs σ H Q
  | [], [], σ, _, q => ⟨rfl, q⟩
  | i :: is, v :: vs, σ, h, q => ⟨v, vs, rfl, gNames_ok (is := is) (vs := vs) (σ := σ.set i (some v)) (by simpa using h) q⟩
/-- a, b, c, .. = x, y, z, ..: by the tuple -/
theorem ds_tupAsg {tg : Expr} {is : List Nat} {as : DA} {k2 pt2} (hg : PG X tg (gTup X.K is.length (gNames is))) (hl : (is.length ≤ 1000) = True) (ha : DLx X E es as)
    (hs : swapsWithSole [tg] (.Tuple es k2 pt2) pos.line X.env = pure false := by rfl) (hw : swappedStores [tg] (.Tuple es k2 pt2) X.env = pure none := by rfl)
    (h1 : (assignEach [tg] X.env).map (·.2) = [assign tg X.env] := by rfl) : DSx X E (.Assign [tg] (.Tuple es k2 pt2) pos) (dTupAsg is as) :=
  PS.imp (ps_asg (pe_tup ha) hg hs hw h1) fun D σ H q => tupAsg_ok q fun vs H1 hl' _ hd => by
    refine ⟨by rw [hl', sizeLine_eq]; have := of_eq_true hl; omega, fun p hp => ⟨p, vs, rfl, .of upd_same, hl', gNames_ok hl' ?_⟩⟩
    exact hd p _ hp
/-! ### loops -/
inductive Tg where
  | one (i : Nat) | many (is : List Nat)
def tgR (K : PySem.W.Frag) : Tg → TG
  | .one i => gName i
  | .many is => gTup K is.length (gNames is)
def setVals : List Nat → List D → LS → Option LS
  | [], [], L => some L
  | i :: is, d :: ds, L => setVals is ds (L.set i (.val d))
  | _, _, _ => none
def tgSet : Tg → D → LS → Option LS
  | .one i, d, L => some (L.set i (.val d))
  | .many is, .tup ds, L => setVals is ds L
  | _, _, _ => none
def Tg.ix : Tg → List Nat
  | .one i => [i]
  | .many is => is
theorem setVals_ok {B : Bs} {H G : Hp} : ∀ {is : List Nat} {vs : List V} {ds : List D} {L L' : LS} {σ : St}, EnvOk B L σ H G → Rps B.K G vs ds → setVals is ds L = some L' → EnvOk B L' (sets σ is vs) H G ∧ vs.length = is.length
  | [], [], [], L, L', σ, E0, _, p => by cases p; exact ⟨E0, rfl⟩
  | i :: is, v :: vs, d :: ds, L, L', σ, E0, .cons r q, p => by
    obtain ⟨E2, e⟩ := setVals_ok (E0.setVal i (s := .val d) (v := v) (.inl ⟨d, rfl, r⟩)) q p
    exact ⟨E2, by simp [e]⟩
  | [], v :: vs, d :: ds, L, L', σ, E0, _, p => by cases p
  | i :: is, [], [], L, L', σ, E0, _, p => by cases p
theorem tg_ok {B : Bs} {K : PySem.W.Frag} {L L' : LS} {σ : St} {H G : Hp} {t : Tg} {v : V} {d : D} {Q : St → Hp → Prop} (hK : B.K = K) (E0 : EnvOk B L σ H G) (r : Rp B.K G v d) (p : tgSet t d L = some L')
    (hq : ∀ vs, EnvOk B L' (sets σ t.ix vs) H G → Q (sets σ t.ix vs) H) : tgR K t v σ H Q := by
  subst hK
  cases t with
  | one i =>
    cases p
    exact hq [v] (E0.setVal i (.inl ⟨d, rfl, r⟩))
  | many is =>
    cases d with
    | tup ds =>
      cases r with
      | tup ha rs =>
        obtain ⟨E1, hl⟩ := setVals_ok E0 rs p
        exact ⟨_, _, rfl, .of (E0.sub _ _ ha), hl, gNames_ok hl (hq _ E1)⟩
    | _ => cases p
/-- what is walked -/
def WD (K : PySem.W.Frag) (J : It) (ds : List D) (G0 : Hp) : Prop := ∃ Y, Walk J ds.length (fun H => GSub G0 H) Y ∧
  ∀ i H x H' d, Y i H x H' → ds[i]? = some d → ∀ B L σ G, B.K = K → EnvOk B L σ H G → GSub G0 G → ∃ G', Stp L σ H G L H' G' ∧ EnvOk B L σ H' G' ∧ Rp K G' x d
def relI (K : PySem.W.Frag) : LS → Hp → Hp → It → List D → Prop := fun _ _ G J ds => WD K J ds G
def tDI (K : PySem.W.Frag) (E : XK) (f : LS → Rs (List D)) : TI := fun σ H R => ∃ B L G, B.K = K ∧ EnvOk B L σ H G ∧ PostG (relI B.K) B L σ H G (f L) R E
def DIx (X : Cx) (E : XK) (tg iter : Expr) (f : LS → Rs (List D)) : Prop := PI X tg iter (tDI X.K E f)
theorem PI.imp {tg iter : Expr} {t t' : TI} (h : PI X tg iter t) (k : ∀ σ H R, t' σ H R → t σ H R) : PI X tg iter t' := ⟨fun pins s σ H R I q => h.run pins s σ H R I (k σ H R q)⟩
def forL (t : Tg) (g : DS) : List D → LS → Fl
  | [], L => .nx L
  | d :: ds, L => match tgSet t d L with
    | none => .stuck
    | some L1 => match g L1 with
      | .nx L2 => forL t g ds L2
      | .ct L2 => forL t g ds L2
      | .brk L2 => .nx L2
      | .ret r L2 => .ret r L2
      | .exc e L2 => .exc e L2
      | .stuck => .stuck
def dFor (t : Tg) (fi : LS → Rs (List D)) (g : DS) : DS := fun L => (fi L).fl fun ds L1 => forL t g ds L1
theorem ds_for {tg iter : Expr} {body : List Stmt} {fi : LS → Rs (List D)} {t : Tg} (hp : PassesOwn (model X.prog X.w) X.A X.env X.xe) (hc : X.calm = true) (hi : DIx X E tg iter fi) (hg : PG X tg (tgR X.K t)) (hb : DSsx X E body g)
    (hs : ∀ x, foldedSetIterable iter X.env x = pure x := by intro _; rfl) : DSx X E (.For tg iter body [] pos) (dFor t fi g) := PS.imp (ps_for hp hc hi hg hb hs) fun D σ H ⟨B, L, G, hK, E0, P⟩ =>
  ⟨B, L, G, hK, E0, PostS.next P fun ds L1 J H1 G1 S1 E1 R1 P1 => by
    obtain ⟨Y, W, hY⟩ := R1
    refine for_it W (fun i σ H => ∃ L G, EnvOk B L σ H G ∧ GSub G1 G ∧ forL t g (ds.drop i) L = forL t g ds L1) ⟨L1, G1, E1, .refl, by simp⟩ (fun i σ H _ ⟨L, G, E', gs, _⟩ => gs.trans E'.sub) ?_ ?_
    · rintro i x σ2 H2 H3 hi ⟨L2, G2, E2, gs, e⟩ y
      obtain ⟨d, hd⟩ : ∃ d, ds[i]? = some d := ⟨ds[i], by simp [hi]⟩
      obtain ⟨G3, S3, E3, r3⟩ := hY i H2 x H3 d y hd B L2 σ2 G2 rfl E2 gs
      have ed : ds.drop i = d :: ds.drop (i + 1) := by
        rw [List.drop_eq_getElem_cons hi]
        rw [List.getElem?_eq_getElem hi] at hd
        rw [Option.some.inj hd]
      rw [ed] at e
      simp only [forL] at e
      rw [← e] at P1
      cases q : tgSet t d L2 with
      | none => rw [q] at P1; exact P1.elim
      | some L3 =>
        rw [q] at P1 e
        refine tg_ok hK E3 r3 q fun vs E4 => ⟨B, L3, G3, hK, E4, ?_⟩
        simp only at P1 e
        have gs3 : GSub G1 G3 := gs.trans S3.gsub
        cases qg : g L3 with
        | nx L4 =>
          rw [qg] at e
          exact fun σ' H' G' s E' => ⟨L4, G', E', gs3.trans s, e⟩
        | ct L4 =>
          rw [qg] at e
          exact fun σ' H' G' s E' => ⟨L4, G', E', gs3.trans s, e⟩
        | brk L4 => rw [qg] at P1; exact fun σ' H' G' s E' => P1 σ' H' G' (gs3.trans s) E'
        | ret r L4 => rw [qg] at P1; exact fun v σ' H' G' s E' R' => P1 v σ' H' G' (gs3.trans s) E' R'
        | exc x L4 => rw [qg] at P1; exact fun C dx σ' H' G' s E' R' => P1 C dx σ' H' G' (gs3.trans s) E' R'
        | stuck => rw [qg] at P1; exact P1.elim
    · rintro σ2 H2 ⟨L2, G2, E2, gs, e⟩
      rw [List.drop_length] at e
      rw [← e] at P1
      exact P1 σ2 H2 G2 gs E2⟩
def whL (c : DT) (g : DS) : Nat → LS → Fl
  | 0, _ => .stuck
  | n + 1, L => match c L with
    | .ok true L1 => match g L1 with
      | .nx L2 => whL c g n L2
      | .ct L2 => whL c g n L2
      | .brk L2 => .nx L2
      | .ret r L2 => .ret r L2
      | .exc e L2 => .exc e L2
      | .stuck => .stuck
    | .ok false L1 => .nx L1
    | .exc e L1 => .exc e L1
    | .stuck => .stuck
theorem ds_while {cnd : Expr} {body : List Stmt} {t : DT} (n : Nat) (hp : PassesOwn (model X.prog X.w) X.A X.env X.xe) (hc : DTx X E cnd t) (hb : DSsx X E body g) : DSx X E (.While cnd body [] pos) (whL t g n) := PS.imp (ps_while hp hc hb) fun D σ H ⟨B, L, G, hK, E0, P⟩ => by
  refine ⟨fun m σ H => ∃ L1 G1, EnvOk B L1 σ H G1 ∧ GSub G G1 ∧ whL t g m L1 = whL t g n L, ⟨n, L, G, E0, .refl, rfl⟩, ?_⟩
  rintro m σ1 H1 ⟨L1, G1, E1, gs, e⟩
  cases m with
  | zero => rw [← e] at P; exact P.elim
  | succ m =>
    simp only [whL] at e
    rw [← e] at P
    refine ⟨B, L1, G1, hK, E1, ?_⟩
    cases q : t L1 with
    | stuck => rw [q] at P; exact P.elim
    | exc x L2 => rw [q] at P; exact fun C dx H' G' S' E' R' => P C dx σ1 H' G' (gs.trans S'.gsub) E' R'
    | ok b L2 =>
      rw [q] at P e
      intro v H2 G2 S2 E2 r
      have e1 : v = b := r
      subst e1
      have gs2 : GSub G G2 := gs.trans S2.gsub
      cases v with
      | false => exact P σ1 H2 G2 gs2 E2
      | true =>
        rw [if_pos rfl]
        simp only at P e
        refine ⟨fun σ' H' => ∃ L3 G3, EnvOk B L3 σ' H' G3 ∧ GSub G G3 ∧ whL t g m L3 = whL t g n L, fun σ' H' h => ⟨m, Nat.lt_succ_self m, h⟩, B, L2, G2, hK, E2, ?_⟩
        cases qg : g L2 with
        | nx L4 =>
          rw [qg] at e
          exact fun σ' H' G' s E' => ⟨L4, G', E', gs2.trans s, e⟩
        | ct L4 =>
          rw [qg] at e
          exact fun σ' H' G' s E' => ⟨L4, G', E', gs2.trans s, e⟩
        | brk L4 => rw [qg] at P; exact fun σ' H' G' s E' => P σ' H' G' (gs2.trans s) E'
        | ret r L4 => rw [qg] at P; exact fun v σ' H' G' s E' R' => P v σ' H' G' (gs2.trans s) E' R'
        | exc x L4 => rw [qg] at P; exact fun C dx σ' H' G' s E' R' => P C dx σ' H' G' (gs2.trans s) E' R'
        | stuck => rw [qg] at P; exact P.elim
end
end DV
end
section
set_option Elab.async false
set_option linter.all false
set_option maxRecDepth 100000
set_option maxHeartbeats 4000000
namespace DV
open PySem PySem.Spec PyProof.Rows L2 RZ

/-! ### what is walked -/
theorem walk_zipT {K : PySem.W.Frag} {a b : Addr} {xs ys : List V} {n : Nat} (hn : n = min xs.length ys.length) : Walk (ItzT K a b) n (fun H => SqT K H a xs ∧ SqT K H b ys) (YPair (fun i => xs[i]?) (fun i => ys[i]?)) := by
  subst hn
  refine ⟨fun i _ hi q => ?_, fun _ q => ⟨xs, ys, q.1, q.2, by omega⟩, fun i H v H' _ q y => ?_⟩
  · have h1 : i < xs.length := by omega
    have h2 : i < ys.length := by omega
    exact ⟨xs, ys, xs[i], ys[i], q.1, q.2, by simp [h1], by simp [h2]⟩
  · obtain ⟨T, x, z, h1, h2, h3, h4, h5⟩ := y
    exact ⟨T, x, z, h1, h2, h3, h4 xs q.1, h5 ys q.2⟩
theorem wd_at {K : PySem.W.Frag} {J : It} {ds : List D} {vs : List V} {G0 : Hp} (hl : vs.length = ds.length) (w : Walk J vs.length (fun H => GSub G0 H) (YAt vs)) (r : Rps K G0 vs ds) : WD K J ds G0 := by
  refine ⟨YAt vs, hl ▸ w, fun i H x H' d y hd B L σ G hK E0 gs => ?_⟩
  obtain ⟨rfl, hx⟩ := y
  obtain ⟨v, h1, h2⟩ := r.get hd
  rw [hx] at h1; cases h1
  exact ⟨G, .refl, E0, h2.mono gs⟩
theorem wd_list {K : PySem.W.Frag} {a : Addr} {vs : List V} {ds : List D} {G0 : Hp} (h : G0 a = some (.lst vs)) (r : Rps K G0 vs ds) : WD K (Itl K a) ds G0 :=
  wd_at r.length (walk_list.mono (fun H q => .of (q _ _ h)) fun _ _ _ _ _ _ y => y) r
theorem wd_tup {K : PySem.W.Frag} {a : Addr} {vs : List V} {ds : List D} {G0 : Hp} (h : G0 a = some (.tup vs)) (r : Rps K G0 vs ds) : WD K (Itt K a) ds G0 :=
  wd_at r.length (walk_tup.mono (fun H q => .of (q _ _ h)) fun _ _ _ _ _ _ y => y) r
def rgD (lo c : Int) (n : Nat) : List D := (List.range n).map fun i => .int (lo + (i : Nat) * c)
theorem rgD_length (lo c : Int) (n : Nat) : (rgD lo c n).length = n := by simp [rgD]
theorem rgD_get {lo c : Int} {n i : Nat} {d : D} (h : (rgD lo c n)[i]? = some d) : d = .int (lo + (i : Nat) * c) := by
  unfold rgD at h
  rw [List.getElem?_map] at h
  cases q : (List.range n)[i]? with
  | none => rw [q] at h; cases h
  | some j =>
    rw [q] at h
    have : j = i := by
      have := List.getElem?_eq_some_iff.mp q
      obtain ⟨hi, e⟩ := this
      simpa using e.symm
    subst this
    simpa using h.symm
theorem wd_range {K : PySem.W.Frag} {lo : Int} {n : Nat} {G0 : Hp} : WD K (Itr lo n) (rgD lo 1 n) G0 := by
  refine ⟨YFn fun i => .int (lo + i), ?_, fun i H x H' d y hd B L σ G hK E0 gs => ?_⟩
  · rw [rgD_length]
    exact walk_range.mono (fun _ _ => trivial) fun _ _ _ _ _ _ y => y
  · obtain ⟨rfl, rfl⟩ := y
    rw [rgD_get hd, Int.mul_one]
    exact ⟨G, .refl, E0, .int _⟩
theorem wd_rangeC {K : PySem.W.Frag} {lo c : Int} {n : Nat} {G0 : Hp} : WD K (Itc lo c n) (rgD lo c n) G0 := by
  refine ⟨YFn fun i => .int (lo + (i : Nat) * c), ?_, fun i H x H' d y hd B L σ G hK E0 gs => ?_⟩
  · rw [rgD_length]
    exact walk_rangeC.mono (fun _ _ => trivial) fun _ _ _ _ _ _ y => y
  · obtain ⟨rfl, rfl⟩ := y
    rw [rgD_get hd]
    exact ⟨G, .refl, E0, .int _⟩
theorem wd_pair {K : PySem.W.Frag} {J : It} {n : Nat} {xs ys : Nat → Option V} {dx dy : Nat → Option D} {ds : List D} {G0 : Hp} (hn : ds.length = n) (w : Walk J n (fun H => GSub G0 H) (YPair xs ys))
    (hx : ∀ i x d, xs i = some x → dx i = some d → Rp K G0 x d) (hy : ∀ i x d, ys i = some x → dy i = some d → Rp K G0 x d) (hd : ∀ i d, ds[i]? = some d → ∃ a b, dx i = some a ∧ dy i = some b ∧ d = .tup [a, b]) : WD K J ds G0 := by
  refine ⟨YPair xs ys, hn ▸ w, fun i H v H' d y h B L σ G hK E0 gs => ?_⟩
  obtain ⟨T, x, y, rfl, hT, rfl, h1, h2⟩ := y
  obtain ⟨a, b, k1, k2, rfl⟩ := hd i d h
  subst hK
  obtain ⟨G', E1, S1, R1⟩ := RR.freshG E0 hT (.cons ((hx i x a h1 k1).mono gs) (.cons ((hy i y b h2 k2).mono gs) .nil))
  exact ⟨G', S1, E1, R1⟩
/-- pairs of items -/
def zipD (xs ys : List D) : List D := (xs.zip ys).map fun p => .tup [p.1, p.2]
def enumD (xs : List D) : List D := ((List.range xs.length).zip xs).map fun p => .tup [.int p.1, p.2]
theorem zipD_get {xs ys : List D} {i : Nat} {d : D} (h : (zipD xs ys)[i]? = some d) : ∃ a b, xs[i]? = some a ∧ ys[i]? = some b ∧ d = .tup [a, b] := by
  unfold zipD at h
  rw [List.getElem?_map, Option.map_eq_some_iff] at h
  obtain ⟨⟨a, b⟩, h1, rfl⟩ := h
  rw [List.getElem?_zip_eq_some] at h1
  exact ⟨a, b, h1.1, h1.2, rfl⟩
theorem enumD_get {xs : List D} {i : Nat} {d : D} (h : (enumD xs)[i]? = some d) : ∃ a b, (some (D.int i)) = some a ∧ xs[i]? = some b ∧ d = .tup [a, b] := by
  unfold enumD at h
  rw [List.getElem?_map, Option.map_eq_some_iff] at h
  obtain ⟨⟨a, b⟩, h1, rfl⟩ := h
  rw [List.getElem?_zip_eq_some] at h1
  have e : a = i := by
    obtain ⟨hi, e⟩ := List.getElem?_eq_some_iff.mp h1.1
    simpa using e.symm
  subst e
  exact ⟨_, b, rfl, h1.2, rfl⟩
section
variable {X : Cx} {E : XK} {e e2 a b c tg : Expr} {es : List Expr} {st : Stmt} {sts : List Stmt} {pos : Pos} {f fa fb fc : DE} {g h : DS}
/-- a list or a tuple, walked -/
def iSeq (K : PySem.W.Frag) (tl : TE) : TI := fun σ H R => tl σ H fun x H1 => ∃ a, x = .ref a ∧ (((∃ xs, SqL K H1 a xs) ∧ R (Itl K a) H1) ∨ ((∃ xs, SqT K H1 a xs) ∧ R (Itt K a) H1))
theorem pi_seq {l : Expr} {tl : TE} (hl : PE X l tl) : PI X tg l (iSeq X.K tl) := by
  refine ⟨fun pins s σ H R I h => ?_⟩
  refine thn (hl.run pins s σ H _ I h) fun v s1 ⟨x, H1, I1, r1, q1⟩ => ?_
  obtain ⟨a, e, q1⟩ := q1
  subst e
  cases r1
  rcases q1 with ⟨⟨xs, hq⟩, q⟩ | ⟨⟨xs, hq⟩, q⟩
  · obtain ⟨its, rv, p, hz⟩ := I1.list hq
    refine wpAny_pyIter_list p.isList ?_
    refine ⟨s1.heap.objs.size, [s1.heap.objs.size], _, _, H1, rfl, I1.kept (t' := s1.toks) fun b o e => Heap.get?_push_of_some _ e, turn_list a _, ⟨_, Heap.get?_push_size _ rfl, rfl, rfl⟩, fun b hb => ?_, q⟩
    have e : b = s1.heap.objs.size := by simpa using hb
    subst e
    exact I1.fpOk (Nat.le_refl _) (I1.hok.fresh (Nat.le_refl _))
  · obtain ⟨its, rv, p, hz⟩ := I1.tuple hq
    refine wpAny_pyIter_tuple (show s1.heap.IsTuple a its.toArray from p) ?_
    refine ⟨s1.heap.objs.size, [s1.heap.objs.size], _, _, H1, rfl, I1.kept (t' := s1.toks) fun b o e => Heap.get?_push_of_some _ e, turn_tuple a _, ⟨_, Heap.get?_push_size _ rfl, rfl, rfl⟩, fun b hb => ?_, q⟩
    have e : b = s1.heap.objs.size := by simpa using hb
    subst e
    exact I1.fpOk (Nat.le_refl _) (I1.hok.fresh (Nat.le_refl _))
def items : D → Option (List D)
  | .lst xs => some xs
  | .tup xs => some xs
  | _ => none
def dISeq (f : DE) : LS → Rs (List D) := fun L => (f L).bind fun r L1 => match fz L1 r with
  | some (d, L2) => match items d with
    | some ds => .ok ds L2
    | none => .stuck
  | none => .stuck
theorem di_seq (hl : DEx X E e f) : DIx X E tg e (dISeq f) := PI.imp (pi_seq hl) fun σ H R ⟨B, L, G, hK, E0, P⟩ =>
  ⟨B, L, G, hK, E0, PostG.next P .refl fun r1 L1 v1 H1 G1 S1 E1 R1 P1 => by
    split at P1
    · rename_i d L2 p
      split at P1
      · rename_i ds q
        obtain ⟨G2, S2, E2, r2⟩ := fz_ok E0 E1 S1 R1 p
        cases d with
        | lst xs =>
          cases q
          cases r2 with
          | lst h1 h2 => exact ⟨_, rfl, .inl ⟨⟨_, .of (E2.sub _ _ h1)⟩, P1 _ H1 G2 S2 E2 (by rw [← hK]; exact wd_list h1 h2)⟩⟩
        | tup xs =>
          cases q
          cases r2 with
          | tup h1 h2 => exact ⟨_, rfl, .inr ⟨⟨_, .of (E2.sub _ _ h1)⟩, P1 _ H1 G2 S2 E2 (by rw [← hK]; exact wd_tup h1 h2)⟩⟩
        | _ => cases q
      · exact P1.elim
    · exact P1.elim⟩
def rgOk (i : Int) : Bool := decide (-(2 ^ 62) ≤ i) && decide (i < 2 ^ 62)
theorem rgOk_ok {i : Int} (h : rgOk i = true) : -(2 ^ 62) ≤ i ∧ i < 2 ^ 62 := by
  unfold rgOk at h
  simpa using h
def onRg1 : List D → Option (List D)
  | [.int j] => if rgOk j = true then some (rgD 0 1 j.toNat) else none
  | _ => none
def onRg2 : List D → Option (List D)
  | [.int i, .int j] => if (rgOk i && rgOk j) = true then some (rgD i 1 (j - i).toNat) else none
  | _ => none
def onRg3 : List D → Option (List D)
  | [.int i, .int j, .int k] => if (rgOk i && rgOk j && decide (k = -1)) = true then some (rgD i (-1) (i - j).toNat) else none
  | _ => none
def dIRg (on : List D → Option (List D)) (as : DA) : LS → Rs (List D) := fun L => (as L).bind fun rs L1 => match peeks L1 rs with
  | some ds => match on ds with
    | some xs => .ok xs L1
    | none => .stuck
  | none => .stuck
theorem RpNs.int1 {K : PySem.W.Frag} {H G : Hp} {vs : List V} {i : Int} (h : RpNs K H G vs [.int i]) : vs = [.int i] := by
  cases h with | cons r q => cases q; rw [r.int]
theorem RpNs.int2 {K : PySem.W.Frag} {H G : Hp} {vs : List V} {i j : Int} (h : RpNs K H G vs [.int i, .int j]) : vs = [.int i, .int j] := by
  cases h with | cons r q => rw [r.int, q.int1]
theorem RpNs.int3 {K : PySem.W.Frag} {H G : Hp} {vs : List V} {i j k : Int} (h : RpNs K H G vs [.int i, .int j, .int k]) : vs = [.int i, .int j, .int k] := by
  cases h with | cons r q => rw [r.int, q.int2]
theorem di_range1 {as : DA} {p : Pos} (hg : Gl X "range") (hm : X.mg "range" = none) (ha : DLx X E [a] as) (hs : starEach [a] X.env = [(false, eval a X.env)] := by rfl) : DIx X E tg (.Call (.Name "range" p) [a] [] pos) (dIRg onRg1 as) :=
  PI.imp (pi_range1 hg hm ha hs) fun σ H R ⟨B, L, G, hK, E0, P⟩ => ⟨B, L, G, hK, E0, PostG.next P .refl fun rs L1 vs H1 G1 S1 E1 R1 P1 => by
    split at P1
    · rename_i ds p1
      split at P1
      · rename_i xs q
        have rr := peeks_ok E1 R1 p1
        unfold onRg1 at q
        split at q
        · split at q
          · rename_i c
            cases q
            have e := rr.int1
            subst e
            exact ⟨_, rfl, (rgOk_ok c).1, (rgOk_ok c).2, P1 _ H1 G1 S1 E1 wd_range⟩
          · cases q
        · cases q
      · exact P1.elim
    · exact P1.elim⟩
theorem di_range2 {as : DA} {p : Pos} (hg : Gl X "range") (hm : X.mg "range" = none) (ha : DLx X E [a, b] as) (hs : starEach [a, b] X.env = [(false, eval a X.env), (false, eval b X.env)] := by rfl) (hs2 : starEach [b] X.env = [(false, eval b X.env)] := by rfl) : DIx X E tg (.Call (.Name "range" p) [a, b] [] pos) (dIRg onRg2 as) :=
  PI.imp (pi_range2 hg hm ha hs hs2) fun σ H R ⟨B, L, G, hK, E0, P⟩ => ⟨B, L, G, hK, E0, PostG.next P .refl fun rs L1 vs H1 G1 S1 E1 R1 P1 => by
    split at P1
    · rename_i ds p1
      split at P1
      · rename_i xs q
        have rr := peeks_ok E1 R1 p1
        unfold onRg2 at q
        split at q
        · split at q
          · rename_i c
            cases q
            have e := rr.int2
            subst e
            rw [Bool.and_eq_true] at c
            exact ⟨_, _, rfl, ⟨(rgOk_ok c.1).1, (rgOk_ok c.1).2, (rgOk_ok c.2).1, (rgOk_ok c.2).2⟩, P1 _ H1 G1 S1 E1 wd_range⟩
          · cases q
        · cases q
      · exact P1.elim
    · exact P1.elim⟩
theorem di_range3 {as : DA} {p : Pos} (hg : Gl X "range") (hm : X.mg "range" = none) (ha : DLx X E [a, b, c] as) (hs : starEach [a, b, c] X.env = (false, eval a X.env) :: starEach [b, c] X.env := by rfl) (hpl : (backTo pos (starEach [b, c] X.env)).any (·.1) = false := by rfl) : DIx X E tg (.Call (.Name "range" p) [a, b, c] [] pos) (dIRg onRg3 as) :=
  PI.imp (pi_range3 hg hm ha hs hpl) fun σ H R ⟨B, L, G, hK, E0, P⟩ => ⟨B, L, G, hK, E0, PostG.next P .refl fun rs L1 vs H1 G1 S1 E1 R1 P1 => by
    split at P1
    · rename_i ds p1
      split at P1
      · rename_i xs q
        have rr := peeks_ok E1 R1 p1
        unfold onRg3 at q
        split at q
        · split at q
          · rename_i c
            cases q
            have e := rr.int3
            subst e
            rw [Bool.and_eq_true, Bool.and_eq_true] at c
            have e1 := of_decide_eq_true c.2
            subst e1
            exact ⟨_, _, _, _, rfl, RgC.neg (rgOk_ok c.1.1).1 (rgOk_ok c.1.1).2 (rgOk_ok c.1.2).1 (rgOk_ok c.1.2).2, P1 _ H1 G1 S1 E1 wd_rangeC⟩
          · cases q
        · cases q
      · exact P1.elim
    · exact P1.elim⟩
/-- arguments frozen, for what keeps its argument -/
def dIZip (as : LS → Rs (List D)) : LS → Rs (List D) := fun L => (as L).bind fun ds L1 => match ds with
  | [.lst xs, .lst ys] => .ok (zipD xs ys) L1
  | [.tup xs, .tup ys] => .ok (zipD xs ys) L1
  | _ => .stuck
theorem zipD_length (xs ys : List D) : (zipD xs ys).length = min xs.length ys.length := by simp [zipD]
theorem di_zip {as : LS → Rs (List D)} {p tpos : Pos} {elts : List Expr} {kk : Nat} (hg : Gl X "zip") (hm : X.mg "zip" = none) (ha : DFx X E [e, e2] as)
    (hs : starEach [e, e2] X.env = (false, eval e X.env) :: starEach [e2] X.env := by rfl) (hpl : (backTo pos (starEach [e2] X.env)).any (·.1) = false := by rfl) :
    DIx X E (.Tuple elts kk tpos) (.Call (.Name "zip" p) [e, e2] [] pos) (dIZip as) :=
  PI.imp (pi_zipA hg hm ha hs hpl) fun σ H R ⟨B, L, G, hK, E0, P⟩ => ⟨B, L, G, hK, E0, PostG.next P .refl fun ds L1 vs H1 G1 S1 E1 R1 P1 => by
    have R1' : Rps B.K G1 vs ds := R1
    split at P1
    · cases R1' with | cons r q => cases q with | cons r' q =>
        cases q
        cases r with | lst h1 h2 => cases r' with | lst h3 h4 =>
        refine ⟨_, _, _, _, rfl, .inl ⟨.of (E1.sub _ _ h1), .of (E1.sub _ _ h3), P1 _ H1 G1 S1 E1 ?_⟩⟩
        rw [← hK]
        refine wd_pair (zipD_length _ _) ((walk_zip (by rw [h2.length, h4.length])).mono (fun H q => ⟨.of (q _ _ h1), .of (q _ _ h3)⟩) fun _ _ _ _ _ _ y => y) ?_ ?_ fun i d q => zipD_get q
        · intro i x d k1 k2; obtain ⟨v, k3, k4⟩ := h2.get k2; rw [k1] at k3; cases k3; exact k4
        · intro i x d k1 k2; obtain ⟨v, k3, k4⟩ := h4.get k2; rw [k1] at k3; cases k3; exact k4
    · cases R1' with | cons r q => cases q with | cons r' q =>
        cases q
        cases r with | tup h1 h2 => cases r' with | tup h3 h4 =>
        refine ⟨_, _, _, _, rfl, .inr ⟨.of (E1.sub _ _ h1), .of (E1.sub _ _ h3), P1 _ H1 G1 S1 E1 ?_⟩⟩
        rw [← hK]
        refine wd_pair (zipD_length _ _) ((walk_zipT (by rw [h2.length, h4.length])).mono (fun H q => ⟨.of (q _ _ h1), .of (q _ _ h3)⟩) fun _ _ _ _ _ _ y => y) ?_ ?_ fun i d q => zipD_get q
        · intro i x d k1 k2; obtain ⟨v, k3, k4⟩ := h2.get k2; rw [k1] at k3; cases k3; exact k4
        · intro i x d k1 k2; obtain ⟨v, k3, k4⟩ := h4.get k2; rw [k1] at k3; cases k3; exact k4
    · exact P1.elim⟩
end
end DV
end
section
set_option Elab.async false
set_option linter.all false
set_option maxRecDepth 100000
set_option maxHeartbeats 4000000
namespace DV
open PySem PySem.Spec PyProof.Rows L2

/-! ### comprehensions -/
def wipeL (L : LS) : List Nat → LS
  | [] => L
  | v :: vs => (wipeL L vs).set v .un
theorem wipeL_length (L : LS) : ∀ vs : List Nat, (wipeL L vs).length = L.length
  | [] => rfl
  | v :: vs => by unfold wipeL; rw [List.length_set, wipeL_length L vs]
theorem wipeL_get {L : LS} {i : Nat} {s : Sl} : ∀ {vs : List Nat}, (wipeL L vs)[i]? = some s → s = .un ∨ (L[i]? = some s ∧ i ∉ vs)
  | [], h => .inr ⟨h, by simp⟩
  | v :: vs, h => by
    unfold wipeL at h
    by_cases c : v = i
    · subst c
      by_cases hv : v < (wipeL L vs).length
      · rw [List.getElem?_set_self hv] at h; cases h; exact .inl rfl
      · rw [List.getElem?_eq_none (by rw [List.length_set]; omega)] at h; cases h
    · rw [List.getElem?_set_ne c] at h
      rcases wipeL_get h with h | ⟨h1, h2⟩
      · exact .inl h
      · exact .inr ⟨h1, by simp [h2, Ne.symm c]⟩
theorem wipe_get {σ : St} {i : Nat} : ∀ {vs : List Nat}, i ∉ vs → (wipe σ vs)[i]? = σ[i]?
  | [], _ => rfl
  | v :: vs, h => by
    unfold wipe
    simp only [List.mem_cons, not_or] at h
    rw [List.getElem?_set_ne (Ne.symm h.1)]
    exact wipe_get h.2
/-- slots that are not known may hold anything -/
theorem EnvOk.swap {B : Bs} {L L' : LS} {σ σ' : St} {H G : Hp} (E0 : EnvOk B L σ H G) (hl : L'.length = σ'.length) (h : ∀ (i : Nat) s, L'[i]? = some s → s ≠ .un → L[i]? = some s ∧ σ'[i]? = σ[i]?) : EnvOk B L' σ' H G := by
  have obj : ∀ a, ObjAt L' σ' a → ObjAt L σ a := fun a ⟨j, m, x, h1, h2⟩ => by
    obtain ⟨k1, k2⟩ := h j _ h1 (by intro z; cases z)
    exact ⟨j, m, x, k1, k2 ▸ h2⟩
  refine ⟨hl, E0.sub, E0.old, E0.new, E0.keep, E0.dom, fun i s k => ?_, fun i j m n d e a h1 h2 h3 h4 => ?_⟩
  · cases s with
    | un => trivial
    | val d => obtain ⟨k1, k2⟩ := h i _ k (by intro z; cases z); rw [k2]; exact E0.at_ i _ k1
    | bor d =>
      obtain ⟨k1, k2⟩ := h i _ k (by intro z; cases z)
      rw [k2]
      obtain ⟨v, e1, r⟩ := E0.at_ i _ k1
      refine ⟨v, e1, ?_⟩
      rcases r with r | ⟨a, o, e2, q1, q2, q3, q4⟩
      · exact .inl r
      · exact .inr ⟨a, o, e2, q1, q2, fun z => q3 (obj a z), q4⟩
    | obj m d => obtain ⟨k1, k2⟩ := h i _ k (by intro z; cases z); rw [k2]; exact E0.at_ i _ k1
  · obtain ⟨k1, k2⟩ := h i _ h1 (by intro z; cases z)
    obtain ⟨k3, k4⟩ := h j _ h2 (by intro z; cases z)
    exact E0.inj i j m n d e a k1 k3 (k2 ▸ h3) (k4 ▸ h4)
theorem Stp.swap {L L1 : LS} {σ σ' : St} {H G H' G' : Hp} {L' : LS} (S : Stp L1 σ' H G L' H' G') (h : ∀ (i : Nat) m d, L1[i]? = some (.obj m d) → L[i]? = some (.obj m d) ∧ σ[i]? = σ'[i]?) : Stp L σ H G L' H' G' := by
  have obj : ∀ a, ObjAt L1 σ' a → ObjAt L σ a := fun a ⟨j, m, x, h1, h2⟩ => by
    obtain ⟨k1, k2⟩ := h j _ _ h1
    exact ⟨j, m, x, k1, k2 ▸ h2⟩
  have wr : ∀ a, WrAt L1 σ' a → WrAt L σ a := fun a ⟨j, m, x, w, h1, h2⟩ => by
    obtain ⟨k1, k2⟩ := h j _ _ h1
    exact ⟨j, m, x, w, k1, k2 ▸ h2⟩
  refine ⟨S.gsub, fun a o k => ?_, fun a o k n => S.keep a o k fun z => n (wr a z), S.dom, fun i m d k => ?_⟩
  · rcases S.gnew a o k with q | q | q
    · exact .inl q
    · exact .inr (.inl q)
    · exact .inr (.inr (obj a q))
  · obtain ⟨e, q⟩ := S.own i m d k
    exact ⟨e, (h i m e q).1⟩
/-- slots forgotten behind a step -/
theorem Stp.forget {L L' L2 : LS} {σ : St} {H G H' G' : Hp} (S : Stp L σ H G L' H' G') (h : ∀ (i : Nat) m d, L2[i]? = some (.obj m d) → L'[i]? = some (.obj m d)) : Stp L σ H G L2 H' G' :=
  ⟨S.gsub, S.gnew, S.keep, S.dom, fun i m d k => S.own i m d (h i m d k)⟩
/-- an object that no slot knows of is changed -/
theorem EnvOk.poke {B : Bs} {L : LS} {σ : St} {H G : Hp} (E0 : EnvOk B L σ H G) {p : Addr} {o : HO} (g : G p = none) (b : B.H0 p = none) (n : ¬ ObjAt L σ p) : EnvOk B L σ (upd H p o) G := by
  have gne : ∀ a u, G a = some u → a ≠ p := fun a u k z => by subst z; rw [g] at k; cases k
  have bne : ∀ a, B.H0 a ≠ none → a ≠ p := fun a k z => by subst z; exact k b
  refine ⟨E0.len, fun a u k => by rw [upd_ne (gne a u k)]; exact E0.sub a u k, E0.old, E0.new, fun a u k q => by rw [upd_ne (bne a (some_ne k))]; exact E0.keep a u k q, fun a k => by rw [upd_ne (bne a k)]; exact E0.dom a k, fun i s k => ?_, E0.inj⟩
  have q := E0.at_ i s k
  cases s with
  | un => trivial
  | val d => exact q
  | bor d =>
    obtain ⟨v, e, r⟩ := q
    refine ⟨v, e, ?_⟩
    rcases r with r | ⟨a, u, h1, h2, h3, h4, h5⟩
    · exact .inl r
    · exact .inr ⟨a, u, h1, by rw [upd_ne (bne a h5)]; exact h2, h3, h4, h5⟩
  | obj m d =>
    obtain ⟨a, u, h1, h2, h3, h4, h5⟩ := q
    have ne : a ≠ p := by rintro rfl; exact n ⟨i, m, d, k, h1⟩
    exact ⟨a, u, h1, by rw [upd_ne ne]; exact h2, h3, h4, h5⟩
theorem setVals_un : ∀ {is : List Nat} {ds : List D} {L L' : LS}, setVals is ds L = some L' → L'.length = L.length ∧ ∀ (i : Nat) m d, L'[i]? = some (.obj m d) → L[i]? = some (.obj m d) ∧ i ∉ is
  | [], [], L, L', p => by cases p; exact ⟨rfl, fun i m d h => ⟨h, by simp⟩⟩
  | j :: is, d :: ds, L, L', p => by
    obtain ⟨h1, h2⟩ := setVals_un (is := is) (ds := ds) p
    refine ⟨by rw [h1, List.length_set], fun i m e h => ?_⟩
    obtain ⟨k1, k2⟩ := h2 i m e h
    by_cases c : j = i
    · subst c
      by_cases hj : j < L.length
      · rw [List.getElem?_set_self hj] at k1; cases k1
      · rw [List.getElem?_eq_none (by rw [List.length_set]; omega)] at k1; cases k1
    · rw [List.getElem?_set_ne c] at k1
      exact ⟨k1, by simp [k2, Ne.symm c]⟩
  | [], d :: ds, L, L', p => by cases p
  | j :: is, [], L, L', p => by cases p
theorem tgSet_un {t : Tg} {d : D} {L L' : LS} (p : tgSet t d L = some L') : L'.length = L.length ∧ ∀ (i : Nat) m e, L'[i]? = some (.obj m e) → L[i]? = some (.obj m e) ∧ i ∉ t.ix := by
  cases t with
  | one j => exact setVals_un (is := [j]) (ds := [d]) (by simpa [tgSet, setVals] using p)
  | many is =>
    cases d with
    | tup ds => exact setVals_un p
    | _ => cases p
theorem sets_get {i : Nat} : ∀ {is : List Nat} {vs : List V} {σ : St}, i ∉ is → (sets σ is vs)[i]? = σ[i]?
  | [], _, _, _ => rfl
  | j :: is, [], σ, _ => rfl
  | j :: is, v :: vs, σ, h => by
    simp only [List.mem_cons, not_or] at h
    unfold sets
    rw [sets_get h.2, List.getElem?_set_ne (Ne.symm h.1)]
theorem sets_length : ∀ {is : List Nat} {vs : List V} {σ : St}, (sets σ is vs).length = σ.length
  | [], _, _ => rfl
  | j :: is, [], σ => rfl
  | j :: is, v :: vs, σ => by unfold sets; rw [sets_length, List.length_set]
theorem wipe_none {σ : St} {i : Nat} : ∀ {vs : List Nat}, i ∈ vs → i < σ.length → (wipe σ vs)[i]? = some none
  | v :: vs, h, hi => by
    unfold wipe
    by_cases c : v = i
    · subst c; rw [List.getElem?_set_self (by rw [wipe_length]; exact hi)]
    · rw [List.getElem?_set_ne c]
      exact wipe_none (by simpa [Ne.symm c] using h) hi
/-- wiped slots do not tell what was set there -/
theorem wipe_same {σ σ' : St} {vs : List Nat} (hl : σ'.length = σ.length) (h : ∀ i, i ∉ vs → σ'[i]? = σ[i]?) : wipe σ' vs = wipe σ vs := by
  apply List.ext_getElem?
  intro i
  by_cases c : i ∈ vs
  · by_cases hi : i < σ.length
    · rw [wipe_none c hi, wipe_none c (by omega)]
    · rw [List.getElem?_eq_none (by rw [wipe_length]; omega), List.getElem?_eq_none (by rw [wipe_length]; omega)]
  · rw [wipe_get c, wipe_get c, h i c]
def Rs.wp {α : Type} (vs : List Nat) : Rs α → Rs α
  | .ok x L => .ok x L
  | .exc _ _ => .stuck
  | .stuck => .stuck
@[simp] theorem Rs.wp_ok {α : Type} (vs : List Nat) (x : α) (L : LS) : (Rs.ok x L).wp vs = .ok x L := rfl
def lcL (vs : List Nat) (t : Tg) (cond : DT) (elt : DE) : List D → List D → LS → Rs (List D)
  | [], acc, L => .ok acc L
  | d :: ds, acc, L => match tgSet t d L with
    | none => .stuck
    | some L1 => ((cond L1).wp vs).bind fun b L2 => if b = true then ((elt L2).wp vs).bind fun r L3 => match fz L3 r with
        | some (y, L4) => if lenOk acc.length = true then lcL vs t cond elt ds (acc ++ [y]) (wipeL L4 vs) else .stuck
        | none => .stuck
      else lcL vs t cond elt ds acc (wipeL L2 vs)
def dLC (vs : List Nat) (t : Tg) (fi : LS → Rs (List D)) (cond : DT) (elt : DE) : DE := fun L => (fi L).bind fun ds L1 => (lcL vs t cond elt ds [] (wipeL L1 vs)).bind fun acc L2 => .ok (.t (.lst acc)) L2
def dYes : DT := fun L => .ok true L
def DPx (X : Cx) (E : XK) (ifs : List Expr) (f : DT) : Prop := PTs X ifs (tDT X.K E f)
section
variable {X : Cx} {E : XK} {e e2 a b c tg : Expr} {es : List Expr} {st : Stmt} {sts : List Stmt} {pos : Pos} {f fa fb fc : DE} {g h : DS}
theorem dp_nil : DPx X E [] dYes := ⟨fun pins s σ H Q I ⟨B, L, G, hK, E0, P⟩ => pts_nil.run pins s σ H Q I (P true H G .refl E0 rfl)⟩
theorem dp_one {f : DT} (h : DTx X E c f) : DPx X E [c] f := pts_one h
theorem tLc_of {K : PySem.W.Frag} {vs : List Nat} {t : Tg} {fi : LS → Rs (List D)} {cond : DT} {elt : DE} (hv : ∀ i ∈ t.ix, i ∈ vs) {σ : St} {H : Hp} {Q : VK} (h : tD K E (dLC vs t fi cond elt) σ H Q) :
    tLc (tDI K E fi) (tgR K t) (tDT K E0 cond) (tD K E0 elt) vs σ H Q := by
  obtain ⟨B, L, G, hK, E0, P⟩ := h
  refine ⟨B, L, G, hK, E0, PostG.next P .refl fun ds L1 J H1 G1 S1 E1 R1 P1 => ?_⟩
  obtain ⟨Y, W, hY⟩ := R1
  intro D hD
  obtain ⟨EL, SL, g0, b0, n0⟩ := E1.laid (o := .lst []) hD
  -- the slots that are not the block's own
  have lw : ∀ {L : LS}, L.length = σ.length → ∀ (i : Nat) s, (wipeL L vs)[i]? = some s → s ≠ .un → L[i]? = some s ∧ (wipe σ vs)[i]? = σ[i]? := fun {L} hl i s k n => by
    rcases wipeL_get k with k | ⟨k1, k2⟩
    · exact absurd k n
    · exact ⟨k1, wipe_get k2⟩
  have E1w : EnvOk B (wipeL L1 vs) (wipe σ vs) (upd H1 D (.lst [])) G1 := EL.swap (by rw [wipeL_length, wipe_length]; exact E1.len) fun i s k n => lw E1.len i s k n
  refine lc_it W (fun i H => ∃ (L : LS) (G : Hp) (acc : List DV.D) (vacc : List V), EnvOk B L (wipe σ vs) H G ∧ Stp L1 σ H1 G1 L H G ∧ H D = some (.lst vacc) ∧ Rps B.K G vacc acc ∧ G D = none ∧ ¬ ObjAt L (wipe σ vs) D ∧
    (∀ (i : Nat) s, L[i]? = some s → s ≠ .un → i ∉ vs) ∧ lcL vs t cond elt (ds.drop i) acc L = lcL vs t cond elt ds [] (wipeL L1 vs)) ?_ ?_ ?_ ?_
  · refine ⟨wipeL L1 vs, G1, [], [], E1w, SL.forget fun i m d k => ((wipeL_get k).resolve_left (by intro z; cases z)).1, upd_same, .nil, g0, fun ⟨j, m, x, h1, h2⟩ => ?_, fun i s k n => ((wipeL_get k).resolve_left n).2, by simp⟩
    obtain ⟨k1, k2⟩ := lw E1.len j _ h1 (by intro z; cases z)
    exact n0 ⟨j, m, x, k1, k2 ▸ h2⟩
  · rintro i H _ ⟨L, G, acc, vacc, E', S', _⟩
    exact GSub.trans S'.gsub E'.sub
  · rintro i x H2 H3 hi ⟨L2, G2, acc, vacc, E2, S2, hD2, ra, g2, n2, un2, e⟩ y
    obtain ⟨d, hd⟩ : ∃ d, ds[i]? = some d := ⟨ds[i], by simp [hi]⟩
    obtain ⟨G3, S3, E3, r3⟩ := hY i H2 x H3 d y hd B L2 (wipe σ vs) G2 rfl E2 S2.gsub
    have ed : ds.drop i = d :: ds.drop (i + 1) := by
      rw [List.drop_eq_getElem_cons hi]
      rw [List.getElem?_eq_getElem hi] at hd
      rw [Option.some.inj hd]
    rw [ed] at e
    simp only [lcL] at e
    rw [← e] at P1
    cases q : tgSet t d L2 with
    | none => rw [q] at P1; exact P1.elim
    | some L3 =>
      rw [q] at P1 e
      simp only at P1 e
      obtain ⟨hl3, un3⟩ := tgSet_un q
      -- D behind the yield
      have hD3 : H3 D = some (.lst vacc) := S3.keep D _ hD2 fun z => n2 z.obj
      have g3 : G3 D = none := by
        cases z : G3 D with
        | none => rfl
        | some u =>
          rcases S3.gnew D u z with k | k | k
          · rw [g2] at k; cases k
          · rw [hD2] at k; cases k
          · exact absurd k n2
      -- a step from L2 (wiped) is a step from L1 with σ
      have sw : ∀ {L' : LS}, (∀ (i : Nat) m d, L'[i]? = some (.obj m d) → L2[i]? = some (.obj m d)) → True := fun _ => trivial
      refine tg_ok hK E3 r3 q fun ws E4 => ?_
      have σ2 : wipe (sets (wipe σ vs) t.ix ws) vs = wipe σ vs := by
        have e1 : wipe (sets (wipe σ vs) t.ix ws) vs = wipe (wipe σ vs) vs := wipe_same sets_length fun i hi => sets_get fun z => hi (hv i z)
        rw [e1]
        exact wipe_same (wipe_length σ vs) fun i hi => wipe_get hi
      refine ⟨σ2, ?_⟩
      have n3 : ¬ ObjAt L3 (sets (wipe σ vs) t.ix ws) D := fun ⟨j, m, z, h1, h2⟩ => by
        obtain ⟨k1, k2⟩ := un3 j m z h1
        rw [sets_get k2] at h2
        exact n2 ⟨j, m, z, k1, h2⟩
      -- from a state of the block back to the loop
      have S13 : Stp L1 σ H1 G1 L2 H3 G3 := S2.trans (Stp.swap (L := L2) S3 fun i m d k => ⟨k, by
        rw [wipe_get (un2 i _ k (by intro z; cases z))]⟩)
      have toL2 : ∀ {L' : LS} {H' G' : Hp}, Stp L3 (sets (wipe σ vs) t.ix ws) H3 G3 L' H' G' → Stp L1 σ H1 G1 L' H' G' := fun {L' H' G'} S => S13.trans (Stp.swap (L := L2) S fun i m d k => by
        obtain ⟨k1, k2⟩ := un3 i m d k
        exact ⟨k1, by rw [sets_get k2, wipe_get (un2 i _ k1 (by intro z; cases z))]⟩)
      have keepD : ∀ {L' : LS} {H' G' : Hp}, Stp L3 (sets (wipe σ vs) t.ix ws) H3 G3 L' H' G' → H' D = some (.lst vacc) ∧ G' D = none ∧ ¬ ObjAt L' (sets (wipe σ vs) t.ix ws) D := fun {L' H' G'} S => by
        refine ⟨S.keep D _ hD3 fun z => n3 z.obj, ?_, fun z => n3 (S.objs z)⟩
        cases z : G' D with
        | none => rfl
        | some u =>
          rcases S.gnew D u z with k | k | k
          · rw [g3] at k; cases k
          · rw [hD3] at k; cases k
          · exact absurd k n3
      have back : ∀ {L' : LS} {H' G' : Hp}, EnvOk B L' (sets (wipe σ vs) t.ix ws) H' G' → EnvOk B (wipeL L' vs) (wipe σ vs) H' G' := fun {L' H' G'} E => E.swap (by rw [wipeL_length, E.len, sets_length]) fun i s k n => by
        obtain ⟨k1, k2⟩ := (wipeL_get k).resolve_left n
        exact ⟨k1, by rw [sets_get fun z => k2 (hv i z)]⟩
      have backN : ∀ {L' : LS}, ¬ ObjAt L' (sets (wipe σ vs) t.ix ws) D → ¬ ObjAt (wipeL L' vs) (wipe σ vs) D := fun {L'} n ⟨j, m, z, h1, h2⟩ => by
        obtain ⟨k1, k2⟩ := (wipeL_get h1).resolve_left (by intro z; cases z)
        exact n ⟨j, m, z, k1, by rw [sets_get fun z => k2 (hv j z)]; exact h2⟩
      have bD : B.H0 D = none := b0
      refine ⟨B, L3, G3, hK, E4, ?_⟩
      -- the condition
      cases qc : cond L3 with
      | stuck => rw [qc] at P1; exact P1.elim
      | exc x L4 => rw [qc] at P1; exact P1.elim
      | ok bb L4 =>
        rw [qc] at P1 e
        simp only [Rs.wp_ok, Rs.bind_ok] at P1 e
        intro v H4 G4 S4 E4' r
        have ev : v = bb := r
        subst ev
        cases v with
        | false =>
          rw [if_neg Bool.false_ne_true] at P1 e
          rw [if_neg Bool.false_ne_true]
          obtain ⟨k1, k2, k3⟩ := keepD S4
          exact ⟨wipeL L4 vs, G4, acc, vacc, back E4', (toL2 S4).forget fun i m d k => ((wipeL_get k).resolve_left (by intro z; cases z)).1, k1, ra.mono (GSub.trans S3.gsub S4.gsub), k2, backN k3, fun i s k n => ((wipeL_get k).resolve_left n).2, e⟩
        | true =>
          rw [if_pos rfl] at P1 e
          rw [if_pos rfl]
          refine ⟨B, L4, G4, hK, E4', ?_⟩
          cases qe : elt L4 with
          | stuck => rw [qe] at P1; exact P1.elim
          | exc x L5 => rw [qe] at P1; exact P1.elim
          | ok r5 L5 =>
            rw [qe] at P1 e
            simp only [Rs.wp_ok, Rs.bind_ok] at P1 e
            intro v5 H5 G5 S5 E5 R5
            cases qf : fz L5 r5 with
            | none => rw [qf] at P1; exact P1.elim
            | some p =>
              obtain ⟨y5, L6⟩ := p
              rw [qf] at P1 e
              simp only at P1 e
              cases ql : lenOk acc.length with
              | false => rw [ql] at P1; exact P1.elim
              | true =>
                rw [ql, if_pos rfl] at P1 e
                obtain ⟨G6, S6, E6, r6⟩ := fz_ok E4' E5 S5 R5 qf
                have S46 := S4.trans S6
                obtain ⟨k1, k2, k3⟩ := keepD S46
                have ra6 := ra.mono (GSub.trans S3.gsub S46.gsub)
                refine ⟨vacc, k1, by rw [ra.length]; exact lenOk_lt ql, wipeL L6 vs, G6, acc ++ [y5], vacc ++ [v5], (back E6).poke k2 bD (backN k3), ?_, upd_same, ra6.append (.cons r6 .nil), k2, backN k3, fun i s k n => ((wipeL_get k).resolve_left n).2, e⟩
                have S16 := (toL2 S46).forget (L2 := wipeL L6 vs) fun i m d k => ((wipeL_get k).resolve_left (by intro z; cases z)).1
                refine ⟨S16.gsub, S16.gnew, fun a o h n => ?_, fun a h => ?_, S16.own⟩
                · have ne : a ≠ D := by rintro rfl; rw [hD] at h; cases h
                  rw [upd_ne ne]; exact S16.keep a o h n
                · have ne : a ≠ D := by rintro rfl; exact h hD
                  rw [upd_ne ne]; exact S16.dom a h
  · rintro H2 ⟨L2, G2, acc, vacc, E2, S2, hD2, ra, g2, n2, un2, e⟩
    rw [List.drop_length] at e
    rw [← e] at P1
    have E2' : EnvOk B L2 σ H2 G2 := E2.swap (by rw [E2.len, wipe_length]) fun i s k n => ⟨k, by rw [wipe_get (un2 i s k n)]⟩
    refine P1 _ H2 G2 (S1.trans S2) E2' ⟨D, _, rfl, hD2, .lst ra, g2, ?_, fun ⟨j, m, z, h1, h2⟩ => n2 ⟨j, m, z, h1, by rw [wipe_get (un2 j _ h1 (by intro z; cases z))]; exact h2⟩⟩
    cases z : H D with
    | none => rfl
    | some u => exact absurd hD (S1.dom D (some_ne z))
theorem de_lc {elt iter : Expr} {ifs : List Expr} {scope : Scope} {own : List (Str × Nat)} {t : Tg} {fi : LS → Rs (List D)} {cond : DT} {fe : DE} (hc : X.calm = true) (hN : X.N.Nodup) (hi : DIx X E tg iter fi) (ok : BlkOk X.N X.env.scope scope own)
    (hv : (t.ix.all fun i => (own.map (·.2)).contains i) = true)
    (hg : ∀ (s : Shared) (H : Hp) (C : Addr) (cl : List (Str × Addr)) (fp : List Addr), PG (X.blk s H scope (compEnvC scope cl C X.env) fp) tg (tgR X.K t)) (ht : ∀ (s : Shared) (H : Hp) (C : Addr) (cl : List (Str × Addr)) (fp : List Addr), DPx (X.blk s H scope (compEnvC scope cl C X.env) fp) E0 ifs cond)
    (he : ∀ (s : Shared) (H : Hp) (C : Addr) (cl : List (Str × Addr)) (fp : List Addr), DEx (X.blk s H scope (compEnvC scope cl C X.env) fp) E0 elt fe) (hs : ∀ x, foldedSetIterable iter X.env x = pure x := by intro _; rfl) :
    DEx X E (.ListComp elt [⟨tg, iter, ifs, 0⟩] scope pos) (dLC (own.map (·.2)) t fi cond fe) :=
  PE.imp (pe_lc (tt := tDT X.K E0 cond) (te := tD X.K E0 fe) hc hN hi ok hg ht he hs) fun _ _ _ h => tLc_of (fun i hi => by simpa using List.all_eq_true.mp hv i hi) h
theorem ds_asgLc {i : Nat} {y : Str} {py spos : Pos} {elt iter : Expr} {ifs : List Expr} {scope : Scope} {own : List (Str × Nat)} {t : Tg} {fi : LS → Rs (List D)} {cond : DT} {fe : DE} (hc : X.calm = true) (hN : X.N.Nodup) (hy : X.N[i]? = some y) (hyl : X.env.scope.names.lookup y = some .local)
    (hsw : swapsWith (.ListComp elt [⟨tg, iter, ifs, 0⟩] scope pos) (some (.Name y py)) spos.line X.env = pure true) (hi : DIx X E tg iter fi) (ok : BlkOk X.N X.env.scope scope own)
    (hv : (t.ix.all fun i => (own.map (·.2)).contains i) = true)
    (hg : ∀ (s : Shared) (H : Hp) (C : Addr) (cl : List (Str × Addr)) (fp : List Addr), PG (X.blk s H scope (compEnvC scope cl C X.env) fp) tg (tgR X.K t)) (ht : ∀ (s : Shared) (H : Hp) (C : Addr) (cl : List (Str × Addr)) (fp : List Addr), DPx (X.blk s H scope (compEnvC scope cl C X.env) fp) E0 ifs cond)
    (he : ∀ (s : Shared) (H : Hp) (C : Addr) (cl : List (Str × Addr)) (fp : List Addr), DEx (X.blk s H scope (compEnvC scope cl C X.env) fp) E0 elt fe) (hs : ∀ x, foldedSetIterable iter X.env x = pure x := by intro _; rfl) :
    DSx X E (.Assign [.Name y py] (.ListComp elt [⟨tg, iter, ifs, 0⟩] scope pos) spos) (dAsg i (dLC (own.map (·.2)) t fi cond fe)) :=
  PS.imp (ps_setLc (tt := tDT X.K E0 cond) (te := tD X.K E0 fe) hc hN hy hyl hsw hi ok hg ht he hs) fun D σ H ⟨B, L, G, hK, E0, P⟩ => by
    refine tLc_of (fun i hi => by simpa using List.all_eq_true.mp hv i hi) ⟨B, L, G, hK, E0, PostS.next P fun r L1 v H1 G1 S1 E1 R1 P1 => ?_⟩
    split at P1
    · rename_i L2 p
      obtain ⟨G2, gs, E2⟩ := asgR_ok E1 E0.dom R1 p
      exact P1 _ H1 G2 gs E2
    · exact P1.elim
end
end DV
end
section
set_option Elab.async false
set_option linter.all false
set_option maxRecDepth 100000
set_option maxHeartbeats 4000000
namespace DV
open PySem PySem.Spec PyProof.Rows L2

/-! ### what a def promises -/
inductive Pm where
  | val | bor | io
  deriving DecidableEq
inductive Ro where
  | ok (fr : Bool) (d : D) (outs : List D) | exc (e : Ex) (outs : List D) | stuck
abbrev Mir := List D → Ro
/-- a value that callers' frames hold on to: data, or an object that may be read -/
def RpB (K : PySem.W.Frag) (H G : Hp) (io : List Addr) (v : V) (d : D) : Prop := Rp K G v d ∨ ∃ a o, v = .ref a ∧ H a = some o ∧ Ob K G o d ∧ a ∉ io
def IoOk (K : PySem.W.Frag) (H G : Hp) (a : Addr) (d : D) : Prop := ∃ o, H a = some o ∧ Ob K G o d ∧ G a = none
/-- the arguments; io: the addresses of those that are changed, in order -/
inductive Args (K : PySem.W.Frag) (H G : Hp) (io : List Addr) : List Pm → List V → List D → List Addr → Prop
  | nil : Args K H G io [] [] [] []
  | val {ms vs ds ios} {v : V} {d : D} : Rp K G v d → Args K H G io ms vs ds ios → Args K H G io (.val :: ms) (v :: vs) (d :: ds) ios
  | bor {ms vs ds ios} {v : V} {d : D} : RpB K H G io v d → Args K H G io ms vs ds ios → Args K H G io (.bor :: ms) (v :: vs) (d :: ds) ios
  | io {ms vs ds ios} {a : Addr} {d : D} : IoOk K H G a d → Args K H G io ms vs ds ios → Args K H G io (.io :: ms) (.ref a :: vs) (d :: ds) (a :: ios)
inductive Outs (K : PySem.W.Frag) (H G : Hp) : List Addr → List D → Prop
  | nil : Outs K H G [] []
  | cons {a d ios ds} : IoOk K H G a d → Outs K H G ios ds → Outs K H G (a :: ios) (d :: ds)
structure After (K : PySem.W.Frag) (H G : Hp) (ios : List Addr) (outs : List D) (H' G' : Hp) : Prop where
  gsub : GSub G G'
  sub : GSub G' H'
  new : ∀ a o, G' a = some o → G a = some o ∨ H a = none
  keep : ∀ a o, H a = some o → a ∉ ios → H' a = some o
  dom : ∀ a, H a ≠ none → H' a ≠ none
  outs : Outs K H' G' ios outs
def Res (K : PySem.W.Frag) (H H' G' : Hp) (v : V) (fr : Bool) (d : D) : Prop :=
  if fr = true then ∃ a o, v = .ref a ∧ H' a = some o ∧ Ob K G' o d ∧ G' a = none ∧ H a = none else Rp K G' v d
def spD (K : PySem.W.Frag) (ms : List Pm) (m : Mir) : Sp := fun vs H Q E => ∃ G ds ios, GSub G H ∧ Args K H G ios ms vs ds ios ∧ ios.Nodup ∧
  match m ds with
  | .ok fr d outs => ∀ v H' G', After K H G ios outs H' G' → Res K H H' G' v fr d → Q v H'
  | .exc e outs => ∀ C dx H' G', After K H G ios outs H' G' → ExR K H' G' C dx e → E C dx H'
  | .stuck => False
theorem Args.len {K : PySem.W.Frag} {H G : Hp} {io : List Addr} : ∀ {ms vs ds ios}, Args K H G io ms vs ds ios → vs.length = ms.length
  | _, _, _, _, .nil => rfl
  | _, _, _, _, .val _ q => by simp [q.len]
  | _, _, _, _, .bor _ q => by simp [q.len]
  | _, _, _, _, .io _ q => by simp [q.len]
theorem Args.len2 {K : PySem.W.Frag} {H G : Hp} {io : List Addr} : ∀ {ms vs ds ios}, Args K H G io ms vs ds ios → ds.length = ms.length
  | _, _, _, _, .nil => rfl
  | _, _, _, _, .val _ q => by simp [q.len2]
  | _, _, _, _, .bor _ q => by simp [q.len2]
  | _, _, _, _, .io _ q => by simp [q.len2]
theorem Args.ios {K : PySem.W.Frag} {H G : Hp} {io : List Addr} : ∀ {ms vs ds ios}, Args K H G io ms vs ds ios → ∀ a ∈ ios, ∃ d, IoOk K H G a d
  | _, _, _, _, .nil, a, h => by cases h
  | _, _, _, _, .val _ q, a, h => q.ios a h
  | _, _, _, _, .bor _ q, a, h => q.ios a h
  | _, _, _, _, .io k q, a, h => by
    rcases List.mem_cons.mp h with rfl | h
    · exact ⟨_, k⟩
    · exact q.ios a h
/-! ### the def's body -/
def initL : List Pm → List D → Nat → LS
  | .val :: ms, d :: ds, k => .val d :: initL ms ds k
  | .bor :: ms, d :: ds, k => .bor d :: initL ms ds k
  | .io :: ms, d :: ds, k => .obj (.io k) d :: initL ms ds (k + 1)
  | _, _, _ => []
def startL (ms : List Pm) (n : Nat) (ds : List D) : LS := initL ms ds 0 ++ List.replicate (n - ms.length) .un
theorem initL_length : ∀ (ms : List Pm) (ds : List D) (k : Nat), ds.length = ms.length → (initL ms ds k).length = ms.length
  | [], [], _, _ => rfl
  | .val :: ms, d :: ds, k, h => by simp [initL, initL_length ms ds k (by simpa using h)]
  | .bor :: ms, d :: ds, k, h => by simp [initL, initL_length ms ds k (by simpa using h)]
  | .io :: ms, d :: ds, k, h => by simp [initL, initL_length ms ds (k + 1) (by simpa using h)]
/-- the io parameters' slots: (slot, its number) -/
def ioIx : List Pm → Nat → Nat → List (Nat × Nat)
  | [], _, _ => []
  | .io :: ms, i, k => (i, k) :: ioIx ms (i + 1) (k + 1)
  | _ :: ms, i, k => ioIx ms (i + 1) k
def outAt (L : LS) (p : Nat × Nat) : Option D := match L[p.1]? with
  | some (.obj (.io k) d) => if k = p.2 then some d else none
  | _ => none
def outsL (L : LS) : List (Nat × Nat) → Option (List D)
  | [] => some []
  | p :: ps => match outAt L p, outsL L ps with
    | some d, some ds => some (d :: ds)
    | _, _ => none
def resL (L : LS) : R → Option (Bool × D)
  | .v d => some (false, d)
  | .t d => some (true, d)
  | .s i => match L[i]? with
    | some (.val d) => some (false, d)
    | some (.obj .own d) => some (true, d)
    | _ => none
def endL (ms : List Pm) : Fl → Ro
  | .nx L => match outsL L (ioIx ms 0 0) with
    | some outs => .ok false .non outs
    | none => .stuck
  | .ret r L => match outsL L (ioIx ms 0 0), resL L r with
    | some outs, some p => .ok p.1 p.2 outs
    | _, _ => .stuck
  | .exc e L => match outsL L (ioIx ms 0 0) with
    | some outs => .exc e outs
    | none => .stuck
  | _ => .stuck
def runF (ms : List Pm) (n : Nat) (g : DS) : Mir := fun ds => endL ms (g (startL ms n ds))
theorem Args.initAt {K : PySem.W.Frag} {H G : Hp} {io : List Addr} : ∀ {ms vs ds ios} {k : Nat}, Args K H G io ms vs ds ios → ∀ (i : Nat) s, (initL ms ds k)[i]? = some s → ∃ v, vs[i]? = some v ∧
    ((∃ d, s = .val d ∧ Rp K G v d) ∨ (∃ d, s = .bor d ∧ RpB K H G io v d) ∨ ∃ j d a, s = .obj (.io (k + j)) d ∧ ios[j]? = some a ∧ v = .ref a ∧ IoOk K H G a d)
  | _, _, _, _, k, .nil, i, s, h => by simp [initL] at h
  | _, _, _, _, k, .val r q, i, s, h => by
    cases i with
    | zero => simp [initL] at h; subst h; exact ⟨_, rfl, .inl ⟨_, rfl, r⟩⟩
    | succ i => obtain ⟨v, h1, h2⟩ := q.initAt (k := k) i s (by simpa [initL] using h); exact ⟨v, by simpa using h1, h2⟩
  | _, _, _, _, k, .bor r q, i, s, h => by
    cases i with
    | zero => simp [initL] at h; subst h; exact ⟨_, rfl, .inr (.inl ⟨_, rfl, r⟩)⟩
    | succ i => obtain ⟨v, h1, h2⟩ := q.initAt (k := k) i s (by simpa [initL] using h); exact ⟨v, by simpa using h1, h2⟩
  | _, _, _, _, k, .io r q, i, s, h => by
    cases i with
    | zero => simp [initL] at h; subst h; exact ⟨_, rfl, .inr (.inr ⟨0, _, _, rfl, rfl, rfl, r⟩)⟩
    | succ i =>
      obtain ⟨v, h1, h2⟩ := q.initAt (k := k + 1) i s (by simpa [initL] using h)
      refine ⟨v, by simpa using h1, ?_⟩
      rcases h2 with h2 | h2 | ⟨j, d, a, e1, e2, e3, e4⟩
      · exact .inl h2
      · exact .inr (.inl h2)
      · exact .inr (.inr ⟨j + 1, d, a, by rw [e1]; congr 2; omega, by simpa using e2, e3, e4⟩)
theorem initL_obj {ms : List Pm} {ds : List D} : ∀ {k : Nat} {i j : Nat} {m n : Md} {d e : D}, (initL ms ds k)[i]? = some (.obj m d) → (initL ms ds k)[j]? = some (.obj n e) → m = n → i = j := by
  have low : ∀ (ms : List Pm) (ds : List D) (k i : Nat) (m : Md) (d : D), (initL ms ds k)[i]? = some (.obj m d) → ∃ j, m = .io j ∧ k ≤ j := by
    intro ms
    induction ms with
    | nil => intro ds k i m d h; simp [initL] at h
    | cons p ms ih =>
      intro ds k i m d h
      cases ds with
      | nil => cases p <;> simp [initL] at h
      | cons x ds =>
        cases p <;> cases i <;> simp [initL] at h
        · exact ih ds k _ m d h
        · exact ih ds k _ m d h
        · exact ⟨k, h.1.symm, Nat.le_refl _⟩
        · obtain ⟨j, e1, e2⟩ := ih ds (k + 1) _ m d h
          exact ⟨j, e1, by omega⟩
  induction ms generalizing ds with
  | nil => intro k i j m n d e h; simp [initL] at h
  | cons p ms ih =>
    intro k i j m n d e h1 h2 hm
    subst hm
    cases ds with
    | nil => cases p <;> simp [initL] at h1
    | cons x ds =>
      cases p <;> cases i <;> cases j <;> simp [initL] at h1 h2 <;> try rfl
      · exact congrArg (· + 1) (ih h1 h2 rfl)
      · exact congrArg (· + 1) (ih h1 h2 rfl)
      · obtain ⟨q, e1, e2⟩ := low ms ds (k + 1) _ _ _ h2
        rw [← h1.1] at e1; cases e1; omega
      · obtain ⟨q, e1, e2⟩ := low ms ds (k + 1) _ _ _ h1
        rw [← h2.1] at e1; cases e1; omega
      · exact congrArg (· + 1) (ih h1 h2 rfl)
theorem start_ok {K : PySem.W.Frag} {H G : Hp} {ms : List Pm} {vs : List V} {ds : List D} {ios : List Addr} {N : List Str} (gs : GSub G H) (A : Args K H G ios ms vs ds ios) (nd : ios.Nodup) (hn : ms.length ≤ N.length) :
    EnvOk ⟨K, H, G, ios⟩ (startL ms N.length ds) (start N vs) H G := by
  have hl := initL_length ms ds 0 A.len2
  have lk : ∀ (i : Nat) s, (startL ms N.length ds)[i]? = some s → s ≠ .un → (initL ms ds 0)[i]? = some s ∧ i < ms.length := fun i s h n => by
    unfold startL at h
    by_cases c : i < (initL ms ds 0).length
    · rw [List.getElem?_append_left c] at h; exact ⟨h, by omega⟩
    · rw [List.getElem?_append_right (by omega)] at h
      obtain ⟨_, e⟩ := List.getElem?_eq_some_iff.mp h
      simp at e
      exact absurd e.symm n
  have vk : ∀ (i : Nat) v, vs[i]? = some v → (start N vs)[i]? = some (some v) := fun i v h => by
    have hi : i < vs.length := (List.getElem?_eq_some_iff.mp h).1
    unfold L2.start
    rw [List.getElem?_append_left (by simpa using hi), List.getElem?_map, h]
    rfl
  have obj : ∀ a, ObjAt (startL ms N.length ds) (start N vs) a → a ∈ ios := fun a ⟨i, m, d, h1, h2⟩ => by
    obtain ⟨k1, k2⟩ := lk i _ h1 (by intro z; cases z)
    obtain ⟨v, e1, e2⟩ := A.initAt i _ k1
    rcases e2 with ⟨_, e, _⟩ | ⟨_, e, _⟩ | ⟨j, x, b, e, e3, rfl, _⟩
    · cases e
    · cases e
    · rw [vk i _ e1] at h2; cases h2
      exact List.mem_of_getElem? e3
  refine ⟨?_, gs, fun _ _ h => h, fun _ _ h => .inl h, fun _ _ h _ => h, fun _ h => h, fun i s h => ?_, fun i j m n d e a h1 h2 h3 h4 => ?_⟩
  · unfold startL L2.start
    have := A.len
    simp [hl]
    omega
  · cases s with
    | un => trivial
    | val d =>
      obtain ⟨k1, _⟩ := lk i _ h (by intro z; cases z)
      obtain ⟨v, e1, e2⟩ := A.initAt i _ k1
      rcases e2 with ⟨_, e, r⟩ | ⟨_, e, _⟩ | ⟨j, x, b, e, _⟩ <;> cases e
      exact ⟨v, vk i v e1, r⟩
    | bor d =>
      obtain ⟨k1, _⟩ := lk i _ h (by intro z; cases z)
      obtain ⟨v, e1, e2⟩ := A.initAt i _ k1
      rcases e2 with ⟨_, e, r⟩ | ⟨_, e, r⟩ | ⟨j, x, b, e, _⟩ <;> cases e
      refine ⟨v, vk i v e1, ?_⟩
      rcases r with r | ⟨a, o, q1, q2, q3, q4⟩
      · exact .inl r
      · exact .inr ⟨a, o, q1, q2, q3, fun z => q4 (obj a z), some_ne q2⟩
    | obj m d =>
      obtain ⟨k1, _⟩ := lk i _ h (by intro z; cases z)
      obtain ⟨v, e1, e2⟩ := A.initAt i _ k1
      rcases e2 with ⟨_, e, r⟩ | ⟨_, e, r⟩ | ⟨j, x, b, e, e3, rfl, o, q1, q2, q3⟩
      · cases e
      · cases e
      · cases e
        refine ⟨b, o, vk i _ e1, q1, q2, q3, ?_⟩
        show ios[0 + j]? = some b
        rw [Nat.zero_add]; exact e3
  · obtain ⟨k1, _⟩ := lk i _ h1 (by intro z; cases z)
    obtain ⟨k2, _⟩ := lk j _ h2 (by intro z; cases z)
    obtain ⟨v1, a1, a2⟩ := A.initAt i _ k1
    obtain ⟨v2, b1, b2⟩ := A.initAt j _ k2
    rcases a2 with ⟨_, q, _⟩ | ⟨_, q, _⟩ | ⟨j1, x1, c1, q1, q2, rfl, _⟩
    · cases q
    · cases q
    rcases b2 with ⟨_, q, _⟩ | ⟨_, q, _⟩ | ⟨j2, x2, c2, p1, p2, rfl, _⟩
    · cases q
    · cases q
    rw [vk i _ a1] at h3; cases h3
    rw [vk j _ b1] at h4; cases h4
    cases q1; cases p1
    have ej : j1 = j2 := by
      obtain ⟨l1, w1⟩ := List.getElem?_eq_some_iff.mp q2
      obtain ⟨l2, w2⟩ := List.getElem?_eq_some_iff.mp p2
      exact (List.getElem_inj nd).mp (w1.trans w2.symm)
    subst ej
    exact initL_obj k1 k2 rfl
theorem outs_ok {B : Bs} {L : LS} {σ : St} {H G : Hp} (E0 : EnvOk B L σ H G) : ∀ {ms : List Pm} {i k : Nat} {outs : List D} {ios : List Addr}, outsL L (ioIx ms i k) = some outs → (∀ j a, ios[j]? = some a → B.io[k + j]? = some a) → ios.length = (ioIx ms i k).length → Outs B.K H G ios outs
  | [], i, k, outs, ios, h, hb, hl => by
    cases h
    have e : ios = [] := List.length_eq_zero_iff.mp hl
    subst e
    exact .nil
  | .val :: ms, i, k, outs, ios, h, hb, hl => outs_ok E0 (ms := ms) (i := i + 1) (k := k) h hb hl
  | .bor :: ms, i, k, outs, ios, h, hb, hl => outs_ok E0 (ms := ms) (i := i + 1) (k := k) h hb hl
  | .io :: ms, i, k, outs, ios, h, hb, hl => by
    simp only [ioIx, outsL] at h
    split at h
    · rename_i d ds q1 q2
      cases h
      cases ios with
      | nil => simp [ioIx] at hl
      | cons a ios =>
        refine .cons ?_ (outs_ok E0 (ms := ms) (i := i + 1) (k := k + 1) q2 (fun j b h => by
          have := hb (j + 1) b (by simpa using h)
          rw [← this]; congr 1; omega) (by simpa [ioIx] using hl))
        unfold outAt at q1
        split at q1
        · rename_i k' x hx
          split at q1
          · rename_i ek
            cases q1
            subst ek
            obtain ⟨b, o, e1, e2, e3, e4, e5⟩ := E0.at_ i _ hx
            have e6 : B.io[k']? = some b := e5
            have e7 := hb 0 a rfl
            simp only [Nat.add_zero] at e7
            rw [e6] at e7; cases e7
            exact ⟨o, e2, e3, e4⟩
          · cases q1
        · cases q1
    · cases h
theorem ioIx_length {K : PySem.W.Frag} {H G : Hp} {io : List Addr} : ∀ {ms vs ds ios} {i k : Nat}, Args K H G io ms vs ds ios → ios.length = (ioIx ms i k).length
  | _, _, _, _, i, k, .nil => rfl
  | _, _, _, _, i, k, .val _ q => ioIx_length (i := i + 1) (k := k) q
  | _, _, _, _, i, k, .bor _ q => ioIx_length (i := i + 1) (k := k) q
  | _, _, _, _, i, k, .io _ q => by simp [ioIx, ioIx_length (i := i + 1) (k := k + 1) q]
/-- the body keeps the promise -/
theorem body_ok {K : PySem.W.Frag} {ms : List Pm} {N : List Str} {g : DS} {vs : List V} {H : Hp} {Q : VK} {E : XK} (hn : ms.length ≤ N.length) (h : spD K ms (runF ms N.length g) vs H Q E) : tS K E g { nx := fun _ H' => Q .non H', rt := Q } (start N vs) H := by
  obtain ⟨G, ds, ios, gs, A, nd, P⟩ := h
  refine ⟨⟨K, H, G, ios⟩, startL ms N.length ds, G, rfl, start_ok gs A nd hn, ?_⟩
  have af : ∀ {L σ' H' G' outs}, GSub G G' → EnvOk ⟨K, H, G, ios⟩ L σ' H' G' → outsL L (ioIx ms 0 0) = some outs → After K H G ios outs H' G' := fun {L σ' H' G' outs} s E' ho =>
    ⟨s, E'.sub, E'.new, E'.keep, E'.dom, outs_ok E' ho (fun j a q => by simpa using q) (ioIx_length A)⟩
  unfold runF endL at P
  cases hg : g (startL ms N.length ds) with
  | nx L =>
    rw [hg] at P
    simp only at P
    cases ho : outsL L (ioIx ms 0 0) with
    | none => rw [ho] at P; exact P.elim
    | some outs => rw [ho] at P; exact fun σ' H' G' s E' => P _ H' G' (af s E' ho) (by exact .non)
  | ret r L =>
    rw [hg] at P
    simp only at P
    cases ho : outsL L (ioIx ms 0 0) with
    | none => rw [ho] at P; exact P.elim
    | some outs =>
      cases hr : resL L r with
      | none => rw [ho, hr] at P; exact P.elim
      | some p =>
        rw [ho, hr] at P
        intro v σ' H' G' s E' R'
        refine P v H' G' (af s E' ho) ?_
        cases r with
        | v d => cases hr; exact R'
        | t d =>
          cases hr
          obtain ⟨a, o, e, h1, h2, h3, h4, _⟩ := R'
          exact ⟨a, o, e, h1, h2, h3, h4⟩
        | s i =>
          have R'' : σ'[i]? = some (some v) := R'
          simp only [resL] at hr
          split at hr
          · rename_i d q
            cases hr
            obtain ⟨w, e1, e2⟩ := E'.at_ i _ q
            rw [R''] at e1; cases e1
            exact e2
          · rename_i d q
            cases hr
            obtain ⟨a, o, e1, e2, e3, e4, e5⟩ := E'.at_ i _ q
            rw [R''] at e1; cases e1
            exact ⟨a, o, rfl, e2, e3, e4, e5⟩
          · cases hr
  | exc x L =>
    rw [hg] at P
    simp only at P
    cases ho : outsL L (ioIx ms 0 0) with
    | none => rw [ho] at P; exact P.elim
    | some outs => rw [ho] at P; exact fun C dx σ' H' G' s E' R' => P C dx H' G' (af s E' ho) R'
  | brk L => rw [hg] at P; exact P.elim
  | ct L => rw [hg] at P; exact P.elim
  | stuck => rw [hg] at P; exact P.elim
/-- mirrors that do not raise -/
def noExc (m : Mir) : Mir := fun ds => match m ds with
  | .exc _ _ => .stuck
  | r => r
/-- a def that lets no exception out -/
theorem okD {P : Program} {w : World} {K : PySem.W.Frag} {mg : Str → Option Value} {base : Heap} {x qual : Str} {st : Stmt} {f : Addr} {fd : FuncData} {N ps : List Str} {k : Nat} {ms : List Pm} {g : DS} (F : Fun K x qual st f fd) (S : FnScope N ps (defScope st)) (hl : ms.length = ps.length) (hn : ms.length ≤ N.length)
    (hbody : ∀ (cdv : Value) (A : Around) (outer : List Env) (s : Shared) (H : Hp) (E : XK), Room k (A.deeper (envOfC qual (defScope st) s.heap.objs.size f cdv)) → DSsx (cxOf CX0 P w K mg base N qual (defScope st) f cdv A outer s H E).nox E0 (defBody st) g) :
    FnOk P w K mg base CX0 (k + 1) f fd ps (spD K ms (noExc (runF ms N.length g))) := by
  refine F.ok S (fun vs H Q E h => ?_) (fun cdv A outer s H vs Q E hr h => ⟨_, hbody cdv A outer s H E hr, ?_⟩)
  · obtain ⟨G, ds, ios, _, A, _⟩ := h
    rw [A.len, hl]
  · refine body_ok hn ?_
    obtain ⟨G, ds, ios, gs, A, nd, P⟩ := h
    refine ⟨G, ds, ios, gs, A, nd, ?_⟩
    unfold noExc at P
    cases q : runF ms N.length g ds with
    | ok fr d outs => rw [q] at P; exact P
    | exc e outs => rw [q] at P; exact P.elim
    | stuck => rw [q] at P; exact P
end DV
end
section
set_option Elab.async false
set_option linter.all false
set_option maxRecDepth 100000
set_option maxHeartbeats 4000000
namespace DV
open PySem PySem.Spec PyProof.Rows L2

/-! ### a call of an own def -/
def dAFCons (f : DE) (g : DA) : DA := fun L => (f L).bind fun r L1 => match fz L1 r with
  | some (d, L1') => (g L1').bind fun rs L2 => .ok (.v d :: rs) L2
  | none => .stuck
/-- the data of the arguments, the slots of those that are changed -/
def argD (L : LS) : List Pm → List R → Option (List D × List Nat)
  | [], [] => some ([], [])
  | .val :: ms, .v d :: rs => match argD L ms rs with
    | some p => some (d :: p.1, p.2)
    | none => none
  | .bor :: ms, r :: rs => match peek L r, argD L ms rs with
    | some d, some p => some (d :: p.1, p.2)
    | _, _ => none
  | .io :: ms, .s i :: rs => match L[i]?, argD L ms rs with
    | some (.obj m d), some p => if (m.wr && !p.2.contains i) = true then some (d :: p.1, i :: p.2) else none
    | _, _ => none
  | _, _ => none
/-- read arguments are not those that are changed -/
def apart (ios : List Nat) : List Pm → List R → Bool
  | .bor :: ms, .s i :: rs => !ios.contains i && apart ios ms rs
  | _ :: ms, _ :: rs => apart ios ms rs
  | _, _ => true
def setIo (L : LS) : List Nat → List D → Option LS
  | [], [] => some L
  | i :: is, d :: ds => match L[i]? with
    | some (.obj m _) => setIo (L.set i (.obj m d)) is ds
    | _ => none
  | _, _ => none
def callR (ms : List Pm) (m : Mir) (rs : List R) (L : LS) : Rs R := match argD L ms rs with
  | some p => if apart p.2 ms rs = true then match m p.1 with
      | .ok fr d outs => match setIo L p.2 outs with
        | some L' => .ok (if fr = true then .t d else .v d) L'
        | none => .stuck
      | .exc e outs => match setIo L p.2 outs with
        | some L' => .exc e L'
        | none => .stuck
      | .stuck => .stuck
    else .stuck
  | none => .stuck
def dFn (ms : List Pm) (m : Mir) (as : DA) : DE := fun L => (as L).bind fun rs L1 => callR ms m rs L1
/-- the addresses in the slots -/
inductive Ats (σ : St) : List Nat → List Addr → Prop
  | nil : Ats σ [] []
  | cons {i a is as} : σ[i]? = some (some (.ref a)) → Ats σ is as → Ats σ (i :: is) (a :: as)
theorem Ats.mem {σ : St} : ∀ {is as a}, Ats σ is as → a ∈ as → ∃ i ∈ is, σ[i]? = some (some (.ref a))
  | _, _, a, .nil, h => by cases h
  | _, _, a, .cons e q, h => by
    rcases List.mem_cons.mp h with rfl | h
    · exact ⟨_, by simp, e⟩
    · obtain ⟨i, h1, h2⟩ := q.mem h
      exact ⟨i, by simp [h1], h2⟩
section
variable {B : Bs} {L : LS} {σ : St} {H G Hs : Hp}
theorem argD_ats (E0 : EnvOk B L σ H G) : ∀ {ms : List Pm} {rs : List R} {ds : List D} {is : List Nat}, argD L ms rs = some (ds, is) →
    (∀ i ∈ is, ∃ m d, m.wr = true ∧ L[i]? = some (.obj m d)) ∧ is.Nodup ∧ ∃ as, Ats σ is as
  | [], [], ds, is, h => by cases h; exact ⟨fun i hi => by simp at hi, by simp, [], .nil⟩
  | .val :: ms, .v d :: rs, ds, is, h => by
    simp only [argD] at h
    split at h
    · rename_i p q
      cases h
      exact argD_ats E0 q
    · cases h
  | .bor :: ms, r :: rs, ds, is, h => by
    simp only [argD] at h
    split at h
    · rename_i d p q1 q
      cases h
      exact argD_ats E0 q
    · cases h
  | .io :: ms, .s i :: rs, ds, is, h => by
    simp only [argD] at h
    split at h
    · rename_i m d p q1 q
      split at h
      · rename_i c
        cases h
        rw [Bool.and_eq_true] at c
        obtain ⟨h1, h2, as, h3⟩ := argD_ats E0 q
        obtain ⟨a, o, e, _⟩ := E0.at_ i _ q1
        refine ⟨fun j hj => ?_, List.nodup_cons.mpr ⟨by simpa using c.2, h2⟩, a :: as, .cons e h3⟩
        rcases List.mem_cons.mp hj with rfl | hj
        · exact ⟨m, d, c.1, q1⟩
        · exact h1 j hj
      · cases h
    · cases h
  | .val :: ms, [], ds, is, h => by simp [argD] at h
  | .bor :: ms, [], ds, is, h => by simp [argD] at h
  | .io :: ms, [], ds, is, h => by simp [argD] at h
  | [], _ :: _, ds, is, h => by simp [argD] at h
  | .val :: ms, .t _ :: rs, ds, is, h => by simp [argD] at h
  | .val :: ms, .s _ :: rs, ds, is, h => by simp [argD] at h
  | .io :: ms, .v _ :: rs, ds, is, h => by simp [argD] at h
  | .io :: ms, .t _ :: rs, ds, is, h => by simp [argD] at h
theorem argD_args (E0 : EnvOk B L σ H G) {tot : List Nat} {io : List Addr} (ho : ∀ i ∈ tot, ∃ m d, L[i]? = some (.obj m d)) (hio : ∀ a ∈ io, ∃ i ∈ tot, σ[i]? = some (some (.ref a))) :
    ∀ {ms : List Pm} {rs : List R} {vs : List V} {ds : List D} {is : List Nat} {as : List Addr}, RRL B.K Hs L σ H G vs rs → argD L ms rs = some (ds, is) → Ats σ is as → apart tot ms rs = true → Args B.K H G io ms vs ds as
  | [], [], [], ds, is, as, _, h, a, _ => by cases h; cases a; exact .nil
  | .val :: ms, .v d :: rs, v :: vs, ds, is, as, ⟨r, rr, _⟩, h, a, c => by
    simp only [argD] at h
    split at h
    · rename_i p q
      cases h
      exact .val r (argD_args E0 ho hio rr q a (by simpa [apart] using c))
    · cases h
  | .bor :: ms, .v d :: rs, v :: vs, ds, is, as, ⟨r, rr, _⟩, h, a, c => by
    simp only [argD, peek] at h
    split at h
    · rename_i d' p q1 q
      cases h; cases q1
      exact .bor (.inl r) (argD_args E0 ho hio rr q a (by simpa [apart] using c))
    · cases h
  | .bor :: ms, .t d :: rs, v :: vs, ds, is, as, ⟨r, rr, _⟩, h, a, c => by
    simp only [argD, peek] at h
    split at h
    · rename_i d' p q1 q
      cases h; cases q1
      obtain ⟨b, o, e, h1, h2, h3, h4, h5⟩ := r
      refine .bor (.inr ⟨b, o, e, h1, h2, fun z => ?_⟩) (argD_args E0 ho hio rr q a (by simpa [apart] using c))
      obtain ⟨i, k1, k2⟩ := hio b z
      obtain ⟨m, x, k3⟩ := ho i k1
      exact h5 ⟨i, m, x, k3, k2⟩
    · cases h
  | .bor :: ms, .s i :: rs, v :: vs, ds, is, as, ⟨r, rr, _⟩, h, a, c => by
    simp only [argD] at h
    split at h
    · rename_i d' p q1 q
      cases h
      simp only [apart, Bool.and_eq_true] at c
      refine .bor ?_ (argD_args E0 ho hio rr q a c.2)
      have r' : σ[i]? = some (some v) := r
      simp only [peek] at q1
      split at q1
      · rename_i d q2; cases q1; obtain ⟨w, e1, e2⟩ := E0.at_ i _ q2; rw [r'] at e1; cases e1; exact .inl e2
      · rename_i d q2; cases q1; obtain ⟨w, e1, e2⟩ := E0.at_ i _ q2; rw [r'] at e1; cases e1
        rcases e2 with e2 | ⟨b, o, e2, e3, e4, e5, _⟩
        · exact .inl e2
        · refine .inr ⟨b, o, e2, e3, e4, fun z => ?_⟩
          obtain ⟨j, k1, k2⟩ := hio b z
          obtain ⟨m, x, k3⟩ := ho j k1
          exact e5 ⟨j, m, x, k3, k2⟩
      · rename_i m d q2; cases q1; obtain ⟨b, o, e1, e2, e3, _⟩ := E0.at_ i _ q2; rw [r'] at e1; cases e1
        refine .inr ⟨b, o, rfl, e2, e3, fun z => ?_⟩
        obtain ⟨j, k1, k2⟩ := hio b z
        obtain ⟨m', x, k3⟩ := ho j k1
        have e := E0.inj _ _ _ _ _ _ _ q2 k3 r' k2
        subst e
        simp [k1] at c
      · cases q1
    · cases h
  | .io :: ms, .s i :: rs, v :: vs, ds, is, as, ⟨r, rr, _⟩, h, a, c => by
    simp only [argD] at h
    split at h
    · rename_i m d p q1 q
      split at h
      · cases h
        cases a with
        | cons e1 a =>
          have r' : σ[i]? = some (some v) := r
          rw [r'] at e1; cases e1
          obtain ⟨b, o, e, h1, h2, h3, _⟩ := E0.at_ i _ q1
          rw [r'] at e; cases e
          exact .io ⟨o, h1, h2, h3⟩ (argD_args E0 ho hio rr q a (by simpa [apart] using c))
      · cases h
    · cases h
  | _ :: _, _ :: _, [], ds, is, as, h, _, _, _ => h.elim
  | [], [], _ :: _, ds, is, as, h, _, _, _ => h.elim
  | .val :: ms, [], _, ds, is, as, _, h, _, _ => by simp [argD] at h
  | .bor :: ms, [], _, ds, is, as, _, h, _, _ => by simp [argD] at h
  | .io :: ms, [], _, ds, is, as, _, h, _, _ => by simp [argD] at h
  | [], _ :: _, _, ds, is, as, _, h, _, _ => by simp [argD] at h
  | .val :: ms, .t _ :: rs, _, ds, is, as, _, h, _, _ => by simp [argD] at h
  | .val :: ms, .s _ :: rs, _, ds, is, as, _, h, _, _ => by simp [argD] at h
  | .io :: ms, .v _ :: rs, _, ds, is, as, _, h, _, _ => by simp [argD] at h
  | .io :: ms, .t _ :: rs, _, ds, is, as, _, h, _, _ => by simp [argD] at h
theorem setIo_get : ∀ {is : List Nat} {ds : List D} {L L' : LS}, setIo L is ds = some L' → is.Nodup → L'.length = L.length ∧ ∀ (i : Nat) s, L'[i]? = some s →
    (i ∉ is ∧ L[i]? = some s) ∨ ∃ (k : Nat) (m : Md) (d e : D), is[k]? = some i ∧ L[i]? = some (.obj m d) ∧ ds[k]? = some e ∧ s = .obj m e
  | [], [], L, L', h, _ => by cases h; exact ⟨rfl, fun i s k => .inl ⟨by simp, k⟩⟩
  | j :: is, d :: ds, L, L', h, nd => by
    simp only [setIo] at h
    split at h
    · rename_i m x q
      obtain ⟨n1, n2⟩ := List.nodup_cons.mp nd
      obtain ⟨h1, h2⟩ := setIo_get h n2
      refine ⟨by rw [h1, List.length_set], fun i s k => ?_⟩
      have hj : j < L.length := (List.getElem?_eq_some_iff.mp q).1
      rcases h2 i s k with ⟨k1, k2⟩ | ⟨t, m', d', e, k1, k2, k3, k4⟩
      · by_cases c : j = i
        · subst c
          rw [List.getElem?_set_self hj] at k2; cases k2
          exact .inr ⟨0, m, x, d, rfl, q, rfl, rfl⟩
        · rw [List.getElem?_set_ne c] at k2
          exact .inl ⟨by simp [k1, Ne.symm c], k2⟩
      · by_cases c : j = i
        · subst c
          exact absurd (List.mem_of_getElem? k1) n1
        · rw [List.getElem?_set_ne c] at k2
          exact .inr ⟨t + 1, m', d', e, by simpa using k1, k2, by simpa using k3, k4⟩
    · cases h
  | [], _ :: _, L, L', h, _ => by cases h
  | _ :: _, [], L, L', h, _ => by cases h
theorem Ats.get : ∀ {is : List Nat} {as : List Addr} {k i : Nat}, Ats σ is as → is[k]? = some i → ∃ a, as[k]? = some a ∧ σ[i]? = some (some (.ref a))
  | _, _, k, i, .nil, h => by simp at h
  | _, _, 0, i, .cons e _, h => by simp at h; subst h; exact ⟨_, rfl, e⟩
  | _, _, k + 1, i, .cons _ q, h => by
    obtain ⟨a, h1, h2⟩ := q.get (k := k) (i := i) (by simpa using h)
    exact ⟨a, by simpa using h1, h2⟩
theorem Outs.get {K : PySem.W.Frag} : ∀ {as : List Addr} {ds : List D} {k : Nat} {a : Addr} {d : D}, Outs K H G as ds → as[k]? = some a → ds[k]? = some d → IoOk K H G a d
  | _, _, k, a, d, .nil, h, _ => by simp at h
  | _, _, 0, a, d, .cons e _, h, h' => by simp at h h'; subst h h'; exact e
  | _, _, k + 1, a, d, .cons _ q, h, h' => q.get (k := k) (by simpa using h) (by simpa using h')
theorem ats_nodup : ∀ {is : List Nat} {as : List Addr}, Ats σ is as → is.Nodup → (∀ i ∈ is, ∃ m d, L[i]? = some (.obj m d)) → (∀ (i j : Nat) (m n : Md) (d e : D) (a : Addr), L[i]? = some (.obj m d) → L[j]? = some (.obj n e) → σ[i]? = some (some (.ref a)) → σ[j]? = some (some (.ref a)) → i = j) → as.Nodup
  | _, _, .nil, _, _, _ => by simp
  | _, _, .cons e q, nd, ho, inj => by
    obtain ⟨n1, n2⟩ := List.nodup_cons.mp nd
    refine List.nodup_cons.mpr ⟨fun z => ?_, ats_nodup q n2 (fun i hi => ho i (by simp [hi])) inj⟩
    obtain ⟨j, h1, h2⟩ := q.mem z
    obtain ⟨m, d, k1⟩ := ho _ List.mem_cons_self
    obtain ⟨m', d', k2⟩ := ho j (by simp [h1])
    have := inj _ _ _ _ _ _ _ k1 k2 e h2
    subst this
    exact n1 h1
/-- the slots behind a call -/
theorem after_ok (E0 : EnvOk B L σ H G) {is : List Nat} {as : List Addr} {outs : List D} {L' : LS} {H' G' : Hp} (ho : ∀ i ∈ is, ∃ m d, m.wr = true ∧ L[i]? = some (.obj m d)) (nd : is.Nodup) (at_ : Ats σ is as)
    (A : After B.K H G as outs H' G') (hs : setIo L is outs = some L') : EnvOk B L' σ H' G' ∧ Stp L σ H G L' H' G' := by
  obtain ⟨hl, hg⟩ := setIo_get hs nd
  have own : ∀ (i : Nat) m d, L'[i]? = some (.obj m d) → ∃ e, L[i]? = some (.obj m e) := fun i m d h => by
    rcases hg i _ h with ⟨_, k⟩ | ⟨k, m', d', e, k1, k2, k3, k4⟩
    · exact ⟨d, k⟩
    · cases k4; exact ⟨d', k2⟩
  have obj : ∀ a, ObjAt L' σ a → ObjAt L σ a := fun a ⟨i, m, d, h1, h2⟩ => let ⟨e, q⟩ := own i m d h1; ⟨i, m, e, q, h2⟩
  have ioObj : ∀ a ∈ as, ObjAt L σ a ∧ WrAt L σ a := fun a h => by
    obtain ⟨i, h1, h2⟩ := at_.mem h
    obtain ⟨m, d, w, h3⟩ := ho i h1
    exact ⟨⟨i, m, d, h3, h2⟩, i, m, d, w, h3, h2⟩
  have gno : ∀ a, H a ≠ none → G a = none → G' a = none := fun a h g => by
    cases q : G' a with
    | none => rfl
    | some u =>
      rcases A.new a u q with k | k
      · rw [g] at k; cases k
      · exact absurd k h
  have ne : ∀ (i : Nat) s a, i ∉ is → L[i]? = some s → (∃ m d, s = .obj m d) → σ[i]? = some (some (.ref a)) → a ∉ as := fun i s a hi h ⟨m, d, e⟩ hσ z => by
    obtain ⟨j, h1, h2⟩ := at_.mem z
    obtain ⟨m', d', _, h3⟩ := ho j h1
    subst e
    have := E0.inj _ _ _ _ _ _ _ h h3 hσ h2
    subst this
    exact hi h1
  refine ⟨⟨by rw [hl]; exact E0.len, A.sub, fun a o h => A.gsub a o (E0.old a o h), fun a o h => ?_, fun a o h n => ?_, fun a h => A.dom a (E0.dom a h), fun i s h => ?_, fun i j m n d e a h1 h2 => ?_⟩, ⟨A.gsub, fun a o h => (A.new a o h).elim .inl fun k => .inr (.inl k), fun a o h n => A.keep a o h fun z => n (ioObj a z).2, A.dom, own⟩⟩
  · rcases A.new a o h with k | k
    · exact E0.new a o k
    · refine .inr ?_
      cases q : B.H0 a with
      | none => rfl
      | some u => exact absurd k (E0.dom a (some_ne q))
  · refine A.keep a o (E0.keep a o h n) fun z => ?_
    obtain ⟨i, h1, h2⟩ := at_.mem z
    obtain ⟨m, d, w, h3⟩ := ho i h1
    obtain ⟨b, u, e1, e2, e3, e4, e5⟩ := E0.at_ i _ h3
    rw [h2] at e1; cases e1
    cases m with
    | own => rw [show B.H0 a = none from e5] at h; cases h
    | io k => exact n (List.mem_of_getElem? (show B.io[k]? = some a from e5))
    | lock => cases w
    | iolock _ => cases w
  · rcases hg i s h with ⟨hi, k⟩ | ⟨k, m, d, e, k1, k2, k3, rfl⟩
    · have q := E0.at_ i s k
      cases s with
      | un => trivial
      | val d => obtain ⟨v, e, r⟩ := q; exact ⟨v, e, r.mono A.gsub⟩
      | bor d =>
        obtain ⟨v, e, r⟩ := q
        refine ⟨v, e, ?_⟩
        rcases r with r | ⟨a, o, q1, q2, q3, q4, q5⟩
        · exact .inl (r.mono A.gsub)
        · exact .inr ⟨a, o, q1, A.keep a o q2 fun z => q4 (ioObj a z).1, q3.mono A.gsub, fun z => q4 (obj a z), q5⟩
      | obj m d =>
        obtain ⟨a, o, e, q1, q2, q3, q4⟩ := q
        exact ⟨a, o, e, A.keep a o q1 (ne i _ a hi k ⟨m, d, rfl⟩ e), q2.mono A.gsub, gno a (some_ne q1) q3, q4⟩
    · obtain ⟨a, e1, e2⟩ := at_.get k1
      obtain ⟨o, q1, q2, q3⟩ := A.outs.get e1 k3
      obtain ⟨b, u, p1, p2, p3, p4, p5⟩ := E0.at_ i _ k2
      rw [e2] at p1; cases p1
      exact ⟨a, o, e2, q1, q2, q3, p5⟩
  · obtain ⟨e1, q1⟩ := own _ _ _ h1
    obtain ⟨e2, q2⟩ := own _ _ _ h2
    exact E0.inj _ _ _ _ _ _ _ q1 q2
end
section
variable {X : Cx} {E : XK} {e a b c : Expr} {es : List Expr} {pos : Pos} {f fa fb fc : DE}
theorem da_fcons {g : DA} (ha : DEx X E e f) (hr : DLx X E es g) (hs : starEach (e :: es) X.env = (false, eval e X.env) :: starEach es X.env := by rfl) : DLx X E (e :: es) (dAFCons f g) :=
  PA.imp (pa_cons ha hr hs) fun σ H Q ⟨B, L, G, hK, E0, P⟩ => ⟨B, L, G, hK, E0, PostG.next P .refl fun r1 L1 v1 H1 G1 S1 E1 R1 P1 => by
    split at P1
    · rename_i d L1' h
      obtain ⟨G1', S1', E1', rp⟩ := fz_ok E0 E1 S1 R1 h
      exact ⟨B, L1', G1', hK, E1', PostG.next P1 S1' fun rs L2 vs H2 G2 S2 E2 R2 P2 => P2 _ H2 G2 (S1'.trans S2) E2 ⟨rp.mono S2.gsub, RRL.base S1'.dom R2, fun d hd => by cases hd⟩⟩
    · exact P1.elim⟩
theorem call_ok {ms : List Pm} {m : Mir} {B : Bs} {L L2 : LS} {σ : St} {H G H2 G2 Ha : Hp} {vs : List V} {rs : List R} {Q : VK}
    (P : PostG (relR B.K H σ) B L σ H G (callR ms m rs L2) Q E) (S : Stp L σ H G L2 H2 G2) (E2 : EnvOk B L2 σ H2 G2) (R1 : RRL B.K Ha L2 σ H2 G2 vs rs) : spD B.K ms m vs H2 Q E := by
  unfold callR at P
  split at P
  · rename_i p hp
    obtain ⟨ds, is⟩ := p
    split at P
    · rename_i c
      obtain ⟨ho, nd, as, hat⟩ := argD_ats E2 hp
      have ho' : ∀ i ∈ is, ∃ m d, L2[i]? = some (.obj m d) := fun i hi => let ⟨m, d, _, q⟩ := ho i hi; ⟨m, d, q⟩
      have A := argD_args E2 ho' (fun a ha => hat.mem ha) R1 hp hat c
      refine ⟨G2, ds, as, E2.sub, A, ats_nodup hat nd ho' E2.inj, ?_⟩
      simp only at P
      split at P
      · rename_i fr d outs hm
        try rw [hm]
        split at P
        · rename_i L' hs
          intro v H' G' Af Rs
          obtain ⟨E', S'⟩ := after_ok E2 ho nd hat Af hs
          refine P v H' G' (S.trans S') E' ?_
          cases fr with
          | false => exact Rs
          | true =>
            obtain ⟨a, o, e, h1, h2, h3, h4⟩ := Rs
            refine ⟨a, o, e, h1, h2, h3, ?_, fun z => ?_⟩
            · cases q : H a with
              | none => rfl
              | some u => exact absurd h4 (S.dom a (some_ne q))
            · obtain ⟨i, m, x, k1, k2⟩ := S'.objs z
              obtain ⟨b, u, q1, q2, _⟩ := E2.at_ i _ k1
              rw [k2] at q1; cases q1
              rw [h4] at q2; cases q2
        · exact P.elim
      · rename_i x outs hm
        try rw [hm]
        split at P
        · rename_i L' hs
          intro C dx H' G' Af Rs
          obtain ⟨E', S'⟩ := after_ok E2 ho nd hat Af hs
          exact P C dx H' G' (S.trans S') E' Rs
        · exact P.elim
      · exact P.elim
    · exact P.elim
  · exact P.elim
theorem de_call {CX : CXT} {k : Nat} {ff : Addr} {fd : FuncData} {ps : List Str} {ms : List Pm} {m : Mir} {x : Str} {p : Pos} {as : DA} (F : FnOk X.prog X.w X.K X.mg X.base CX k ff fd ps (spD X.K ms m)) (hr : Room k X.A) (hg : Gl X x) (hm : X.mg x = some (.ref ff)) (hk : PySem.W.keepIn X.K (.ref ff) = true) (hb : Binds X.K fd ps [])
    (hx : Passes CX X E) (ha : DLx X E (e :: es) as) (hdb : (x == ("__debug__" : Str)) = false := by decide) (he : starEach (e :: es) X.env = (false, eval e X.env) :: starEach es X.env := by rfl) (hpl : (backTo pos (starEach es X.env)).any (·.1) = false := by rfl) :
    DEx X E (.Call (.Name x p) (e :: es) [] pos) (dFn ms m as) := PE.imp (pe_call F hr hg hm hk hb .nil hx ha hdb he hpl) fun σ H Q ⟨B, L, G, hK, E0, P⟩ =>
  ⟨B, L, G, hK, E0, PostG.next P .refl fun rs L1 vs H1 G1 S1 E1 R1 P1 => by
    rw [List.append_nil, ← hK]
    exact call_ok P1 S1 E1 R1⟩
/-- a def at level 0 promises nothing -/
theorem FnOk.none {P : Program} {w : World} {K : PySem.W.Frag} {mg : Str → Option Value} {base : Heap} {CX : CXT} {k : Nat} {f : Addr} {fd : FuncData} {ps : List Str} {ms : List Pm} : FnOk P w K mg base CX k f fd ps (spD K ms fun _ => .stuck) :=
  ⟨fun vs H Q E h => by obtain ⟨_, _, _, _, _, _, h⟩ := h; exact h.elim, fun A outer s H args us vs Q E hr he hb hv h => by obtain ⟨_, _, _, _, _, _, h⟩ := h; exact h.elim⟩
end
end DV
end
section
set_option Elab.async false
set_option linter.all false
set_option maxRecDepth 100000
set_option maxHeartbeats 4000000
namespace DV
open PySem PySem.Spec PyProof.Rows L2

/-! ### slices with a step, of lists -/
def pickG {α : Type} (xs : List α) (lo hi st : Option Int) : List α :=
  (PySem.sliceRange (PySem.sliceBounds lo hi st xs.length).1 (PySem.sliceBounds lo hi st xs.length).2.1 (PySem.sliceBounds lo hi st xs.length).2.2).filterMap fun (i : Nat) => xs[i]?
theorem Vals.picks {vs : List V} {us : List Value} (r : Vals vs us) : ∀ ns : List Nat, Vals (ns.filterMap fun i => vs[i]?) (ns.filterMap fun i => us[i]?)
  | [] => .nil
  | n :: ns => by
    rw [List.filterMap_cons, List.filterMap_cons]
    cases q : vs[n]? with
    | none => rw [r.none_of q]; exact Vals.picks r ns
    | some v => obtain ⟨u, h1, h2⟩ := r.get q; rw [h1]; exact .cons h2 (Vals.picks r ns)
theorem Rps.picks {K : PySem.W.Frag} {G : Hp} {vs : List V} {ds : List D} (r : Rps K G vs ds) : ∀ ns : List Nat, Rps K G (ns.filterMap fun i => vs[i]?) (ns.filterMap fun i => ds[i]?)
  | [] => .nil
  | n :: ns => by
    rw [List.filterMap_cons, List.filterMap_cons]
    cases q : vs[n]? with
    | none =>
      have e : ds[n]? = none := by
        rw [List.getElem?_eq_none_iff] at q ⊢
        rw [← r.length]; exact q
      rw [e]; exact Rps.picks r ns
    | some v => obtain ⟨u, h1, h2⟩ := r.get' q; rw [h1]; exact .cons h2 (Rps.picks r ns)
theorem pickG_vals {vs : List V} {us : List Value} (r : Vals vs us) (lo hi st : Option Int) : Vals (pickG vs lo hi st) (slicePick us.toArray lo hi st).toList := by
  have e : (slicePick us.toArray lo hi st).toList = pickG us lo hi st := by
    unfold slicePick pickG
    simp
  rw [e]
  unfold pickG
  rw [Vals.length r]
  exact Vals.picks r _
theorem Rps.pickG {K : PySem.W.Frag} {G : Hp} {vs : List V} {ds : List D} (r : Rps K G vs ds) (lo hi st : Option Int) : Rps K G (DV.pickG vs lo hi st) (DV.pickG ds lo hi st) := by
  unfold DV.pickG
  rw [r.length]
  exact r.picks _
def gSl3 (d : D) (lo hi st : Option Int) : Option R := match d with
  | .lst xs => if decide (st ≠ some 0) = true then some (.t (.lst (pickG xs lo hi st))) else none
  | _ => none
def dSl3 (fa : DE) (fl fh fs : LS → Rs (Option Int)) : DE := fun L => (fa L).bind fun r L1 => (fl L1).bind fun lo L2 => (fh L2).bind fun hi L3 => (fs L3).bind fun st L4 => match peek L4 r with
  | some d => match gSl3 d lo hi st with
    | some res => .ok res L4
    | none => .stuck
  | none => .stuck
def tSl3 (K : PySem.W.Frag) (te : TE) (tl th ts : TO) : TE := fun σ H Q => te σ H fun x H1 => tl σ H1 fun lo H2 => th σ H2 fun hi H3 => ts σ H3 fun st H4 => ∃ a xs, x = .ref a ∧ SqL K H4 a xs ∧ st ≠ some 0 ∧ ∀ p, H4 p = none → Q (.ref p) (upd H4 p (.lst (pickG xs lo hi st)))
section
variable {X : Cx} {E : XK} {e a b c tg : Expr} {es : List Expr} {pos : Pos} {f fa fb fc : DE}
theorem pe_sl3 {lo hi st : Option Expr} {te : TE} {tl th ts : TO} {p3 : Pos} (he : PE X e te) (hl : PO X lo tl) (hh : PO X hi th) (hs : PO X st ts) (hst : st.isSome = true := by rfl) (hsub : ∀ o i, subscripted (.Slice lo hi st p3) false o i = operate [o, i] (getItem o i) := by with_unfolding_all (intro _ _; rfl)) : PE X (.Subscript e (.Slice lo hi st p3) pos) (tSl3 X.K te tl th ts) := by
  refine ⟨fun pins s σ H Q I h => ?_⟩
  refine Subscript_ (thn (he.run pins s σ H _ I h) fun v s1 ⟨x, H1, I1, r1, q1⟩ => ?_)
  refine wpAny_Slice (thn (hl.run pins s1 σ H1 _ I1 q1) fun vl s2 ⟨l, H2, I2, pl, q2⟩ => ?_)
  refine thn (hh.run pins s2 σ H2 _ I2 q2) fun vu s3 ⟨u, H3, I3, pu, q3⟩ => ?_
  refine thn (hs.run pins s3 σ H3 _ I3 q3) fun vs s4 ⟨o, H4, I4, ps, q4⟩ => ?_
  obtain ⟨a, xs, ex, hx, h0, q⟩ := q4
  subst ex
  cases r1
  have I5 : Inv X pins σ H4 { s4 with heap := s4.heap.push { cls := .type "slice", data := .fields #[vl, vu, vs] } } := I4.kept (t' := s4.toks) fun b ob q => Heap.get?_push_of_some _ q
  obtain ⟨its, r, ht, hz⟩ := I5.list hx
  have hlen := r.length
  show wpAny (model X.prog X.w) X.A (subscriptTail e (.Slice lo hi st p3) (.ref a) (.ref s4.heap.objs.size)) (EP X pins σ Q) X.xe { s4 with heap := s4.heap.push { cls := .type "slice", data := .fields #[vl, vu, vs] } }
  refine tail_any (ops := [.ref a, .ref s4.heap.objs.size]) ht.isList.typeIs (PySem.slot_list_getitem.lookup) ?_ (hsub _ _)
  refine wpAny_getItem_list_slice ht.isList (Heap.IsSliceOf.new _ vl vu vs) pl pu ps h0 ?_ (by rw [List.size_toArray]; omega)
  have rp := pickG_vals r l u o
  refine ⟨.ref _, _, I5.laid (t' := s4.toks) (o := .lst (pickG xs l u o)) (fun b ob q => Heap.get?_push_of_some _ q) (Nat.le_refl _) ?_, rfl, q _ (I5.hok.fresh (Nat.le_refl _))⟩
  refine ⟨?_, _, 0, rp, by rw [Array.toArray_toList]; exact Heap.get?_push_size _ rfl⟩
  have h1 := rp.length
  have h2 := slicePick_size_le its.toArray l u o
  simp only [Array.length_toList, List.size_toArray] at h1 h2
  omega
theorem de_sl3 {lo hi st : Option Expr} {p2 : Pos} {fl fh fs : LS → Rs (Option Int)} (ha : DEx X E a fa) (hl : DOx X E lo fl) (hh : DOx X E hi fh) (hs : DOx X E st fs) (hst : st.isSome = true := by rfl) (hsub : ∀ o i, subscripted (.Slice lo hi st p2) false o i = operate [o, i] (getItem o i) := by with_unfolding_all (intro _ _; rfl)) : DEx X E (.Subscript a (.Slice lo hi st p2) pos) (dSl3 fa fl fh fs) :=
  PE.imp (pe_sl3 ha hl hh hs hst hsub) fun σ H Q ⟨B, L, G, hK, E0, P⟩ =>
  ⟨B, L, G, hK, E0, PostG.next P .refl fun r1 L1 v1 H1 G1 S1 E1 R1 P1 => ⟨B, L1, G1, hK, E1, PostG.next P1 S1 fun l1 L2 l2 H2 G2 S2 E2 R2 P2 => ⟨B, L2, G2, hK, E2, PostG.next P2 (S1.trans S2) fun h1 L3 h2 H3 G3 S3 E3 R3 P3 => ⟨B, L3, G3, hK, E3, PostG.next P3 ((S1.trans S2).trans S3) fun s1 L4 s2 H4 G4 S4 E4 R4 P4 => by
    have el : l2 = l1 := R2
    have eh : h2 = h1 := R3
    have es : s2 = s1 := R4
    subst el eh es
    have S04 := ((S1.trans S2).trans S3).trans S4
    have R1' := ((S2.trans S3).trans S4).rr R1
    split at P4
    · rename_i d p
      split at P4
      · rename_i res hg
        have q := peek_ok E4 R1' p
        unfold gSl3 at hg
        split at hg
        · split at hg
          · rename_i c
            cases hg
            obtain ⟨a, vs, rfl, ha, ra⟩ := q.lst E4.sub
            refine ⟨a, vs, rfl, .of ha, of_decide_eq_true c, fun p hp => ?_⟩
            have rk := ra.pickG l2 h2 s2
            obtain ⟨E5, S5, R5⟩ := RR.fresh E4 hp (.lst rk)
            exact P4 _ _ G4 (S04.trans S5) E5 (RR.base S04.dom R5)
          · cases hg
        · cases hg
      · exact P4.elim
    · exact P4.elim⟩⟩⟩⟩
/-! ### list(range(..)) -/
def rgE (a b : Int) : List D := (List.range (b - a).toNat).map fun i => D.int (a + (i : Nat))
theorem rps_rg {K : PySem.W.Frag} {G : Hp} {a b : Int} : Rps K G (rgV a b) (rgE a b) := by
  unfold rgV rgE
  generalize (List.range (b - a).toNat) = l
  induction l with
  | nil => exact .nil
  | cons x l ih => exact .cons (.int _) ih
def rgEok (a b : Int) : Bool := rgOk a && rgOk b && decide ((b - a).toNat ≤ 1000000)
def dLRg1 (fa : DE) : DE := fun L => (fa L).bind fun r L1 => match peek L1 r with
  | some (.int b) => if rgEok 0 b = true then .ok (.t (.lst (rgE 0 b))) L1 else .stuck
  | _ => .stuck
def dLRg2 (fa fb : DE) : DE := fun L => (fa L).bind fun r L1 => (fb L1).bind fun r2 L2 => match peek L2 r, peek L2 r2 with
  | some (.int a), some (.int b) => if rgEok a b = true then .ok (.t (.lst (rgE a b))) L2 else .stuck
  | _, _ => .stuck
theorem rgEok_ok {a b : Int} (h : rgEok a b = true) : RgOk a b := by
  unfold rgEok at h
  simp only [Bool.and_eq_true, decide_eq_true_eq] at h
  obtain ⟨h1, h2⟩ := rgOk_ok h.1.1
  obtain ⟨h3, h4⟩ := rgOk_ok h.1.2
  exact ⟨h1, h2, h3, h4, by omega⟩
theorem de_lrg1 {p p2 pos2 : Pos} (hc : X.calm = true) (hg : Gl X "list") (hm : X.mg "list" = none) (hg2 : Gl X "range") (hm2 : X.mg "range" = none) (ha : DEx X E a fa) (na : starEach [a] X.env = (false, eval a X.env) :: starEach [] X.env := by rfl)
    (nb : starEach [Expr.Call (.Name "range" p2) [a] [] pos2] X.env = (false, eval (.Call (.Name "range" p2) [a] [] pos2) X.env) :: starEach [] X.env := by rfl) : DEx X E (.Call (.Name "list" p) [.Call (.Name "range" p2) [a] [] pos2] [] pos) (dLRg1 fa) :=
  PE.imp (pe_listRg hc hg hm (prg_1 hg2 hm2 ha na) nb) fun σ H Q ⟨B, L, G, hK, E0, P⟩ => ⟨B, L, G, hK, E0, PostG.next P .refl fun r1 L1 v1 H1 G1 S1 E1 R1 P1 => by
    split at P1
    · rename_i b p
      split at P1
      · rename_i c
        refine ⟨b, (peek_ok E1 R1 p).int, rgEok_ok c, fun q hq => ?_⟩
        obtain ⟨E2, S2, R2⟩ := RR.fresh E1 hq (.lst rps_rg)
        exact P1 _ _ G1 (S1.trans S2) E2 (RR.base S1.dom R2)
      · exact P1.elim
    · exact P1.elim⟩
theorem de_lrg2 {p p2 pos2 : Pos} (hc : X.calm = true) (hg : Gl X "list") (hm : X.mg "list" = none) (hg2 : Gl X "range") (hm2 : X.mg "range" = none) (ha : DEx X E a fa) (hb : DEx X E b fb) (na : starEach [a, b] X.env = (false, eval a X.env) :: starEach [b] X.env := by rfl)
    (nb : starEach [b] X.env = (false, eval b X.env) :: starEach [] X.env := by rfl) (hp : (backTo pos2 (starEach [b] X.env)).any (·.1) = false := by rfl)
    (nc : starEach [Expr.Call (.Name "range" p2) [a, b] [] pos2] X.env = (false, eval (.Call (.Name "range" p2) [a, b] [] pos2) X.env) :: starEach [] X.env := by rfl) : DEx X E (.Call (.Name "list" p) [.Call (.Name "range" p2) [a, b] [] pos2] [] pos) (dLRg2 fa fb) :=
  PE.imp (pe_listRg hc hg hm (prg_2 hg2 hm2 ha hb na nb hp) nc) fun σ H Q ⟨B, L, G, hK, E0, P⟩ => ⟨B, L, G, hK, E0, PostG.next P .refl fun r1 L1 v1 H1 G1 S1 E1 R1 P1 => ⟨B, L1, G1, hK, E1, PostG.next P1 S1 fun r2 L2 v2 H2 G2 S2 E2 R2 P2 => by
    split at P2
    · rename_i a b p q
      split at P2
      · rename_i c
        refine ⟨a, b, (peek_ok E2 (S2.rr R1) p).int, (peek_ok E2 R2 q).int, rgEok_ok c, fun q hq => ?_⟩
        obtain ⟨E3, S3, R3⟩ := RR.fresh E2 hq (.lst rps_rg)
        exact P2 _ _ G2 ((S1.trans S2).trans S3) E3 (RR.base (S1.trans S2).dom R3)
      · exact P2.elim
    · exact P2.elim⟩⟩
/-! ### stores -/
def gStore (d : D) (i : D) (y : D) : Option D := match d, i with
  | .lst xs, .int k => (ixN xs.length k).map fun j => .lst (xs.set j y)
  | _, _ => none
/-- x[i] = e: the value, the object, the index -/
def dStore (fe fo fi : DE) : DS := fun L => (fe L).fl fun r L1 => match fz L1 r with
  | some (y, L2) => (fo L2).fl fun ro L3 => (fi L3).fl fun ri L4 => match ro, peek L4 ri with
    | .s j, some i => match L4[j]? with
      | some (.obj m d) => if m.wr = true then match gStore d i y with
        | some d' => .nx (L4.set j (.obj m d'))
        | none => .stuck
        else .stuck
      | _ => .stuck
    | _, _ => .stuck
  | none => .stuck
theorem ds_store {o i : Expr} {fe fo fi : DE} {p2 : Pos} (he : DEx X E e fe) (ho : DEx X E o fo) (hi : DEx X E i fi)
    (ha : ∀ v, assign (.Subscript o i p2) X.env v = (do
      let ov ← holding [v] (eval o X.env)
      let iv ← holding [v, ov] (eval i X.env)
      standAt p2
      holding [v, ov, iv] (setItem ov iv v)
      release [v, ov, iv] []) := by intro _; rfl)
    (hs : swapsWithSole [.Subscript o i p2] e pos.line X.env = pure false := by rfl) (hw : swappedStores [.Subscript o i p2] e X.env = pure none := by rfl)
    (h1 : (assignEach [.Subscript o i p2] X.env).map (·.2) = [assign (.Subscript o i p2) X.env] := by rfl) : DSx X E (.Assign [.Subscript o i p2] e pos) (dStore fe fo fi) :=
  PS.imp (ps_asg he (pg_sub ho hi set_list ha) hs hw h1) fun D σ H ⟨B, L, G, hK, E0, P⟩ =>
  ⟨B, L, G, hK, E0, PostS.next P fun r1 L1 v1 H1 G1 S1 E1 R1 P1 => by
    split at P1
    · rename_i y L2 h
      obtain ⟨G2, S2, E2, ry, g2⟩ := fz_ok2 E0 E1 S1 R1 h
      refine ⟨B, L2, G2, hK, E2, PostS.next (PostS.mono P1 g2) fun ro L3 v3 H3 G3 S3 E3 R3 P3 => ⟨B, L3, G3, hK, E3, PostS.next P3 fun ri L4 v4 H4 G4 S4 E4 R4 P4 => ?_⟩⟩
      split at P4
      · rename_i j i pi
        split at P4
        · rename_i m d q
          split at P4
          · rename_i hm
            split at P4
            · rename_i d' hg
              have rj : σ[j]? = some (some v3) := R3
              obtain ⟨a, o, e1, e2, e3, e4, e5⟩ := E4.at_ j _ q
              rw [rj] at e1; cases e1
              have q4 := peek_ok E4 R4 pi
              unfold gStore at hg
              split at hg
              · rename_i xs k
                rw [Option.map_eq_some_iff] at hg
                obtain ⟨n, hn, rfl⟩ := hg
                cases e3 with | lst rs =>
                refine ⟨a, _, k, n, rfl, q4.int, e2, by rw [rs.length]; exact hn, ?_⟩
                obtain ⟨E5, S5⟩ := E4.write hm q rj (Ob.lst (Rps.set (ry.mono (GSub.trans S3.gsub S4.gsub)) n rs))
                exact P4 σ _ G4 .refl E5
              · cases hg
            · exact P4.elim
          · exact P4.elim
        · exact P4.elim
      · exact P4.elim
    · exact P1.elim⟩
end
/-! ### defs by name -/
def LkF (K : PySem.W.Frag) (f : Addr) (fd : FuncData) : Prop := ∃ oc od osl, K.lookup f = some ⟨oc, od, .func fd, osl⟩
theorem LkF.uniq {K : PySem.W.Frag} {f : Addr} {fd fd' : FuncData} (h : LkF K f fd) (k : LkF K f fd') : fd = fd' := by
  obtain ⟨a, b, c, h⟩ := h
  obtain ⟨a', b', c', k⟩ := k
  rw [h] at k
  cases k
  rfl
theorem LkF.of {K : PySem.W.Frag} {x q : Str} {ar : Arguments} {bo : List Stmt} {sc : Scope} {dv : List V} {kw : List (Str × V)} {f : Addr} {fd : FuncData} (F : FunD K x q ar bo sc dv kw f fd) : LkF K f fd := by
  obtain ⟨oc, od, dV, kV, doc, pm, an, cdv, ct, osl, rfl, lk, _⟩ := F.ex
  exact ⟨_, _, _, lk⟩
structure Callee (P : Program) (w : World) (K : PySem.W.Frag) (mg : Str → Option Value) (base : Heap) (k : Nat) (x : Str) (ps : List Str) (ms : List Pm) (m : Mir) : Prop where
  g : mg x = some (.ref (He.ga K x))
  ex : ∃ fd, PySem.W.keepIn K (.ref (He.ga K x)) = true ∧ Binds K fd ps [] ∧ FnOk P w K mg base CX0 k (He.ga K x) fd ps (spD K ms m) ∧ LkF K (He.ga K x) fd
/-- how the arguments of a def without defaults bind -/
def BindP (x : Str) (params : Arguments) (body : List Stmt) (scope : Scope) (ps : List Str) : Prop :=
  ∀ (kV doc pm : Value) (an : Option Addr) (cdv ct : Value) (us : List Value), us.length = ps.length → bindArgs (PySem.W.fnOf x x params body scope .none kV doc pm an cdv ct) ⟨us, []⟩ = pure (ps.zip us)
section
variable {P : Program} {w : World} {K : PySem.W.Frag} {mg : Str → Option Value} {base : Heap}
theorem Callee.mk' {x : Str} {st : Stmt} {fd : FuncData} {N ps : List Str} {k : Nat} {ms : List Pm} {g : DS} (F : FunD K x x (defArgs st) (defBody st) (defScope st) [] [] (He.ga K x) fd) (hg : mg x = some (.ref (He.ga K x))) (S : FnScope N ps (defScope st)) (hb : BindP x (defArgs st) (defBody st) (defScope st) ps) (hl : ms.length = ps.length) (hn : ms.length ≤ N.length)
    (hbody : ∀ (cdv : Value) (A : Around) (outer : List Env) (s : Shared) (H : Hp) (E : XK), Room k (A.deeper (envOfC x (defScope st) s.heap.objs.size (He.ga K x) cdv)) → DSsx (cxOf CX0 P w K mg base N x (defScope st) (He.ga K x) cdv A outer s H E).nox E0 (defBody st) g) :
    Callee P w K mg base (k + 1) x ps ms (noExc (runF ms N.length g)) := by
  refine ⟨hg, fd, F.kp, F.bindsN hb, F.ok S (fun vs H Q E h => ?_) (fun cdv A outer s H vs Q E hr h => ⟨_, PSs.nox (hbody cdv A outer s H E hr), ?_⟩), .of F⟩
  · obtain ⟨G, ds, ios, _, A, _⟩ := h
    rw [A.len, hl]
  · refine body_ok hn ?_
    obtain ⟨G, ds, ios, gs, A, nd, P⟩ := h
    refine ⟨G, ds, ios, gs, A, nd, ?_⟩
    unfold noExc at P
    cases q : runF ms N.length g ds with
    | ok fr d outs => rw [q] at P; exact P
    | exc e outs => rw [q] at P; exact P.elim
    | stuck => rw [q] at P; exact P
theorem Callee.zero {x : Str} {st : Stmt} {fd : FuncData} {ps : List Str} {k : Nat} {ms : List Pm} (F : FunD K x x (defArgs st) (defBody st) (defScope st) [] [] (He.ga K x) fd) (hg : mg x = some (.ref (He.ga K x))) (hb : BindP x (defArgs st) (defBody st) (defScope st) ps) : Callee P w K mg base k x ps ms (fun _ => .stuck) :=
  ⟨hg, fd, F.kp, F.bindsN hb, FnOk.none, .of F⟩
end
theorem de_fn {X : Cx} {e : Expr} {es : List Expr} {pos p : Pos} {k : Nat} {x : Str} {ps : List Str} {ms : List Pm} {m : Mir} {as : DA} (C : Callee X.prog X.w X.K X.mg X.base k x ps ms m) (hr : Room k X.A) (hg : Gl X x) (ha : DLx X E0 (e :: es) as)
    (hdb : (x == ("__debug__" : Str)) = false := by decide) (he : starEach (e :: es) X.env = (false, eval e X.env) :: starEach es X.env := by rfl) (hpl : (backTo pos (starEach es X.env)).any (·.1) = false := by rfl) : DEx X E0 (.Call (.Name x p) (e :: es) [] pos) (dFn ms m as) := by
  obtain ⟨fd, h1, h2, h3, _⟩ := C.ex
  exact de_call h3 hr hg C.g h1 h2 pass0 ha hdb he hpl
/-! ### op= of ints -/
abbrev gAddI : GOp := gII fun i j => .int (i + j)
theorem snd_ipadd {K : PySem.W.Frag} : OpSnd K (ipI fun i j => i + j) gAddI := snd_II fun _ _ => .int _
theorem snd_ipsub {K : PySem.W.Frag} : OpSnd K (ipI fun i j => i - j) gSub := snd_II fun _ _ => .int _
def mulOkS (i j : Int) : Bool := decide (i.natAbs < 2 ^ 64) || decide (j.natAbs < 2 ^ 64)
abbrev gMulS : GOp := gIC mulOkS fun i j => .int (i * j)
theorem snd_ipmul {K : PySem.W.Frag} : OpSnd K (rI CMul fun i j => .int (i * j)) gMulS := snd_IC (fun _ _ => .int _) fun i j h => by
  unfold mulOkS at h
  simp only [Bool.or_eq_true, decide_eq_true_eq] at h
  rcases h with h | h
  · exact .inl ⟨by omega, by omega⟩
  · exact .inr ⟨by omega, by omega⟩
def divOkS (_ j : Int) : Bool := decide (0 < j) && decide (j < 1000000000)
abbrev gFdivS : GOp := gIC divOkS fun i j => .int (i / j)
theorem snd_ipfdiv {K : PySem.W.Frag} : OpSnd K (rI CDiv fun i j => .int (i / j)) gFdivS := snd_IC (fun _ _ => .int _) fun i j h => by
  unfold divOkS at h
  simp only [Bool.and_eq_true, decide_eq_true_eq] at h
  exact ⟨h.1, by omega⟩
theorem dss_nop {X : Cx} {E : XK} : DSsx X E [] (fun L => .nx L) := dss_nil
abbrev dNop : DS := fun L => .nx L
end DV
end
section
set_option Elab.async false
set_option linter.all false
set_option maxRecDepth 100000
set_option maxHeartbeats 4000000
/-! more of the builtins: max and min of a list of ints, in, unpacking -/
namespace DV
open PySem PySem.Spec PyProof.Rows L2
variable {K : PySem.W.Frag}
def maxI (n : Int) (ns : List Int) : Int := ns.foldl (fun a b => if b > a then b else a) n
def minI (n : Int) (ns : List Int) : Int := ns.foldl (fun a b => if b < a then b else a) n
theorem maxI_ge : ∀ (ns : List Int) (n : Int), n ≤ maxI n ns ∧ (∀ y ∈ ns, y ≤ maxI n ns) ∧ (maxI n ns = n ∨ maxI n ns ∈ ns)
  | [], n => ⟨Int.le_refl _, by simp, .inl rfl⟩
  | m :: ns, n => by
    obtain ⟨h1, h2, h3⟩ := maxI_ge ns (if m > n then m else n)
    have e : maxI n (m :: ns) = maxI (if m > n then m else n) ns := rfl
    rw [e]
    refine ⟨?_, fun y hy => ?_, ?_⟩
    · split at h1 <;> split <;> omega
    · rcases List.mem_cons.mp hy with rfl | hy
      · split at h1 <;> split <;> omega
      · exact h2 y hy
    · rcases h3 with h3 | h3
      · by_cases c : m > n
        · rw [if_pos c] at h3 ⊢; exact .inr (by rw [h3]; simp)
        · rw [if_neg c] at h3 ⊢; exact .inl h3
      · exact .inr (List.mem_cons_of_mem _ h3)
theorem minI_le : ∀ (ns : List Int) (n : Int), minI n ns ≤ n ∧ (∀ y ∈ ns, minI n ns ≤ y) ∧ (minI n ns = n ∨ minI n ns ∈ ns)
  | [], n => ⟨Int.le_refl _, by simp, .inl rfl⟩
  | m :: ns, n => by
    obtain ⟨h1, h2, h3⟩ := minI_le ns (if m < n then m else n)
    have e : minI n (m :: ns) = minI (if m < n then m else n) ns := rfl
    rw [e]
    refine ⟨?_, fun y hy => ?_, ?_⟩
    · split at h1 <;> split <;> omega
    · rcases List.mem_cons.mp hy with rfl | hy
      · split at h1 <;> split <;> omega
      · exact h2 y hy
    · rcases h3 with h3 | h3
      · by_cases c : m < n
        · rw [if_pos c] at h3 ⊢; exact .inr (by rw [h3]; simp)
        · rw [if_neg c] at h3 ⊢; exact .inl h3
      · exact .inr (List.mem_cons_of_mem _ h3)
def onMM (f : Int → List Int → Int) : Option (List Int) → Option R
  | some (n :: ns) => some (.v (.int (f n ns)))
  | _ => none
def gMaxL : GCall := fun ds => match ds with
  | [.lst xs] => onMM maxI (D.ints xs)
  | _ => none
def gMinL : GCall := fun ds => match ds with
  | [.lst xs] => onMM minI (D.ints xs)
  | _ => none
theorem snd_maxL : CallSnd K (rMax K) gMaxL := by
  intro B L σ H G vs ds res Q hK E0 hr hg hQ
  subst hK
  unfold gMaxL at hg
  split at hg
  · rename_i xs
    cases hr with | cons r q =>
      cases q
      obtain ⟨a, vs, rfl, ha, ra⟩ := r.lst E0.sub
      cases h1 : D.ints xs with
      | none => rw [h1] at hg; cases hg
      | some ns =>
        rw [h1] at hg
        cases ns with
        | nil => cases hg
        | cons n ns =>
          cases hg
          rw [ra.ints h1] at ha
          refine ⟨a, n :: ns, rfl, .of ha, by simp, fun m h2 h3 => ?_⟩
          obtain ⟨k1, k2, k3⟩ := maxI_ge ns n
          have : m = maxI n ns := by
            have a1 : maxI n ns ≤ m := h3 _ (by rcases k3 with k3 | k3 <;> simp [k3])
            have a2 : m ≤ maxI n ns := by rcases List.mem_cons.mp h2 with rfl | h2; exact k1; exact k2 _ h2
            omega
          rw [this]
          exact hQ _ H G .refl E0 (.int _)
  · cases hg
theorem snd_minL : CallSnd K (rMin K) gMinL := by
  intro B L σ H G vs ds res Q hK E0 hr hg hQ
  subst hK
  unfold gMinL at hg
  split at hg
  · rename_i xs
    cases hr with | cons r q =>
      cases q
      obtain ⟨a, vs, rfl, ha, ra⟩ := r.lst E0.sub
      cases h1 : D.ints xs with
      | none => rw [h1] at hg; cases hg
      | some ns =>
        rw [h1] at hg
        cases ns with
        | nil => cases hg
        | cons n ns =>
          cases hg
          rw [ra.ints h1] at ha
          refine ⟨a, n :: ns, rfl, .of ha, by simp, fun m h2 h3 => ?_⟩
          obtain ⟨k1, k2, k3⟩ := minI_le ns n
          have : m = minI n ns := by
            have a1 : m ≤ minI n ns := h3 _ (by rcases k3 with k3 | k3 <;> simp [k3])
            have a2 : minI n ns ≤ m := by rcases List.mem_cons.mp h2 with rfl | h2; exact k1; exact k2 _ h2
            omega
          rw [this]
          exact hQ _ H G .refl E0 (.int _)
  · cases hg
/-! ### a whole number in a list or tuple of whole numbers -/
def onIn (neg : Bool) (i : Int) : Option (List Int) → Option R
  | some ns => some (.v (.bl (if neg then !decide (i ∈ ns) else decide (i ∈ ns))))
  | none => none
def gInB (neg : Bool) : GOp := fun d e => match d, e with
  | .int i, .lst xs => onIn neg i (D.ints xs)
  | .int i, .tup xs => onIn neg i (D.ints xs)
  | _, _ => none
abbrev gIn : GOp := gInB false
abbrev gNotIn : GOp := gInB true
theorem inV_ints (i : Int) : ∀ ns : List Int, inV (.int i) (ns.map V.int) = decide (i ∈ ns)
  | [] => by simp [inV]
  | n :: ns => by
    have := inV_ints i ns
    unfold inV at this ⊢
    rw [List.map_cons, List.any_cons, this]
    have e : eqV (.int n) (.int i) = decide (n = i) := by
      simp only [eqV]; rfl
    rw [e]
    by_cases h : i = n
    · simp [h]
    · have : ¬ n = i := fun k => h k.symm
      simp [h, this]
theorem flat_ints : ∀ ns : List Int, (ns.map V.int).all flatV = true
  | [] => rfl
  | n :: ns => by rw [List.map_cons, List.all_cons, flat_ints ns]; rfl
theorem snd_inB (neg : Bool) : OpSnd K (rIn K neg) (gInB neg) := by
  intro B L σ H G x y d e res Q hK E0 hx hy hg hQ
  subst hK
  unfold gInB at hg
  split at hg
  · rename_i i xs
    cases h1 : D.ints xs with
    | none => rw [h1] at hg; cases hg
    | some ns =>
      rw [h1] at hg
      cases hg
      obtain ⟨a, vs, rfl, ha, ra⟩ := hy.lst E0.sub
      rw [ra.ints h1] at ha
      cases hx.int
      refine ⟨a, ns.map V.int, rfl, .inl (.of ha), rfl, flat_ints ns, ?_⟩
      rw [inV_ints]
      exact hQ _ H G .refl E0 (.bl _)
  · rename_i i xs
    cases h1 : D.ints xs with
    | none => rw [h1] at hg; cases hg
    | some ns =>
      rw [h1] at hg
      cases hg
      obtain ⟨a, vs, rfl, ha, ra⟩ := hy.tup E0.sub
      rw [ra.ints h1] at ha
      cases hx.int
      refine ⟨a, ns.map V.int, rfl, .inr (.of ha), rfl, flat_ints ns, ?_⟩
      rw [inV_ints]
      exact hQ _ H G .refl E0 (.bl _)
  · cases hg
theorem snd_in : OpSnd K (rIn K false) gIn := snd_inB false
theorem snd_notIn : OpSnd K (rIn K true) gNotIn := snd_inB true
/-! ### a, b = a tuple's value -/
def onUnp (is : List Nat) : Option (D × LS) → Fl
  | some (d, L2) => match tgSet (.many is) d L2 with
    | some L3 => .nx L3
    | none => .stuck
  | none => .stuck
def dUnp (is : List Nat) (f : DE) : DS := fun L => (f L).fl fun r L1 => onUnp is (fz L1 r)
section
variable {X : Cx} {E : XK} {e a b c : Expr} {es : List Expr} {st : Stmt} {sts : List Stmt} {pos : Pos} {f fa fb fc : DE} {g h : DS}
theorem ds_unp {tg : Expr} {is : List Nat} (hg : PG X tg (gTup X.K is.length (gNames is))) (he : DEx X E e f)
    (hs : swapsWithSole [tg] e pos.line X.env = pure false := by rfl) (hw : swappedStores [tg] e X.env = pure none := by rfl)
    (h1 : (assignEach [tg] X.env).map (·.2) = [assign tg X.env] := by rfl) : DSx X E (.Assign [tg] e pos) (dUnp is f) :=
  PS.imp (ps_asg he hg hs hw h1) fun D σ H ⟨B, L, G, hK, E0, P⟩ =>
  ⟨B, L, G, hK, E0, PostS.next P fun r L1 v H1 G1 S1 E1 R1 P1 => by
    unfold onUnp at P1
    split at P1
    · rename_i d L2 p
      split at P1
      · rename_i L3 p3
        obtain ⟨G2, S2, E2, R2, n⟩ := fz_ok2 E0 E1 S1 R1 p
        exact tg_ok (t := .many is) hK E2 R2 p3 fun vs E3 => P1 _ H1 G2 n E3
      · exact P1.elim
    · exact P1.elim⟩
end
end DV
end
section
set_option Elab.async false
set_option linter.all false
set_option maxRecDepth 100000
set_option maxHeartbeats 4000000
/-! how the D-functions go, step by step -/
namespace DV.S0
open PySem PySem.Spec PyProof.Rows L2 DV
/-- a loop's turn, then the rest -/
def _root_.DV.Fl.loop (f : Fl) (k : LS → Fl) : Fl := match f with
  | .nx L => k L
  | .ct L => k L
  | .brk L => .nx L
  | .ret r L => .ret r L
  | .exc e L => .exc e L
  | .stuck => .stuck
theorem loop_nx (L : LS) (k : LS → Fl) : (Fl.nx L).loop k = k L := rfl
theorem loop_ct (L : LS) (k : LS → Fl) : (Fl.ct L).loop k = k L := rfl
theorem loop_brk (L : LS) (k : LS → Fl) : (Fl.brk L).loop k = .nx L := rfl
theorem loop_ret (r : R) (L : LS) (k : LS → Fl) : (Fl.ret r L).loop k = .ret r L := rfl
theorem loop_exc (r : Ex) (L : LS) (k : LS → Fl) : (Fl.exc r L).loop k = .exc r L := rfl
theorem loop_stuck (k : LS → Fl) : Fl.stuck.loop k = .stuck := rfl
/-- an operation's outcome -/
def onG (o : Option R) (L : LS) : Rs R := match o with
  | some r => .ok r L
  | none => .stuck
def onB (o : Option D) (L : LS) : Rs Bool := match o with
  | some (.bl b) => .ok b L
  | _ => .stuck
def onV (o : Option D) (k : Bool → LS → Rs R) (L : LS) : Rs R := match o with
  | some (.bl b) => k b L
  | _ => .stuck
def onI (o : Option D) (L : LS) : Rs (Option Int) := match o with
  | some (.int i) => .ok (some i) L
  | _ => .stuck
def onN (o : Option LS) : Fl := match o with
  | some L => .nx L
  | none => .stuck
theorem s_onG (r : R) (L : LS) : onG (some r) L = .ok r L := rfl
theorem s_onG0 (L : LS) : onG none L = .stuck := rfl
theorem s_onGI (c : Prop) [Decidable c] (h : c) (r : R) (L : LS) : onG (if c then some r else none) L = .ok r L := by rw [if_pos h]; rfl
theorem s_onB (b : Bool) (L : LS) : onB (some (.bl b)) L = .ok b L := rfl
theorem s_onI (i : Int) (L : LS) : onI (some (.int i)) L = .ok (some i) L := rfl
theorem s_onN (L : LS) : onN (some L) = .nx L := rfl
/-! reading -/
def pkS : Option Sl → Option D
  | some (.val d) => some d
  | some (.bor d) => some d
  | some (.obj _ d) => some d
  | _ => none
theorem s_pkv (L : LS) (d : D) : peek L (.v d) = some d := rfl
theorem s_pkt (L : LS) (d : D) : peek L (.t d) = some d := rfl
theorem s_pks (L : LS) (i : Nat) : peek L (.s i) = pkS L[i]? := by
  cases h : L[i]? with
  | none => simp only [peek, h]; rfl
  | some s => simp only [peek, h]; cases s <;> first | rfl | (rename_i m d; cases m <;> rfl)
theorem s_pkS1 (d : D) : pkS (some (.val d)) = some d := rfl
theorem s_pkS2 (d : D) : pkS (some (.bor d)) = some d := rfl
theorem s_pkS3 (m : Md) (d : D) : pkS (some (.obj m d)) = some d := rfl
def vrS (i : Nat) (L : LS) : Option Sl → Rs R
  | some (.val d) => .ok (.v d) L
  | some (.bor _) => .ok (.s i) L
  | some (.obj _ _) => .ok (.s i) L
  | _ => .stuck
theorem s_var (i : Nat) (L : LS) : dVar i L = vrS i L L[i]? := by
  unfold dVar vrS
  split <;> first | (simp_all; done) | (simp_all; rfl) | rfl
theorem s_vr1 (i : Nat) (L : LS) (d : D) : vrS i L (some (.val d)) = .ok (.v d) L := rfl
theorem s_vr2 (i : Nat) (L : LS) (d : D) : vrS i L (some (.bor d)) = .ok (.s i) L := rfl
theorem s_vr3 (i : Nat) (L : LS) (m : Md) (d : D) : vrS i L (some (.obj m d)) = .ok (.s i) L := rfl
theorem s_C (d : D) (L : LS) : dC d L = .ok (.v d) L := rfl
def onO (g : GOp) : Option D → Option D → LS → Rs R
  | some d, some e, L => onG (g d e) L
  | _, _, _ => .stuck
theorem s_op (g : GOp) (fa fb : DE) (L : LS) : dOp g fa fb L = (fa L).bind fun r1 L1 => (fb L1).bind fun r2 L2 => onO g (peek L2 r1) (peek L2 r2) L2 := by
  unfold dOp
  cases fa L with
  | ok r1 L1 =>
    simp only [Rs.bind_ok]
    cases fb L1 with
    | ok r2 L2 =>
      simp only [Rs.bind_ok]
      unfold on2 onO
      split <;> first | (simp_all [onG]; done) | (simp_all [onG]; rfl)
    | exc e L => rfl
    | stuck => rfl
  | exc e L => rfl
  | stuck => rfl
theorem s_on (g : GOp) (d e : D) (L : LS) : onO g (some d) (some e) L = onG (g d e) L := rfl
theorem s_test (f : DE) (L : LS) : dTest f L = (f L).bind fun r L1 => onB (peek L1 r) L1 := by
  unfold dTest
  cases f L with
  | ok r L1 => simp only [Rs.bind_ok]; unfold onB; split <;> first | (simp_all; done) | (simp_all; rfl) | rfl
  | exc e L => rfl
  | stuck => rfl
theorem s_notT (f : DT) (L : LS) : dNotT f L = (f L).bind fun b L1 => .ok (!b) L1 := rfl
theorem s_andT (f g : DT) (L : LS) : dAndT f g L = (f L).bind fun b L1 => if b = true then g L1 else .ok false L1 := rfl
theorem s_orT (f g : DT) (L : LS) : dOrT f g L = (f L).bind fun b L1 => if b = true then .ok true L1 else g L1 := rfl
theorem s_blOf (f : DE) (k : Bool → LS → Rs R) (L : LS) : blOf f k L = (f L).bind fun r L1 => onV (peek L1 r) k L1 := by
  unfold blOf
  cases f L with
  | ok r L1 => simp only [Rs.bind_ok]; unfold onV; split <;> first | (simp_all; done) | (simp_all; rfl) | rfl
  | exc e L => rfl
  | stuck => rfl
theorem s_onV (b : Bool) (k : Bool → LS → Rs R) (L : LS) : onV (some (.bl b)) k L = k b L := rfl
theorem s_andV (f g : DE) (L : LS) : dAndV f g L = (f L).bind fun r L1 => onV (peek L1 r) (fun b L1 => if b = true then g L1 else .ok (.v (.bl false)) L1) L1 := s_blOf ..
theorem s_orV (f g : DE) (L : LS) : dOrV f g L = (f L).bind fun r L1 => onV (peek L1 r) (fun b L1 => if b = true then .ok (.v (.bl true)) L1 else g L1) L1 := s_blOf ..
theorem s_notV (f : DE) (L : LS) : dNotV f L = (f L).bind fun r L1 => onV (peek L1 r) (fun b L1 => .ok (.v (.bl (!b))) L1) L1 := s_blOf ..
theorem s_if (t : DT) (f g : DE) (L : LS) : dIf t f g L = (t L).bind fun b L1 => if b = true then f L1 else g L1 := rfl
def onC (g g' : GOp) (fc : DE) (r2 : R) : Option D → Option D → LS → Rs R
  | some d, some e, L => (onG (g d e) L).bind fun r L => onV (peek L r) (fun k L => if k = true then (fc L).bind fun r3 L3 => onO g' (peek L3 r2) (peek L3 r3) L3 else .ok (.v (.bl false)) L) L
  | _, _, _ => .stuck
theorem s_onC (g g' : GOp) (fc : DE) (r2 : R) (d e : D) (L : LS) : onC g g' fc r2 (some d) (some e) L = (onG (g d e) L).bind fun r L => onV (peek L r) (fun k L => if k = true then (fc L).bind fun r3 L3 => onO g' (peek L3 r2) (peek L3 r3) L3 else .ok (.v (.bl false)) L) L := rfl
theorem on2_onO (g : GOp) (r1 r2 : R) (L : LS) : on2 g r1 r2 L = onO g (peek L r1) (peek L r2) L := by
  unfold on2 onO
  split <;> first | (simp_all [onG]; done) | (simp_all [onG]; rfl)
/-- a chain, where the first comparison's answer is at hand -/
theorem s_chain {g g' : GOp} (hg : ∀ d e r, g d e = some r → ∃ b, r = .v (.bl b)) (fa fb fc : DE) (L : LS) : dChain g g' fa fb fc L = (fa L).bind fun r1 L1 => (fb L1).bind fun r2 L2 => onC g g' fc r2 (peek L2 r1) (peek L2 r2) L2 := by
  unfold dChain
  cases fa L with
  | ok r1 L1 =>
    simp only [Rs.bind_ok]
    cases fb L1 with
    | ok r2 L2 =>
      simp only [Rs.bind_ok]
      cases h1 : peek L2 r1 with
      | none => rfl
      | some d =>
        cases h2 : peek L2 r2 with
        | none => rfl
        | some e =>
          simp only [s_onC]
          cases h3 : g d e with
          | none => rfl
          | some r =>
            obtain ⟨b, rfl⟩ := hg d e r h3
            simp only [s_onG, Rs.bind_ok, s_pkv, s_onV, on2_onO]
    | exc e L => rfl
    | stuck => rfl
  | exc e L => rfl
  | stuck => rfl
theorem bl_II {f : Int → Int → Bool} : ∀ d e r, gII (fun i j => .bl (f i j)) d e = some r → ∃ b, r = .v (.bl b) := by
  intro d e r h
  unfold gII at h
  split at h
  · cases h; exact ⟨_, rfl⟩
  · cases h
theorem s_chLeLt (fa fb fc : DE) (L : LS) : dChain gLe gLt fa fb fc L = (fa L).bind fun r1 L1 => (fb L1).bind fun r2 L2 => onC gLe gLt fc r2 (peek L2 r1) (peek L2 r2) L2 := s_chain bl_II ..
theorem s_chLeLe (fa fb fc : DE) (L : LS) : dChain gLe gLe fa fb fc L = (fa L).bind fun r1 L1 => (fb L1).bind fun r2 L2 => onC gLe gLe fc r2 (peek L2 r1) (peek L2 r2) L2 := s_chain bl_II ..
theorem s_chLtLe (fa fb fc : DE) (L : LS) : dChain gLt gLe fa fb fc L = (fa L).bind fun r1 L1 => (fb L1).bind fun r2 L2 => onC gLt gLe fc r2 (peek L2 r1) (peek L2 r2) L2 := s_chain bl_II ..
def onU (g : D → Option R) : Option D → LS → Rs R
  | some d, L => onG (g d) L
  | _, _ => .stuck
theorem s_un (g : D → Option R) (f : DE) (L : LS) : dUn g f L = (f L).bind fun r L1 => onU g (peek L1 r) L1 := by
  unfold dUn
  cases f L with
  | ok r L1 => simp only [Rs.bind_ok]; unfold onU onG; split <;> first | (simp_all; done) | (simp_all; rfl) | rfl
  | exc e L => rfl
  | stuck => rfl
theorem s_onU (g : D → Option R) (d : D) (L : LS) : onU g (some d) L = onG (g d) L := rfl
theorem s_neg (i : Int) : gNeg (.int i) = some (.v (.int (-i))) := rfl
/-! operators on data -/
theorem s_II (f : Int → Int → D) (i j : Int) : gII f (.int i) (.int j) = some (.v (f i j)) := rfl
theorem s_IC (C : Int → Int → Bool) (f : Int → Int → D) (i j : Int) : gIC C f (.int i) (.int j) = if C i j = true then some (.v (f i j)) else none := rfl
theorem s_addI (i j : Int) : gAdd (.int i) (.int j) = some (.v (.int (i + j))) := rfl
theorem s_addL (xs ys : List D) : gAdd (.lst xs) (.lst ys) = if lenOk (xs.length + ys.length) = true then some (.t (.lst (xs ++ ys))) else none := rfl
theorem s_addT (xs ys : List D) : gAdd (.tup xs) (.tup ys) = if lenOk (xs.length + ys.length) = true then some (.v (.tup (xs ++ ys))) else none := rfl
theorem s_addS (x y : Str) : gAdd (.str x) (.str y) = if lenOk (x.length + y.length) = true then some (.v (.str (x ++ y))) else none := rfl
theorem s_mulI (i j : Int) : gMul (.int i) (.int j) = if mulOk i j = true then some (.v (.int (i * j))) else none := rfl
theorem s_mulL (xs : List D) (j : Int) : gMul (.lst xs) (.int j) = if (lenOk (xs.length * j.toNat) && decide (-1000000 ≤ j) && decide (j ≤ 1000000)) = true then some (.t (.lst (List.replicate j.toNat xs).flatten)) else none := rfl
theorem s_ixL (xs : List D) (i : Int) : gIx (.lst xs) (.int i) = (atI xs i).map .v := rfl
theorem s_ixT (xs : List D) (i : Int) : gIx (.tup xs) (.int i) = (atI xs i).map .v := rfl
theorem s_ixC (xs : List Int) (i : Int) : gIx (.scr xs) (.int i) = (atI xs i).map fun j => .v (.int j) := rfl
/-! lists of arguments -/
theorem s_ANil (L : LS) : dANil L = .ok [] L := rfl
theorem s_ACons (f : DE) (g : DA) (L : LS) : dACons f g L = (f L).bind fun r L1 => (g L1).bind fun rs L2 => .ok (r :: rs) L2 := rfl
theorem s_FNil (L : LS) : dFNil L = .ok [] L := rfl
def onF {α : Type} (o : Option (D × LS)) (k : D → LS → Rs α) : Rs α := match o with
  | some p => k p.1 p.2
  | none => .stuck
theorem s_onF {α : Type} (d : D) (L : LS) (k : D → LS → Rs α) : onF (some (d, L)) k = k d L := rfl
theorem s_FCons (f : DE) (g : LS → Rs (List D)) (L : LS) : dFCons f g L = (f L).bind fun r L1 => onF (fz L1 r) fun d L1' => (g L1').bind fun ds L2 => .ok (d :: ds) L2 := by
  unfold dFCons
  cases f L with
  | ok r L1 => simp only [Rs.bind_ok]; unfold onF; split <;> first | (simp_all; done) | (simp_all; rfl) | rfl
  | exc e L => rfl
  | stuck => rfl
theorem s_AFCons (f : DE) (g : DA) (L : LS) : dAFCons f g L = (f L).bind fun r L1 => onF (fz L1 r) fun d L1' => (g L1').bind fun rs L2 => .ok (.v d :: rs) L2 := by
  unfold dAFCons
  cases f L with
  | ok r L1 => simp only [Rs.bind_ok]; unfold onF; split <;> first | (simp_all; done) | (simp_all; rfl) | rfl
  | exc e L => rfl
  | stuck => rfl
theorem s_fzv (L : LS) (d : D) : fz L (.v d) = some (d, L) := rfl
theorem s_fzt (L : LS) (d : D) : fz L (.t d) = some (d, L) := rfl
def fzS1 (L : LS) (i : Nat) : Option Sl → Option (D × LS)
  | some (.val d) => some (d, L)
  | some (.obj .own d) => some (d, L.set i (.val d))
  | _ => none
theorem s_fzs (L : LS) (i : Nat) : fz L (.s i) = fzS1 L i L[i]? := by
  cases h : L[i]? with
  | none => simp only [fz, h]; rfl
  | some s => simp only [fz, h]; cases s <;> first | rfl | (rename_i m d; cases m <;> rfl)
theorem s_fzS1 (L : LS) (i : Nat) (d : D) : fzS1 L i (some (.val d)) = some (d, L) := rfl
theorem s_fzS2 (L : LS) (i : Nat) (d : D) : fzS1 L i (some (.obj .own d)) = some (d, L.set i (.val d)) := rfl
theorem s_lst (g : LS → Rs (List D)) (L : LS) : dLst g L = (g L).bind fun ds L1 => if lenOk ds.length = true then .ok (.t (.lst ds)) L1 else .stuck := rfl
theorem s_tup (g : LS → Rs (List D)) (L : LS) : dTup g L = (g L).bind fun ds L1 => if lenOk ds.length = true then .ok (.v (.tup ds)) L1 else .stuck := rfl
theorem s_peeks0 (L : LS) : peeks L [] = some [] := rfl
def cons2 : Option D → Option (List D) → Option (List D)
  | some d, some ds => some (d :: ds)
  | _, _ => none
theorem s_cons2 (d : D) (ds : List D) : cons2 (some d) (some ds) = some (d :: ds) := rfl
theorem s_peeks (L : LS) (r : R) (rs : List R) : peeks L (r :: rs) = cons2 (peek L r) (peeks L rs) := by
  simp only [peeks]; unfold cons2; split <;> first | (simp_all; done) | (simp_all; rfl) | rfl
def onLs (g : GCall) : Option (List D) → LS → Rs R
  | some ds, L => onG (g ds) L
  | _, _ => .stuck
theorem s_onLs (g : GCall) (ds : List D) (L : LS) : onLs g (some ds) L = onG (g ds) L := rfl
theorem s_onL (g : GCall) (rs : List R) (L : LS) : onL g rs L = onLs g (peeks L rs) L := by
  unfold onL onLs onG
  split <;> first | (simp_all; done) | (simp_all; rfl) | rfl
theorem s_call (g : GCall) (as : DA) (L : LS) : dCall g as L = (as L).bind fun rs L1 => onLs g (peeks L1 rs) L1 := by
  unfold dCall
  simp only [s_onL]
/-! builtins on data -/
theorem s_lenL (xs : List D) : gLen [.lst xs] = some (.v (.int xs.length)) := rfl
theorem s_lenT (xs : List D) : gLen [.tup xs] = some (.v (.int xs.length)) := rfl
theorem s_lenC (xs : List Int) : gLen [.scr xs] = some (.v (.int xs.length)) := rfl
theorem s_listL (xs : List D) : gList [.lst xs] = some (.t (.lst xs)) := rfl
theorem s_listT (xs : List D) : gList [.tup xs] = some (.t (.lst xs)) := rfl
theorem s_tupleL (xs : List D) : gTuple [.lst xs] = some (.v (.tup xs)) := rfl
theorem s_tupleT (xs : List D) : gTuple [.tup xs] = some (.v (.tup xs)) := rfl
theorem s_intI (i : Int) : gInt [.int i] = some (.v (.int i)) := rfl
theorem s_intB (b : Bool) : gInt [.bl b] = some (.v (.int (if b then 1 else 0))) := rfl
theorem s_abs (i : Int) : gAbs [.int i] = some (.v (.int (if i < 0 then -i else i))) := rfl
theorem s_max2 (i j : Int) : gMax2 [.int i, .int j] = some (.v (.int (if j > i then j else i))) := rfl
theorem s_min2 (i j : Int) : gMin2 [.int i, .int j] = some (.v (.int (if j < i then j else i))) := rfl
theorem s_all (xs : List D) : gAll [.lst xs] = (D.bls xs).map fun bs => .v (.bl (bs.all id)) := rfl
theorem s_any (xs : List D) : gAny [.lst xs] = (D.bls xs).map fun bs => .v (.bl (bs.any id)) := rfl
theorem s_sum (xs : List D) : gSum [.lst xs] = (D.ints xs).map fun bs => .v (.int bs.sum) := rfl
/-! statements -/
theorem s_seq (g h : DS) (L : LS) : dSeq g h L = (g L).seq h := rfl
theorem s_drop (f : DE) (L : LS) : dDrop f L = (f L).fl fun _ L1 => .nx L1 := rfl
theorem s_ret (f : DE) (L : LS) : dRet f L = (f L).fl fun r L1 => .ret r L1 := rfl
theorem s_ifS (t : DT) (g h : DS) (L : LS) : dIfS t g h L = (t L).fl fun b L1 => if b = true then g L1 else h L1 := rfl
theorem s_asg (i : Nat) (f : DE) (L : LS) : dAsg i f L = (f L).fl fun r L1 => onN (asgR i r L1) := by
  unfold dAsg
  cases f L with
  | ok r L1 => simp only [Rs.fl_ok]; unfold onN; split <;> first | (simp_all; done) | (simp_all; rfl) | rfl
  | exc e L => rfl
  | stuck => rfl
theorem s_asgv (i : Nat) (d : D) (L : LS) : asgR i (.v d) L = some (L.set i (.val d)) := rfl
theorem s_asgt (i : Nat) (d : D) (L : LS) : asgR i (.t d) L = some (L.set i (.obj .own d)) := rfl
def asgS (i j : Nat) (L : LS) : Option Sl → Option LS
  | some (.bor d) => some (L.set i (.bor d))
  | some (.val d) => some (L.set i (.val d))
  | some (.obj .own d) => some ((L.set j (.val d)).set i (.val d))
  | _ => none
theorem s_asgs (i j : Nat) (L : LS) : asgR i (.s j) L = asgS i j L L[j]? := by
  unfold asgR asgS
  cases h : L[j]? with
  | none => simp [fz, h]
  | some s =>
    cases s with
    | un => simp [fz, h]
    | val d => simp [fz, h]
    | bor d => simp [fz, h]
    | obj m d => cases m <;> simp [fz, h]
theorem s_asgS1 (i j : Nat) (L : LS) (d : D) : asgS i j L (some (.bor d)) = some (L.set i (.bor d)) := rfl
theorem s_asgS2 (i j : Nat) (L : LS) (d : D) : asgS i j L (some (.val d)) = some (L.set i (.val d)) := rfl
theorem s_asgS3 (i j : Nat) (L : LS) (d : D) : asgS i j L (some (.obj .own d)) = some ((L.set j (.val d)).set i (.val d)) := rfl
def augS (i : Nat) (g : GOp) (f : DE) (L : LS) : Option Sl → Fl
  | some (.val d) => (f L).fl fun r L1 => (onO g (some d) (peek L1 r) L1).fl fun r L1 => onN (asgR i r L1)
  | _ => .stuck
theorem s_aug (i : Nat) (g : GOp) (f : DE) (L : LS) : dAug i g f L = augS i g f L L[i]? := by
  unfold dAug augS
  cases h : L[i]? with
  | none => rfl
  | some s =>
    cases s with
    | val d =>
      simp only
      cases f L with
      | ok r L1 =>
        simp only [Rs.fl_ok]
        cases h1 : peek L1 r with
        | none => rfl
        | some e =>
          simp only [s_on]
          cases h2 : g d e with
          | none => rfl
          | some res =>
            simp only [s_onG, Rs.fl_ok]
            unfold onN
            split <;> first | (simp_all; done) | (simp_all; rfl) | rfl
      | exc e L => rfl
      | stuck => rfl
    | _ => rfl
theorem s_augS (i : Nat) (g : GOp) (f : DE) (L : LS) (d : D) : augS i g f L (some (.val d)) = (f L).fl fun r L1 => (onO g (some d) (peek L1 r) L1).fl fun r L1 => onN (asgR i r L1) := rfl
def onT (is : List Nat) (o : Option (List R × LS)) : Fl := match o with
  | some p => onN (setMany is p.1 p.2)
  | none => .stuck
theorem s_onT (is : List Nat) (rs : List R) (L : LS) : onT is (some (rs, L)) = onN (setMany is rs L) := rfl
theorem s_tupAsg (is : List Nat) (as : DA) (L : LS) : dTupAsg is as L = (as L).fl fun rs L1 => onT is (fzS rs L1) := by
  unfold dTupAsg
  cases as L with
  | ok r L1 =>
    simp only [Rs.fl_ok]
    unfold onT
    cases fzS r L1 with
    | none => rfl
    | some p => simp only; unfold onN; split <;> first | (simp_all; done) | (simp_all; rfl) | rfl
  | exc e L => rfl
  | stuck => rfl
theorem s_fzS0 (L : LS) : fzS [] L = some ([], L) := rfl
theorem s_fzSv (d : D) (rs : List R) (L : LS) : fzS (.v d :: rs) L = (fzS rs L).map fun p => (.v d :: p.1, p.2) := rfl
theorem s_fzSt (d : D) (rs : List R) (L : LS) : fzS (.t d :: rs) L = (fzS rs L).map fun p => (.t d :: p.1, p.2) := rfl
def fzSk (rs : List R) : Option (D × LS) → Option (List R × LS)
  | some p => (fzS rs p.2).map fun q => (.v p.1 :: q.1, q.2)
  | none => none
theorem s_fzSs (i : Nat) (rs : List R) (L : LS) : fzS (.s i :: rs) L = fzSk rs (fz L (.s i)) := by
  simp only [fzS]; unfold fzSk; split <;> first | (simp_all; done) | (simp_all; rfl) | rfl
theorem s_fzSk (rs : List R) (d : D) (L : LS) : fzSk rs (some (d, L)) = (fzS rs L).map fun q => (.v d :: q.1, q.2) := rfl
theorem s_many0 (L : LS) : setMany [] [] L = some L := rfl
theorem s_manyv (i : Nat) (is : List Nat) (d : D) (rs : List R) (L : LS) : setMany (i :: is) (.v d :: rs) L = setMany is rs (L.set i (.val d)) := rfl
theorem s_manyt (i : Nat) (is : List Nat) (d : D) (rs : List R) (L : LS) : setMany (i :: is) (.t d :: rs) L = setMany is rs (L.set i (.obj .own d)) := rfl
/-! loops -/
theorem s_for (t : Tg) (fi : LS → Rs (List D)) (g : DS) (L : LS) : dFor t fi g L = (fi L).fl fun ds L1 => forL t g ds L1 := rfl
theorem forL_nil (t : Tg) (g : DS) (L : LS) : forL t g [] L = .nx L := rfl
theorem forL_cons {t : Tg} {g : DS} {d : D} {ds : List D} {L L1 : LS} (h : tgSet t d L = some L1) : forL t g (d :: ds) L = (g L1).loop (forL t g ds) := by
  simp only [forL, h]
  cases g L1 <;> rfl
theorem s_tg1 (i : Nat) (d : D) (L : LS) : tgSet (.one i) d L = some (L.set i (.val d)) := rfl
theorem s_tgm (is : List Nat) (ds : List D) (L : LS) : tgSet (.many is) (.tup ds) L = setVals is ds L := rfl
theorem s_vals0 (L : LS) : setVals [] [] L = some L := rfl
theorem s_vals (i : Nat) (is : List Nat) (d : D) (ds : List D) (L : LS) : setVals (i :: is) (d :: ds) L = setVals is ds (L.set i (.val d)) := rfl
theorem whL_succ (c : DT) (g : DS) (n : Nat) (L : LS) : whL c g (n + 1) L = (c L).fl fun b L1 => if b = true then (g L1).loop (whL c g n) else .nx L1 := by
  simp only [whL]
  cases c L with
  | ok b L1 =>
    cases b with
    | true => simp only [Rs.fl_ok, if_true]; cases g L1 <;> rfl
    | false => rfl
  | exc e L => rfl
  | stuck => rfl
def onIt (d : D) (L : LS) : Rs (List D) := match items d with
  | some ds => .ok ds L
  | none => .stuck
theorem s_iseq (f : DE) (L : LS) : dISeq f L = (f L).bind fun r L1 => onF (fz L1 r) onIt := by
  unfold dISeq
  cases f L with
  | ok r L1 =>
    simp only [Rs.bind_ok]
    cases fz L1 r with
    | none => rfl
    | some p => rfl
  | exc e L => rfl
  | stuck => rfl
theorem s_itL (xs : List D) (L : LS) : onIt (.lst xs) L = .ok xs L := rfl
theorem s_itT (xs : List D) (L : LS) : onIt (.tup xs) L = .ok xs L := rfl
def onRs (on : List D → Option (List D)) : Option (List D) → LS → Rs (List D)
  | some ds, L => match on ds with
    | some xs => .ok xs L
    | none => .stuck
  | none, _ => .stuck
theorem s_irg (on : List D → Option (List D)) (as : DA) (L : LS) : dIRg on as L = (as L).bind fun rs L1 => onRs on (peeks L1 rs) L1 := by
  unfold dIRg
  cases as L with
  | ok r L1 => simp only [Rs.bind_ok]; unfold onRs; split <;> first | (simp_all; done) | (simp_all; rfl) | rfl
  | exc e L => rfl
  | stuck => rfl
theorem s_rs1 (j : Int) (L : LS) : onRs onRg1 (some [.int j]) L = if rgOk j = true then .ok (rgD 0 1 j.toNat) L else .stuck := by
  simp only [onRs, onRg1]; split <;> simp_all
theorem s_rs2 (i j : Int) (L : LS) : onRs onRg2 (some [.int i, .int j]) L = if (rgOk i && rgOk j) = true then .ok (rgD i 1 (j - i).toNat) L else .stuck := by
  simp only [onRs, onRg2]; split <;> simp_all
theorem s_izipL (as : LS → Rs (List D)) (L L1 : LS) (xs ys : List D) (h : as L = .ok [.lst xs, .lst ys] L1) : dIZip as L = .ok (zipD xs ys) L1 := by unfold dIZip; rw [h]; rfl
theorem s_izipT (as : LS → Rs (List D)) (L L1 : LS) (xs ys : List D) (h : as L = .ok [.tup xs, .tup ys] L1) : dIZip as L = .ok (zipD xs ys) L1 := by unfold dIZip; rw [h]; rfl
def onZ (ds : List D) (L : LS) : Rs (List D) := match ds with
  | [.lst xs, .lst ys] => .ok (zipD xs ys) L
  | [.tup xs, .tup ys] => .ok (zipD xs ys) L
  | _ => .stuck
theorem s_izip (as : LS → Rs (List D)) (L : LS) : dIZip as L = (as L).bind fun ds L1 => onZ ds L1 := rfl
theorem s_onZL (xs ys : List D) (L : LS) : onZ [.lst xs, .lst ys] L = .ok (zipD xs ys) L := rfl
theorem s_onZT (xs ys : List D) (L : LS) : onZ [.tup xs, .tup ys] L = .ok (zipD xs ys) L := rfl
theorem s_lc (vs : List Nat) (t : Tg) (fi : LS → Rs (List D)) (c : DT) (e : DE) (L : LS) : dLC vs t fi c e L = (fi L).bind fun ds L1 => (lcL vs t c e ds [] (wipeL L1 vs)).bind fun acc L2 => .ok (.t (.lst acc)) L2 := rfl
theorem lcL_nil (vs : List Nat) (t : Tg) (c : DT) (e : DE) (acc : List D) (L : LS) : lcL vs t c e [] acc L = .ok acc L := rfl
theorem lcL_cons {vs : List Nat} {t : Tg} {c : DT} {e : DE} {d : D} {ds acc : List D} {L L1 : LS} (h : tgSet t d L = some L1) : lcL vs t c e (d :: ds) acc L =
    ((c L1).wp vs).bind fun b L2 => if b = true then ((e L2).wp vs).bind fun r L3 => onF (fz L3 r) fun y L4 => if lenOk acc.length = true then lcL vs t c e ds (acc ++ [y]) (wipeL L4 vs) else .stuck else lcL vs t c e ds acc (wipeL L2 vs) := by
  simp only [lcL, h]
  cases (c L1).wp vs with
  | ok b L2 =>
    simp only [Rs.bind_ok]
    cases b with
    | true =>
      simp only [if_true]
      cases (e L2).wp vs with
      | ok r L3 => simp only [Rs.bind_ok]; unfold onF; split <;> first | (simp_all; done) | (simp_all; rfl) | rfl
      | exc e L => rfl
      | stuck => rfl
    | false => rfl
  | exc e L => rfl
  | stuck => rfl
theorem s_yes (L : LS) : dYes L = .ok true L := rfl
/-! calls of own defs -/
def outR (L : LS) (is : List Nat) (o : Ro) : Rs R := match o with
  | .ok fr d outs => match setIo L is outs with
    | some L' => .ok (if fr = true then .t d else .v d) L'
    | none => .stuck
  | .exc e outs => match setIo L is outs with
    | some L' => .exc e L'
    | none => .stuck
  | .stuck => .stuck
def onA (ms : List Pm) (m : Mir) (rs : List R) (L : LS) : Option (List D × List Nat) → Rs R
  | some p => if apart p.2 ms rs = true then outR L p.2 (m p.1) else .stuck
  | none => .stuck
theorem s_fn (ms : List Pm) (m : Mir) (as : DA) (L : LS) : dFn ms m as L = (as L).bind fun rs L1 => onA ms m rs L1 (argD L1 ms rs) := by
  unfold dFn
  cases as L with
  | ok rs L1 => simp only [Rs.bind_ok]; unfold callR onA outR; split <;> first | (simp_all; done) | (simp_all; rfl) | rfl
  | exc e L => rfl
  | stuck => rfl
theorem s_onA (ms : List Pm) (m : Mir) (rs : List R) (L : LS) (ds : List D) (is : List Nat) : onA ms m rs L (some (ds, is)) = if apart is ms rs = true then outR L is (m ds) else .stuck := rfl
theorem s_arg0 (L : LS) : argD L [] [] = some ([], []) := rfl
def argV (d : D) : Option (List D × List Nat) → Option (List D × List Nat)
  | some p => some (d :: p.1, p.2)
  | none => none
theorem s_argV (d : D) (ds : List D) (is : List Nat) : argV d (some (ds, is)) = some (d :: ds, is) := rfl
theorem s_argv (L : LS) (ms : List Pm) (d : D) (rs : List R) : argD L (.val :: ms) (.v d :: rs) = argV d (argD L ms rs) := by
  simp only [argD]; unfold argV; split <;> first | (simp_all; done) | (simp_all; rfl) | rfl
def argB : Option D → Option (List D × List Nat) → Option (List D × List Nat)
  | some d, some p => some (d :: p.1, p.2)
  | _, _ => none
theorem s_argB (d : D) (ds : List D) (is : List Nat) : argB (some d) (some (ds, is)) = some (d :: ds, is) := rfl
theorem s_argb (L : LS) (ms : List Pm) (r : R) (rs : List R) : argD L (.bor :: ms) (r :: rs) = argB (peek L r) (argD L ms rs) := by
  simp only [argD]; unfold argB; split <;> first | (simp_all; done) | (simp_all; rfl) | rfl
def argI (i : Nat) : Option Sl → Option (List D × List Nat) → Option (List D × List Nat)
  | some (.obj m d), some p => if (m.wr && !p.2.contains i) = true then some (d :: p.1, i :: p.2) else none
  | _, _ => none
theorem s_argI (i : Nat) (m : Md) (d : D) (ds : List D) (is : List Nat) (h : (m.wr && !is.contains i) = true) : argI i (some (.obj m d)) (some (ds, is)) = some (d :: ds, i :: is) := by simp only [argI, h, if_true]
theorem s_argi (L : LS) (ms : List Pm) (i : Nat) (rs : List R) : argD L (.io :: ms) (.s i :: rs) = argI i L[i]? (argD L ms rs) := by
  simp only [argD]; unfold argI; split <;> first | (simp_all; done) | (simp_all; rfl) | rfl
theorem s_setIo0 (L : LS) : setIo L [] [] = some L := rfl
theorem s_outR {L L' : LS} {is : List Nat} {fr : Bool} {d : D} {outs : List D} (h : setIo L is outs = some L') : outR L is (.ok fr d outs) = .ok (if fr = true then .t d else .v d) L' := by simp only [outR, h]
theorem s_out0 (L : LS) (fr : Bool) (d : D) : outR L [] (.ok fr d []) = .ok (if fr = true then .t d else .v d) L := rfl
def out1 (L : LS) (i : Nat) (fr : Bool) (d o : D) : Option Sl → Rs R
  | some (.obj m _) => .ok (if fr = true then .t d else .v d) (L.set i (.obj m o))
  | _ => .stuck
theorem s_out1 (L : LS) (i : Nat) (fr : Bool) (d o : D) : outR L [i] (.ok fr d [o]) = out1 L i fr d o L[i]? := by
  unfold outR out1
  cases h : L[i]? with
  | none => simp [setIo, h]
  | some s => cases s <;> simp [setIo, h]
theorem s_out1o (L : LS) (i : Nat) (fr : Bool) (d o e : D) (m : Md) : out1 L i fr d o (some (.obj m e)) = .ok (if fr = true then .t d else .v d) (L.set i (.obj m o)) := rfl
/-! methods that change their object -/
def onMu (g : GMut) (i : Nat) (ds : List D) (L : LS) : Option Sl → Rs R
  | some (.obj m d) => if m.wr = true then match g d ds with
    | some (d', res) => .ok (.v res) (L.set i (.obj m d'))
    | none => .stuck
    else .stuck
  | _ => .stuck
def muO (i : Nat) (m : Md) (L : LS) : Option (D × D) → Rs R
  | some p => .ok (.v p.2) (L.set i (.obj m p.1))
  | none => .stuck
theorem s_onMu (g : GMut) (i : Nat) (ds : List D) (L : LS) (m : Md) (d : D) (hw : m.wr = true) : onMu g i ds L (some (.obj m d)) = muO i m L (g d ds) := by
  simp only [onMu, hw, if_true]; unfold muO; split <;> first | (simp_all; done) | (simp_all; rfl) | rfl
theorem s_muO (i : Nat) (m : Md) (L : LS) (d r : D) : muO i m L (some (d, r)) = .ok (.v r) (L.set i (.obj m d)) := rfl
theorem s_onMut (g : GMut) (i : Nat) (ds : List D) (L : LS) : onMut g i ds L = onMu g i ds L L[i]? := by
  unfold onMut onMu
  cases h : L[i]? with
  | none => rfl
  | some s => cases s <;> rfl
def onRc (o : Option Nat) (k : Nat → Rs R) : Rs R := match o with
  | some i => k i
  | none => .stuck
theorem s_onRc (i : Nat) (k : Nat → Rs R) : onRc (some i) k = k i := rfl
theorem s_mut (T : String) (g : GMut) (fo : DE) (as : LS → Rs (List D)) (L : LS) : dMut T g fo as L = (fo L).bind fun r L1 => onRc (recv T r L1) fun i => (as L1).bind fun ds L2 => onMu g i ds L2 L2[i]? := by
  unfold dMut
  cases fo L with
  | ok r L1 =>
    simp only [Rs.bind_ok, s_onMut]
    unfold onRc
    split <;> first | (simp_all; done) | (simp_all; rfl) | rfl
  | exc e L => rfl
  | stuck => rfl
def rcS (T : String) (i : Nat) : Option Sl → Option Nat
  | some (.obj _ d) => if tyOk T d = true then some i else none
  | _ => none
theorem s_rc (T : String) (i : Nat) (L : LS) : recv T (.s i) L = rcS T i L[i]? := by
  cases h : L[i]? with
  | none => simp only [recv, h]; rfl
  | some s => simp only [recv, h]; cases s <;> first | rfl | (rename_i m d; cases m <;> rfl)
theorem s_rcL (i : Nat) (m : Md) (xs : List D) : rcS "list" i (some (.obj m (.lst xs))) = some i := by simp [rcS, tyOk]
theorem s_app (xs : List D) (y : D) : gApp (.lst xs) [y] = if lenOk xs.length = true then some (.lst (xs ++ [y]), .non) else none := rfl
theorem s_ext (xs ys : List D) : gExt (.lst xs) [.lst ys] = if lenOk (xs.length + ys.length) = true then some (.lst (xs ++ ys), .non) else none := rfl
def popO (xs : List D) (i : Nat) : Option D → Option (D × D)
  | some y => some (.lst (xs.eraseIdx i), y)
  | none => none
theorem s_popO (xs : List D) (i : Nat) (y : D) : popO xs i (some y) = some (.lst (xs.eraseIdx i), y) := rfl
theorem s_popAt (xs : List D) (i : Int) : gPopAt (.lst xs) [.int i] = if (decide (0 ≤ i) && lenOk xs.length) = true then popO xs i.toNat xs[i.toNat]? else none := by
  show (if (decide (0 ≤ i) && lenOk xs.length) = true then (match xs[i.toNat]? with
    | some y => some (D.lst (xs.eraseIdx i.toNat), y)
    | none => none) else none) = _
  unfold popO
  split
  · split <;> simp_all
  · rfl
/-! stores -/
def onSt (y : D) (L : LS) (ro : R) (oi : Option D) : Fl := match ro, oi with
  | .s j, some i => match L[j]? with
    | some (.obj m d) => if m.wr = true then match gStore d i y with
      | some d' => .nx (L.set j (.obj m d'))
      | none => .stuck
      else .stuck
    | _ => .stuck
  | _, _ => .stuck
def onFf (o : Option (D × LS)) (k : D → LS → Fl) : Fl := match o with
  | some p => k p.1 p.2
  | none => .stuck
theorem s_onFf (d : D) (L : LS) (k : D → LS → Fl) : onFf (some (d, L)) k = k d L := rfl
theorem s_store (fe fo fi : DE) (L : LS) : dStore fe fo fi L = (fe L).fl fun r L1 => onFf (fz L1 r) fun y L2 => (fo L2).fl fun ro L3 => (fi L3).fl fun ri L4 => onSt y L4 ro (peek L4 ri) := by
  unfold dStore
  cases fe L with
  | ok r L1 =>
    simp only [Rs.fl_ok]
    cases hz : fz L1 r with
    | none => rfl
    | some p =>
      obtain ⟨y, L2⟩ := p
      simp only [s_onFf]
      cases fo L2 with
      | ok ro L3 =>
        simp only [Rs.fl_ok]
        cases fi L3 with
        | ok ri L4 =>
          simp only [Rs.fl_ok]
          unfold onSt
          cases ro <;> cases peek L4 ri <;> first | rfl | (simp only <;> done) | (split <;> first | (simp_all; done) | (simp_all; rfl) | rfl)
        | exc e L => rfl
        | stuck => rfl
      | exc e L => rfl
      | stuck => rfl
  | exc e L => rfl
  | stuck => rfl
def stO (j : Nat) (m : Md) (L : LS) : Option D → Fl
  | some d' => .nx (L.set j (.obj m d'))
  | none => .stuck
def stS (y i : D) (j : Nat) (L : LS) : Option Sl → Fl
  | some (.obj m d) => if m.wr = true then stO j m L (gStore d i y) else .stuck
  | _ => .stuck
theorem s_onSt (y i : D) (j : Nat) (L : LS) : onSt y L (.s j) (some i) = stS y i j L L[j]? := by
  cases h : L[j]? with
  | none => simp only [onSt, h]; rfl
  | some s =>
    simp only [onSt, h]
    cases s with
    | obj m d =>
      simp only [stS]
      split
      · unfold stO; split <;> first | (simp_all; done) | (simp_all; rfl) | rfl
      · rfl
    | _ => rfl
theorem s_stS (y i : D) (j : Nat) (L : LS) (m : Md) (d : D) (hw : m.wr = true) : stS y i j L (some (.obj m d)) = stO j m L (gStore d i y) := by simp only [stS, hw, if_true]
theorem s_stO (j : Nat) (m : Md) (L : LS) (d : D) : stO j m L (some d) = .nx (L.set j (.obj m d)) := rfl
theorem s_gSt (xs : List D) (k : Int) (y : D) : gStore (.lst xs) (.int k) y = (ixN xs.length k).map fun j => .lst (xs.set j y) := rfl
theorem s_stSo (y i : D) (j : Nat) (L : LS) (d : D) : stS y i j L (some (.obj .own d)) = stO j .own L (gStore d i y) := rfl
theorem s_stSi (y i : D) (j k : Nat) (L : LS) (d : D) : stS y i j L (some (.obj (.io k) d)) = stO j (.io k) L (gStore d i y) := rfl
theorem s_onMuo (g : GMut) (i : Nat) (ds : List D) (L : LS) (d : D) : onMu g i ds L (some (.obj .own d)) = muO i .own L (g d ds) := s_onMu g i ds L .own d rfl
theorem s_onMui (g : GMut) (i k : Nat) (ds : List D) (L : LS) (d : D) : onMu g i ds L (some (.obj (.io k) d)) = muO i (.io k) L (g d ds) := s_onMu g i ds L (.io k) d rfl
theorem s_argIo (i : Nat) (d : D) (ds : List D) (is : List Nat) : argI i (some (.obj .own d)) (some (ds, is)) = if is.contains i = true then none else some (d :: ds, i :: is) := by
  simp only [argI, Md.wr]; cases is.contains i <;> rfl
theorem s_argIi (i k : Nat) (d : D) (ds : List D) (is : List Nat) : argI i (some (.obj (.io k) d)) (some (ds, is)) = if is.contains i = true then none else some (d :: ds, i :: is) := by
  simp only [argI, Md.wr]; cases is.contains i <;> rfl
/-! slices -/
theorem s_oNone (L : LS) : dONone L = .ok none L := rfl
theorem s_oSome (f : DE) (L : LS) : dOSome f L = (f L).bind fun r L1 => onI (peek L1 r) L1 := by
  unfold dOSome
  cases f L with
  | ok r L1 => simp only [Rs.bind_ok]; unfold onI; split <;> first | (simp_all; done) | (simp_all; rfl) | rfl
  | exc e L => rfl
  | stuck => rfl
theorem s_sl (fa : DE) (fl fh : LS → Rs (Option Int)) (L : LS) : dSl fa fl fh L = (fa L).bind fun r L1 => (fl L1).bind fun lo L2 => (fh L2).bind fun hi L3 => onU (fun d => gSl d lo hi) (peek L3 r) L3 := by
  unfold dSl
  cases fa L with
  | ok r L1 =>
    simp only [Rs.bind_ok]
    cases fl L1 with
    | ok lo L2 =>
      simp only [Rs.bind_ok]
      cases fh L2 with
      | ok hi L3 => simp only [Rs.bind_ok]; unfold onU onG; split <;> first | (simp_all; done) | (simp_all; rfl) | rfl
      | exc e L => rfl
      | stuck => rfl
    | exc e L => rfl
    | stuck => rfl
  | exc e L => rfl
  | stuck => rfl
theorem s_sl3 (fa : DE) (fl fh fs : LS → Rs (Option Int)) (L : LS) : dSl3 fa fl fh fs L = (fa L).bind fun r L1 => (fl L1).bind fun lo L2 => (fh L2).bind fun hi L3 => (fs L3).bind fun st L4 => onU (fun d => gSl3 d lo hi st) (peek L4 r) L4 := by
  unfold dSl3
  cases fa L with
  | ok r L1 =>
    simp only [Rs.bind_ok]
    cases fl L1 with
    | ok lo L2 =>
      simp only [Rs.bind_ok]
      cases fh L2 with
      | ok hi L3 =>
        simp only [Rs.bind_ok]
        cases fs L3 with
        | ok hi L3 => simp only [Rs.bind_ok]; unfold onU onG; split <;> first | (simp_all; done) | (simp_all; rfl) | rfl
        | exc e L => rfl
        | stuck => rfl
      | exc e L => rfl
      | stuck => rfl
    | exc e L => rfl
    | stuck => rfl
  | exc e L => rfl
  | stuck => rfl
theorem s_slL (xs : List D) (lo hi : Option Int) : gSl (.lst xs) lo hi = some (.t (.lst (cutD xs lo hi))) := rfl
theorem s_slT (xs : List D) (lo hi : Option Int) : gSl (.tup xs) lo hi = some (.v (.tup (cutD xs lo hi))) := rfl
theorem s_sl3L (xs : List D) (lo hi : Option Int) (st : Option Int) : gSl3 (.lst xs) lo hi st = if decide (st ≠ some 0) = true then some (.t (.lst (pickG xs lo hi st))) else none := rfl
/-! list(range) -/
theorem s_lrg1 (f : DE) (L : LS) : dLRg1 f L = (f L).bind fun r L1 => onU (fun d => match d with | .int b => if rgEok 0 b = true then some (.t (.lst (rgE 0 b))) else none | _ => none) (peek L1 r) L1 := by
  unfold dLRg1
  cases f L with
  | ok r L1 =>
    simp only [Rs.bind_ok]
    cases peek L1 r with
    | none => rfl
    | some d => cases d <;> simp [onU, onG]; split <;> rfl
  | exc e L => rfl
  | stuck => rfl
theorem s_lrg2 (f g : DE) (L : LS) : dLRg2 f g L = (f L).bind fun r L1 => (g L1).bind fun r2 L2 => onO (fun d e => match d, e with | .int a, .int b => if rgEok a b = true then some (.t (.lst (rgE a b))) else none | _, _ => none) (peek L2 r) (peek L2 r2) L2 := by
  unfold dLRg2
  cases f L with
  | ok r L1 =>
    simp only [Rs.bind_ok]
    cases g L1 with
    | ok r2 L2 =>
      simp only [Rs.bind_ok]
      cases peek L2 r with
      | none => rfl
      | some d =>
        cases peek L2 r2 with
        | none => cases d <;> rfl
        | some e => cases d <;> cases e <;> simp [onO, onG]; split <;> rfl
    | exc e L => rfl
    | stuck => rfl
  | exc e L => rfl
  | stuck => rfl
/-! a def's end -/
def endO (fr : Bool) (d : D) : Option (List D) → Ro
  | some outs => .ok fr d outs
  | none => .stuck
def endR (o : Option (List D)) : Option (Bool × D) → Ro
  | some p => endO p.1 p.2 o
  | none => .stuck
theorem s_run (ms : List Pm) (n : Nat) (g : DS) (ds : List D) : runF ms n g ds = endL ms (g (startL ms n ds)) := rfl
theorem s_endN (ms : List Pm) (L : LS) : endL ms (.nx L) = endO false .non (outsL L (ioIx ms 0 0)) := by
  unfold endL endO; rfl
theorem s_endR (ms : List Pm) (r : R) (L : LS) : endL ms (.ret r L) = endR (outsL L (ioIx ms 0 0)) (resL L r) := by
  unfold endL endR endO
  simp only
  cases outsL L (ioIx ms 0 0) <;> cases resL L r <;> rfl
theorem s_endRp (o : Option (List D)) (fr : Bool) (d : D) : endR o (some (fr, d)) = endO fr d o := rfl
theorem s_endO (fr : Bool) (d : D) (os : List D) : endO fr d (some os) = .ok fr d os := rfl
theorem s_nx (fr : Bool) (d : D) (os : List D) (f : Mir) (ds : List D) (h : f ds = .ok fr d os) : noExc f ds = .ok fr d os := by unfold noExc; rw [h]
def noX : Ro → Ro
  | .exc _ _ => .stuck
  | r => r
theorem s_noExc (f : Mir) (ds : List D) : noExc f ds = noX (f ds) := by
  unfold noExc noX
  split <;> first | (simp_all; done) | (simp_all; rfl) | rfl
theorem s_noX (fr : Bool) (d : D) (os : List D) : noX (.ok fr d os) = .ok fr d os := rfl
theorem s_resv (L : LS) (d : D) : resL L (.v d) = some (false, d) := rfl
theorem s_rest (L : LS) (d : D) : resL L (.t d) = some (true, d) := rfl
def resS : Option Sl → Option (Bool × D)
  | some (.val d) => some (false, d)
  | some (.obj .own d) => some (true, d)
  | _ => none
theorem s_ress (L : LS) (i : Nat) : resL L (.s i) = resS L[i]? := by
  cases h : L[i]? with
  | none => simp only [resL, h]; rfl
  | some s => simp only [resL, h]; cases s <;> first | rfl | (rename_i m d; cases m <;> rfl)
theorem s_resS1 (d : D) : resS (some (.val d)) = some (false, d) := rfl
theorem s_resS2 (d : D) : resS (some (.obj .own d)) = some (true, d) := rfl
theorem s_outs0 (L : LS) : outsL L [] = some [] := rfl
def outC : Option D → Option (List D) → Option (List D)
  | some d, some ds => some (d :: ds)
  | _, _ => none
theorem s_outC (d : D) (ds : List D) : outC (some d) (some ds) = some (d :: ds) := rfl
theorem s_outs (L : LS) (p : Nat × Nat) (ps : List (Nat × Nat)) : outsL L (p :: ps) = outC (outAt L p) (outsL L ps) := by
  simp only [outsL]; unfold outC; split <;> first | (simp_all; done) | (simp_all; rfl) | rfl
def outS (k : Nat) : Option Sl → Option D
  | some (.obj (.io j) d) => if j = k then some d else none
  | _ => none
theorem s_outAt (L : LS) (i k : Nat) : outAt L (i, k) = outS k L[i]? := by
  unfold outAt outS
  cases h : L[i]? with
  | none => rfl
  | some s =>
    cases s with
    | obj m d => cases m <;> rfl
    | _ => rfl
theorem s_outS (k : Nat) (d : D) : outS k (some (.obj (.io k) d)) = some d := by simp [outS]
theorem s_ioIx0 (i k : Nat) : ioIx [] i k = [] := rfl
theorem s_ioIxv (ms : List Pm) (i k : Nat) : ioIx (.val :: ms) i k = ioIx ms (i + 1) k := rfl
theorem s_ioIxb (ms : List Pm) (i k : Nat) : ioIx (.bor :: ms) i k = ioIx ms (i + 1) k := rfl
theorem s_ioIxi (ms : List Pm) (i k : Nat) : ioIx (.io :: ms) i k = (i, k) :: ioIx ms (i + 1) (k + 1) := rfl
theorem s_init0 (k : Nat) : initL [] [] k = [] := rfl
theorem s_initv (ms : List Pm) (d : D) (ds : List D) (k : Nat) : initL (.val :: ms) (d :: ds) k = .val d :: initL ms ds k := rfl
theorem s_initb (ms : List Pm) (d : D) (ds : List D) (k : Nat) : initL (.bor :: ms) (d :: ds) k = .bor d :: initL ms ds k := rfl
theorem s_initi (ms : List Pm) (d : D) (ds : List D) (k : Nat) : initL (.io :: ms) (d :: ds) k = .obj (.io k) d :: initL ms ds (k + 1) := rfl
theorem s_wr1 : Md.own.wr = true := rfl
theorem s_wr2 (k : Nat) : (Md.io k).wr = true := rfl
theorem s_wipe0 (L : LS) : wipeL L [] = L := rfl
theorem s_wipe (L : LS) (v : Nat) (vs : List Nat) : wipeL L (v :: vs) = (wipeL L vs).set v .un := rfl
theorem s_ap0 (is : List Nat) : apart is [] [] = true := rfl
theorem s_apv (is : List Nat) (ms : List Pm) (r : R) (rs : List R) : apart is (.val :: ms) (r :: rs) = apart is ms rs := rfl
theorem s_api (is : List Nat) (ms : List Pm) (r : R) (rs : List R) : apart is (.io :: ms) (r :: rs) = apart is ms rs := rfl
theorem s_apbv (is : List Nat) (ms : List Pm) (d : D) (rs : List R) : apart is (.bor :: ms) (.v d :: rs) = apart is ms rs := rfl
theorem s_apbt (is : List Nat) (ms : List Pm) (d : D) (rs : List R) : apart is (.bor :: ms) (.t d :: rs) = apart is ms rs := rfl
theorem s_apbs (is : List Nat) (ms : List Pm) (i : Nat) (rs : List R) : apart is (.bor :: ms) (.s i :: rs) = (!is.contains i && apart is ms rs) := rfl
end DV.S0
namespace DV
open PySem PySem.Spec PyProof.Rows L2 DV.S0


/-! ### what follows, by name -/
def kOp2 (g : GOp) (r1 r2 : R) (L : LS) : Rs R := onO g (peek L r1) (peek L r2) L
def kOp (g : GOp) (fb : DE) (r1 : R) (L : LS) : Rs R := (fb L).bind (kOp2 g r1)
def kTest (r : R) (L : LS) : Rs Bool := onB (peek L r) L
def kNotT (b : Bool) (L : LS) : Rs Bool := .ok (!b) L
def kAndT (g : DT) (b : Bool) (L : LS) : Rs Bool := if b = true then g L else .ok false L
def kOrT (g : DT) (b : Bool) (L : LS) : Rs Bool := if b = true then .ok true L else g L
def kBl (k : Bool → LS → Rs R) (r : R) (L : LS) : Rs R := onV (peek L r) k L
def kAndV (g : DE) (b : Bool) (L : LS) : Rs R := if b = true then g L else .ok (.v (.bl false)) L
def kOrV (g : DE) (b : Bool) (L : LS) : Rs R := if b = true then .ok (.v (.bl true)) L else g L
def kNotV (b : Bool) (L : LS) : Rs R := .ok (.v (.bl (!b))) L
def kIf (f g : DE) (b : Bool) (L : LS) : Rs R := if b = true then f L else g L
def kCh2 (g' : GOp) (r2 r3 : R) (L : LS) : Rs R := onO g' (peek L r2) (peek L r3) L
def kCh (g' : GOp) (fc : DE) (r2 : R) (b : Bool) (L : LS) : Rs R := if b = true then (fc L).bind (kCh2 g' r2) else .ok (.v (.bl false)) L
def kUn (g : D → Option R) (r : R) (L : LS) : Rs R := onU g (peek L r) L
def kAC2 (r : R) (rs : List R) (L : LS) : Rs (List R) := .ok (r :: rs) L
def kAC (g : DA) (r : R) (L : LS) : Rs (List R) := (g L).bind (kAC2 r)
def kFC3 (d : D) (ds : List D) (L : LS) : Rs (List D) := .ok (d :: ds) L
def kFC2 (g : LS → Rs (List D)) (d : D) (L : LS) : Rs (List D) := (g L).bind (kFC3 d)
def kFC (g : LS → Rs (List D)) (r : R) (L : LS) : Rs (List D) := onF (fz L r) (kFC2 g)
def kAFC3 (d : D) (rs : List R) (L : LS) : Rs (List R) := .ok (.v d :: rs) L
def kAFC2 (g : DA) (d : D) (L : LS) : Rs (List R) := (g L).bind (kAFC3 d)
def kAFC (g : DA) (r : R) (L : LS) : Rs (List R) := onF (fz L r) (kAFC2 g)
def kLst (ds : List D) (L : LS) : Rs R := if lenOk ds.length = true then .ok (.t (.lst ds)) L else .stuck
def kTup (ds : List D) (L : LS) : Rs R := if lenOk ds.length = true then .ok (.v (.tup ds)) L else .stuck
def kCall (g : GCall) (rs : List R) (L : LS) : Rs R := onLs g (peeks L rs) L
def kDrop {α : Type} (_ : α) (L : LS) : Fl := .nx L
def kRet (r : R) (L : LS) : Fl := .ret r L
def kIfS (g h : DS) (b : Bool) (L : LS) : Fl := if b = true then g L else h L
def kAsg (i : Nat) (r : R) (L : LS) : Fl := onN (asgR i r L)
def kAug (i : Nat) (g : GOp) (d : D) (r : R) (L : LS) : Fl := (onO g (some d) (peek L r) L).fl (kAsg i)
def kT (is : List Nat) (rs : List R) (L : LS) : Fl := onT is (fzS rs L)
def kFor (t : Tg) (g : DS) (ds : List D) (L : LS) : Fl := forL t g ds L
def kWh (c : DT) (g : DS) (n : Nat) (b : Bool) (L : LS) : Fl := if b = true then (g L).loop (whL c g n) else .nx L
def kISeq (r : R) (L : LS) : Rs (List D) := onF (fz L r) onIt
def kIRg (on : List D → Option (List D)) (rs : List R) (L : LS) : Rs (List D) := onRs on (peeks L rs) L
def kLC2 (acc : List D) (L : LS) : Rs R := .ok (.t (.lst acc)) L
def kLC (vs : List Nat) (t : Tg) (c : DT) (e : DE) (ds : List D) (L : LS) : Rs R := (lcL vs t c e ds [] (wipeL L vs)).bind kLC2
def kL3 (vs : List Nat) (t : Tg) (c : DT) (e : DE) (ds acc : List D) (y : D) (L : LS) : Rs (List D) := if lenOk acc.length = true then lcL vs t c e ds (acc ++ [y]) (wipeL L vs) else .stuck
def kL2 (vs : List Nat) (t : Tg) (c : DT) (e : DE) (ds acc : List D) (r : R) (L : LS) : Rs (List D) := onF (fz L r) (kL3 vs t c e ds acc)
def kL1 (vs : List Nat) (t : Tg) (c : DT) (e : DE) (ds acc : List D) (b : Bool) (L : LS) : Rs (List D) := if b = true then ((e L).wp vs).bind (kL2 vs t c e ds acc) else lcL vs t c e ds acc (wipeL L vs)
def kFn (ms : List Pm) (m : Mir) (rs : List R) (L : LS) : Rs R := onA ms m rs L (argD L ms rs)
def kMut3 (g : GMut) (i : Nat) (ds : List D) (L : LS) : Rs R := onMu g i ds L L[i]?
def kMut2 (g : GMut) (as : LS → Rs (List D)) (L : LS) (i : Nat) : Rs R := (as L).bind (kMut3 g i)
def kMut (T : String) (g : GMut) (as : LS → Rs (List D)) (r : R) (L : LS) : Rs R := onRc (recv T r L) (kMut2 g as L)
def kSt4 (y : D) (ro ri : R) (L : LS) : Fl := onSt y L ro (peek L ri)
def kSt3 (fi : DE) (y : D) (ro : R) (L : LS) : Fl := (fi L).fl (kSt4 y ro)
def kSt2 (fo fi : DE) (y : D) (L : LS) : Fl := (fo L).fl (kSt3 fi y)
def kSt (fo fi : DE) (r : R) (L : LS) : Fl := onFf (fz L r) (kSt2 fo fi)
def kOS (r : R) (L : LS) : Rs (Option Int) := onI (peek L r) L
def kSl2 (r : R) (lo hi : Option Int) (L : LS) : Rs R := onU (fun d => gSl d lo hi) (peek L r) L
def kSl1 (fh : LS → Rs (Option Int)) (r : R) (lo : Option Int) (L : LS) : Rs R := (fh L).bind (kSl2 r lo)
def kSl (fl fh : LS → Rs (Option Int)) (r : R) (L : LS) : Rs R := (fl L).bind (kSl1 fh r)
def kSl33 (r : R) (lo hi st : Option Int) (L : LS) : Rs R := onU (fun d => gSl3 d lo hi st) (peek L r) L
def kSl32 (fs : LS → Rs (Option Int)) (r : R) (lo hi : Option Int) (L : LS) : Rs R := (fs L).bind (kSl33 r lo hi)
def kSl31 (fh fs : LS → Rs (Option Int)) (r : R) (lo : Option Int) (L : LS) : Rs R := (fh L).bind (kSl32 fs r lo)
def kSl3 (fl fh fs : LS → Rs (Option Int)) (r : R) (L : LS) : Rs R := (fl L).bind (kSl31 fh fs r)
def gLRg1 (d : D) : Option R := match d with | .int b => if rgEok 0 b = true then some (.t (.lst (rgE 0 b))) else none | _ => none
def kLRg1 (r : R) (L : LS) : Rs R := onU gLRg1 (peek L r) L
def gLRg2 : GOp := fun d e => match d, e with | .int a, .int b => if rgEok a b = true then some (.t (.lst (rgE a b))) else none | _, _ => none
def kLRg22 (r r2 : R) (L : LS) : Rs R := onO gLRg2 (peek L r) (peek L r2) L
def kLRg2 (g : DE) (r : R) (L : LS) : Rs R := (g L).bind (kLRg22 r)
def kC2 (g g' : GOp) (fc : DE) (r1 r2 : R) (L : LS) : Rs R := S0.onC g g' fc r2 (peek L r1) (peek L r2) L
def kC (g g' : GOp) (fb fc : DE) (r1 : R) (L : LS) : Rs R := (fb L).bind (kC2 g g' fc r1)

theorem n_s_op (g : GOp) (fa fb : DE) (L : LS) : dOp g fa fb L = (fa L).bind (kOp g fb) := S0.s_op ..
theorem n_s_test (f : DE) (L : LS) : dTest f L = (f L).bind kTest := S0.s_test ..
theorem n_s_notT (f : DT) (L : LS) : dNotT f L = (f L).bind kNotT := S0.s_notT ..
theorem n_s_andT (f g : DT) (L : LS) : dAndT f g L = (f L).bind (kAndT g) := S0.s_andT ..
theorem n_s_orT (f g : DT) (L : LS) : dOrT f g L = (f L).bind (kOrT g) := S0.s_orT ..
theorem n_s_andV (f g : DE) (L : LS) : dAndV f g L = (f L).bind (kBl (kAndV g)) := S0.s_andV ..
theorem n_s_orV (f g : DE) (L : LS) : dOrV f g L = (f L).bind (kBl (kOrV g)) := S0.s_orV ..
theorem n_s_notV (f : DE) (L : LS) : dNotV f L = (f L).bind (kBl kNotV) := S0.s_notV ..
theorem n_s_if (t : DT) (f g : DE) (L : LS) : dIf t f g L = (t L).bind (kIf f g) := S0.s_if ..
theorem n_s_onC (g g' : GOp) (fc : DE) (r2 : R) (d e : D) (L : LS) : onC g g' fc r2 (some d) (some e) L = (onG (g d e) L).bind (kBl (kCh g' fc r2)) := S0.s_onC ..
theorem n_s_chLeLt (fa fb fc : DE) (L : LS) : dChain gLe gLt fa fb fc L = (fa L).bind (kC gLe gLt fb fc) := S0.s_chLeLt ..
theorem n_s_chLeLe (fa fb fc : DE) (L : LS) : dChain gLe gLe fa fb fc L = (fa L).bind (kC gLe gLe fb fc) := S0.s_chLeLe ..
theorem n_s_chLtLe (fa fb fc : DE) (L : LS) : dChain gLt gLe fa fb fc L = (fa L).bind (kC gLt gLe fb fc) := S0.s_chLtLe ..
theorem n_s_un (g : D → Option R) (f : DE) (L : LS) : dUn g f L = (f L).bind (kUn g) := S0.s_un ..
theorem n_s_ACons (f : DE) (g : DA) (L : LS) : dACons f g L = (f L).bind (kAC g) := S0.s_ACons ..
theorem n_s_FCons (f : DE) (g : LS → Rs (List D)) (L : LS) : dFCons f g L = (f L).bind (kFC g) := S0.s_FCons ..
theorem n_s_AFCons (f : DE) (g : DA) (L : LS) : dAFCons f g L = (f L).bind (kAFC g) := S0.s_AFCons ..
theorem n_s_lst (g : LS → Rs (List D)) (L : LS) : dLst g L = (g L).bind kLst := S0.s_lst ..
theorem n_s_tup (g : LS → Rs (List D)) (L : LS) : dTup g L = (g L).bind kTup := S0.s_tup ..
theorem n_s_call (g : GCall) (as : DA) (L : LS) : dCall g as L = (as L).bind (kCall g) := S0.s_call ..
theorem n_s_seq (g h : DS) (L : LS) : dSeq g h L = (g L).seq h := S0.s_seq ..
theorem n_s_drop (f : DE) (L : LS) : dDrop f L = (f L).fl kDrop := S0.s_drop ..
theorem n_s_ret (f : DE) (L : LS) : dRet f L = (f L).fl kRet := S0.s_ret ..
theorem n_s_ifS (t : DT) (g h : DS) (L : LS) : dIfS t g h L = (t L).fl (kIfS g h) := S0.s_ifS ..
theorem n_s_asg (i : Nat) (f : DE) (L : LS) : dAsg i f L = (f L).fl (kAsg i) := S0.s_asg ..
theorem n_s_augS (i : Nat) (g : GOp) (f : DE) (L : LS) (d : D) : augS i g f L (some (.val d)) = (f L).fl (kAug i g d) := S0.s_augS ..
theorem n_s_tupAsg (is : List Nat) (as : DA) (L : LS) : dTupAsg is as L = (as L).fl (kT is) := S0.s_tupAsg ..
theorem n_s_for (t : Tg) (fi : LS → Rs (List D)) (g : DS) (L : LS) : dFor t fi g L = (fi L).fl (kFor t g) := S0.s_for ..
theorem n_whL_succ (c : DT) (g : DS) (n : Nat) (L : LS) : whL c g (n + 1) L = (c L).fl (kWh c g n) := S0.whL_succ ..
theorem n_s_iseq (f : DE) (L : LS) : dISeq f L = (f L).bind kISeq := S0.s_iseq ..
theorem n_s_irg (on : List D → Option (List D)) (as : DA) (L : LS) : dIRg on as L = (as L).bind (kIRg on) := S0.s_irg ..
theorem n_s_izip (as : LS → Rs (List D)) (L : LS) : dIZip as L = (as L).bind onZ := S0.s_izip ..
theorem n_s_lc (vs : List Nat) (t : Tg) (fi : LS → Rs (List D)) (c : DT) (e : DE) (L : LS) : dLC vs t fi c e L = (fi L).bind (kLC vs t c e) := S0.s_lc ..
theorem n_lcL_cons {vs : List Nat} {t : Tg} {c : DT} {e : DE} {d : D} {ds acc : List D} {L L1 : LS} (h : tgSet t d L = some L1) : lcL vs t c e (d :: ds) acc L =
    ((c L1).wp vs).bind (kL1 vs t c e ds acc) := S0.lcL_cons h
theorem n_s_fn (ms : List Pm) (m : Mir) (as : DA) (L : LS) : dFn ms m as L = (as L).bind (kFn ms m) := S0.s_fn ..
theorem n_s_mut (T : String) (g : GMut) (fo : DE) (as : LS → Rs (List D)) (L : LS) : dMut T g fo as L = (fo L).bind (kMut T g as) := S0.s_mut ..
theorem n_s_store (fe fo fi : DE) (L : LS) : dStore fe fo fi L = (fe L).fl (kSt fo fi) := S0.s_store ..
theorem n_s_oSome (f : DE) (L : LS) : dOSome f L = (f L).bind kOS := S0.s_oSome ..
theorem n_s_sl (fa : DE) (fl fh : LS → Rs (Option Int)) (L : LS) : dSl fa fl fh L = (fa L).bind (kSl fl fh) := S0.s_sl ..
theorem n_s_sl3 (fa : DE) (fl fh fs : LS → Rs (Option Int)) (L : LS) : dSl3 fa fl fh fs L = (fa L).bind (kSl3 fl fh fs) := S0.s_sl3 ..
theorem n_s_lrg1 (f : DE) (L : LS) : dLRg1 f L = (f L).bind kLRg1 := S0.s_lrg1 ..
theorem n_s_lrg2 (f g : DE) (L : LS) : dLRg2 f g L = (f L).bind (kLRg2 g) := S0.s_lrg2 ..
end DV
end
section
set_option Elab.async false
set_option linter.all false
set_option maxRecDepth 100000
set_option maxHeartbeats 4000000
/-! facts about data -/
namespace DV
open PySem PySem.Spec PyProof.Rows L2
/-- plain data without bools and texts, of a depth -/
inductive Sm : Nat → D → Prop
  | int {n} (i : Int) : Sm n (.int i)
  | non {n} : Sm n .non
  | lst {n ds} : (∀ d ∈ ds, Sm n d) → Sm (n + 1) (.lst ds)
  | tup {n ds} : (∀ d ∈ ds, Sm n d) → Sm (n + 1) (.tup ds)
theorem Sm.up {n : Nat} {d : D} (h : Sm n d) : ∀ {m : Nat}, n ≤ m → Sm m d := by
  induction h with
  | int i => exact fun _ => .int i
  | non => exact fun _ => .non
  | @lst n ds _ ih =>
    intro m hm
    obtain ⟨k, rfl⟩ : ∃ k, m = k + 1 := ⟨m - 1, by omega⟩
    exact .lst fun d hd => ih d hd (by omega)
  | @tup n ds _ ih =>
    intro m hm
    obtain ⟨k, rfl⟩ : ∃ k, m = k + 1 := ⟨m - 1, by omega⟩
    exact .tup fun d hd => ih d hd (by omega)
theorem pys_ex {n : Nat} : ∀ {ds : List D}, (∀ d ∈ ds, ∃ p, d.py = some p ∧ p.canLay0 = true ∧ p.depth ≤ n) → ∃ ps, pys ds = some ps ∧ PyData.canLayAll0 ps = true ∧ PyData.depthAll ps ≤ n
  | [], _ => ⟨[], rfl, rfl, Nat.zero_le _⟩
  | d :: ds, h => by
    obtain ⟨p, h1, h2, h3⟩ := h d (by simp)
    obtain ⟨ps, k1, k2, k3⟩ := pys_ex (ds := ds) fun e he => h e (by simp [he])
    refine ⟨p :: ps, by simp only [pys, h1, k1]; rfl, by simp only [PyData.canLayAll0, h2, k2]; rfl, ?_⟩
    simp only [PyData.depthAll]
    omega
theorem Sm.py {n : Nat} {d : D} (h : Sm n d) : ∃ p, d.py = some p ∧ p.canLay0 = true ∧ p.depth ≤ n := by
  induction h with
  | int i => exact ⟨_, rfl, rfl, Nat.zero_le _⟩
  | non => exact ⟨_, rfl, rfl, Nat.zero_le _⟩
  | lst _ ih =>
    obtain ⟨ps, h1, h2, h3⟩ := pys_ex ih
    exact ⟨.list ps, by simp only [D.py, h1]; rfl, by simp only [PyData.canLay0, h2], by simp only [PyData.depth]; omega⟩
  | tup _ ih =>
    obtain ⟨ps, h1, h2, h3⟩ := pys_ex ih
    exact ⟨.tuple ps, by simp only [D.py, h1]; rfl, by simp only [PyData.canLay0, h2], by simp only [PyData.depth]; omega⟩
mutual
theorem eqv_iff : ∀ {n m : Nat} {d e : D} {p q : PyData}, Sm n d → Sm m e → d.py = some p → e.py = some q → (PyData.eqv p q = true ↔ d = e)
  | _, _, .int i, e, p, q, h, k, h1, k1 => by
    cases h1
    cases k with
    | int j => cases k1; simp [PyData.eqv]
    | non => cases k1; simp [PyData.eqv]
    | lst _ => simp only [D.py, Option.map_eq_some_iff] at k1; obtain ⟨_, _, rfl⟩ := k1; simp [PyData.eqv]
    | tup _ => simp only [D.py, Option.map_eq_some_iff] at k1; obtain ⟨_, _, rfl⟩ := k1; simp [PyData.eqv]
  | _, _, .non, e, p, q, h, k, h1, k1 => by
    cases h1
    cases k with
    | int j => cases k1; simp [PyData.eqv]
    | non => cases k1; simp [PyData.eqv]
    | lst _ => simp only [D.py, Option.map_eq_some_iff] at k1; obtain ⟨_, _, rfl⟩ := k1; simp [PyData.eqv]
    | tup _ => simp only [D.py, Option.map_eq_some_iff] at k1; obtain ⟨_, _, rfl⟩ := k1; simp [PyData.eqv]
  | _, _, .lst ds, e, p, q, h, k, h1, k1 => by
    simp only [D.py, Option.map_eq_some_iff] at h1
    obtain ⟨ps, h1, rfl⟩ := h1
    cases h with
    | lst hs =>
      cases k with
      | int j => cases k1; simp [PyData.eqv]
      | non => cases k1; simp [PyData.eqv]
      | @lst _ es ks =>
        simp only [D.py, Option.map_eq_some_iff] at k1
        obtain ⟨qs, k1, rfl⟩ := k1
        simp only [PyData.eqv, D.lst.injEq]
        exact eqvAll_iff hs ks h1 k1
      | tup _ => simp only [D.py, Option.map_eq_some_iff] at k1; obtain ⟨_, _, rfl⟩ := k1; simp [PyData.eqv]
  | _, _, .tup ds, e, p, q, h, k, h1, k1 => by
    simp only [D.py, Option.map_eq_some_iff] at h1
    obtain ⟨ps, h1, rfl⟩ := h1
    cases h with
    | tup hs =>
      cases k with
      | int j => cases k1; simp [PyData.eqv]
      | non => cases k1; simp [PyData.eqv]
      | lst _ => simp only [D.py, Option.map_eq_some_iff] at k1; obtain ⟨_, _, rfl⟩ := k1; simp [PyData.eqv]
      | @tup _ es ks =>
        simp only [D.py, Option.map_eq_some_iff] at k1
        obtain ⟨qs, k1, rfl⟩ := k1
        simp only [PyData.eqv, D.tup.injEq]
        exact eqvAll_iff hs ks h1 k1
  | _, _, .bl _, _, _, _, h, _, _, _ => by cases h
  | _, _, .str _, _, _, _, h, _, _, _ => by cases h
  | _, _, .opq _, _, _, _, h, _, _, _ => by cases h
  | _, _, .dct _, _, _, _, h, _, _, _ => by cases h
  | _, _, .dctT _, _, _, _, h, _, _, _ => by cases h
  | _, _, .scr _, _, _, _, h, _, _, _ => by cases h
theorem eqvAll_iff : ∀ {n m : Nat} {ds es : List D} {ps qs : List PyData}, (∀ d ∈ ds, Sm n d) → (∀ d ∈ es, Sm m d) → pys ds = some ps → pys es = some qs → (PyData.eqvAll ps qs = true ↔ ds = es)
  | _, _, [], [], ps, qs, _, _, h1, k1 => by cases h1; cases k1; simp [PyData.eqvAll]
  | _, _, [], e :: es, ps, qs, _, _, h1, k1 => by
    cases h1
    simp only [pys, Option.bind_eq_some_iff, Option.map_eq_some_iff] at k1
    obtain ⟨q, _, qs', _, rfl⟩ := k1
    simp [PyData.eqvAll]
  | _, _, d :: ds, [], ps, qs, _, _, h1, k1 => by
    cases k1
    simp only [pys, Option.bind_eq_some_iff, Option.map_eq_some_iff] at h1
    obtain ⟨q, _, qs', _, rfl⟩ := h1
    simp [PyData.eqvAll]
  | _, _, d :: ds, e :: es, ps, qs, hs, ks, h1, k1 => by
    simp only [pys, Option.bind_eq_some_iff, Option.map_eq_some_iff] at h1 k1
    obtain ⟨p, h2, ps', h3, rfl⟩ := h1
    obtain ⟨q, k2, qs', k3, rfl⟩ := k1
    simp only [PyData.eqvAll, Bool.and_eq_true, List.cons.injEq]
    rw [eqv_iff (hs d (by simp)) (ks e (by simp)) h2 k2, eqvAll_iff (fun x hx => hs x (by simp [hx])) (fun x hx => ks x (by simp [hx])) h3 k3]
end
open Classical in
/-- equal data -/
noncomputable def dq (d e : D) : Bool := decide (d = e)
theorem dq_iff {d e : D} : dq d e = true ↔ d = e := by unfold dq; simp
theorem dq_self (d : D) : dq d d = true := dq_iff.mpr rfl
theorem dq_ne {d e : D} (h : d ≠ e) : dq d e = false := by
  cases q : dq d e with
  | false => rfl
  | true => exact absurd (dq_iff.mp q) h
theorem eqB_sm {n m : Nat} {d e : D} (neg : Bool) (h : Sm n d) (k : Sm m e) (hn : n ≤ 60) (hm : m ≤ 60) : gEqB neg d e = some (.v (.bl (if neg then !dq d e else dq d e))) := by
  obtain ⟨p, h1, h2, h3⟩ := h.py
  obtain ⟨q, k1, k2, k3⟩ := k.py
  have e1 : SeqAt.shaped p = true := by unfold SeqAt.shaped; rw [h2, Bool.true_and]; exact decide_eq_true (by omega)
  have e2 : SeqAt.shaped q = true := by unfold SeqAt.shaped; rw [k2, Bool.true_and]; exact decide_eq_true (by omega)
  have e3 : PyData.eqv p q = dq d e := by
    have := eqv_iff h k h1 k1
    rw [← dq_iff] at this
    cases x : PyData.eqv p q <;> cases y : dq d e <;> simp_all
  unfold gEqB
  simp only [h1, k1, e1, e2, e3, Bool.and_self, if_true]
theorem eq_sm {n m : Nat} {d e : D} (h : Sm n d) (k : Sm m e) (hn : n ≤ 60) (hm : m ≤ 60) : gEq d e = some (.v (.bl (dq d e))) := eqB_sm false h k hn hm
theorem ne_sm {n m : Nat} {d e : D} (h : Sm n d) (k : Sm m e) (hn : n ≤ 60) (hm : m ≤ 60) : gNe d e = some (.v (.bl (!dq d e))) := eqB_sm true h k hn hm
theorem eqB_int (neg : Bool) (i j : Int) : gEqB neg (.int i) (.int j) = some (.v (.bl (if neg then !decide (i = j) else decide (i = j)))) := by
  have : dq (.int i) (.int j) = decide (i = j) := by
    unfold dq
    by_cases h : i = j <;> simp [h]
  rw [eqB_sm (n := 0) (m := 0) neg (.int i) (.int j) (by omega) (by omega), this]
theorem eqB_bl (neg : Bool) (a b : Bool) : gEqB neg (.bl a) (.bl b) = some (.v (.bl (if neg then !(a == b) else (a == b)))) := by
  cases neg <;> cases a <;> cases b <;> rfl
theorem s_eqI (i j : Int) : gEq (.int i) (.int j) = some (.v (.bl (decide (i = j)))) := eqB_int false i j
theorem s_neI (i j : Int) : gNe (.int i) (.int j) = some (.v (.bl (!decide (i = j)))) := eqB_int true i j
theorem s_eqB (i j : Bool) : gEq (.bl i) (.bl j) = some (.v (.bl (i == j))) := eqB_bl false i j
theorem s_neB (i j : Bool) : gNe (.bl i) (.bl j) = some (.v (.bl (!(i == j)))) := eqB_bl true i j
/-- ints as data -/
abbrev dInts (ns : List Int) : List D := ns.map D.int
theorem sm_ints (ns : List Int) : ∀ d ∈ dInts ns, Sm 0 d := by
  intro d hd
  obtain ⟨i, _, rfl⟩ := List.mem_map.mp hd
  exact .int i
theorem sm_lints (ns : List Int) : Sm 1 (.lst (dInts ns)) := .lst (sm_ints ns)
theorem sm_tints (ns : List Int) : Sm 1 (.tup (dInts ns)) := .tup (sm_ints ns)
theorem ints_inj {ns ms : List Int} : dInts ns = dInts ms ↔ ns = ms := by
  constructor
  · intro h
    exact List.map_inj_right (fun a b q => by cases q; rfl) |>.mp h
  · rintro rfl; rfl
/-! bounds -/
theorem mulOk_l {i j : Int} (h : i.natAbs < 2 ^ 64) : mulOk i j = true := by unfold mulOk; simp [h]
theorem mulOk_r {i j : Int} (h : j.natAbs < 2 ^ 64) : mulOk i j = true := by unfold mulOk; simp [h]
theorem divOk_of {i j : Int} (h : 0 < j) (h2 : j < 2 ^ 64) : divOk i j = true := by unfold divOk; simp [h]; omega
theorem posOk_of {i j : Int} (h : 0 < j) : posOk i j = true := by unfold posOk; simp [h]
theorem powOk_of {i j : Int} (h0 : 0 ≤ j) (h1 : j ≤ 1000) (h : i.natAbs < 2 ^ 64) : powOk i j = true := by unfold powOk; simp [h0, h1, h]
theorem lenOk_of {n : Nat} (h : n ≤ 1000000) : lenOk n = true := decide_eq_true h
theorem rgOk_of {i : Int} (h : -(2 ^ 62) ≤ i) (h2 : i < 2 ^ 62) : rgOk i = true := by unfold rgOk; simp; omega
theorem atI_at {α : Type} {xs : List α} {i : Int} (h0 : 0 ≤ i) (h : i < xs.length) : L2.atI xs i = xs[i.toNat]? := by
  unfold L2.atI L2.ixN
  rw [if_pos h0, if_pos h]; rfl
theorem D.ints_ints : ∀ ns : List Int, D.ints (dInts ns) = some ns
  | [] => rfl
  | n :: ns => by
    have := D.ints_ints ns
    simp only [dInts] at this
    simp only [dInts, List.map_cons, D.ints, this]; rfl
theorem D.bls_map : ∀ bs : List Bool, D.bls (bs.map D.bl) = some bs
  | [] => rfl
  | n :: ns => by
    have := D.bls_map ns
    simp only [List.map_cons, D.bls, this]; rfl
theorem atI_0 {α : Type} (x0 : α) (l : List α) : L2.atI (x0 :: l) 0 = some x0 := by
  have h : (0 : Int) < ((x0 :: l).length : Nat) := by simp only [List.length_cons]; omega
  rw [atI_at (by decide) h]; rfl
theorem atI_1 {α : Type} (x0 x1 : α) (l : List α) : L2.atI (x0 :: x1 :: l) 1 = some x1 := by
  have h : (1 : Int) < ((x0 :: x1 :: l).length : Nat) := by simp only [List.length_cons]; omega
  rw [atI_at (by decide) h]; rfl
theorem atI_2 {α : Type} (x0 x1 x2 : α) (l : List α) : L2.atI (x0 :: x1 :: x2 :: l) 2 = some x2 := by
  have h : (2 : Int) < ((x0 :: x1 :: x2 :: l).length : Nat) := by simp only [List.length_cons]; omega
  rw [atI_at (by decide) h]; rfl
theorem atI_3 {α : Type} (x0 x1 x2 x3 : α) (l : List α) : L2.atI (x0 :: x1 :: x2 :: x3 :: l) 3 = some x3 := by
  have h : (3 : Int) < ((x0 :: x1 :: x2 :: x3 :: l).length : Nat) := by simp only [List.length_cons]; omega
  rw [atI_at (by decide) h]; rfl
theorem atI_4 {α : Type} (x0 x1 x2 x3 x4 : α) (l : List α) : L2.atI (x0 :: x1 :: x2 :: x3 :: x4 :: l) 4 = some x4 := by
  have h : (4 : Int) < ((x0 :: x1 :: x2 :: x3 :: x4 :: l).length : Nat) := by simp only [List.length_cons]; omega
  rw [atI_at (by decide) h]; rfl
theorem atI_5 {α : Type} (x0 x1 x2 x3 x4 x5 : α) (l : List α) : L2.atI (x0 :: x1 :: x2 :: x3 :: x4 :: x5 :: l) 5 = some x5 := by
  have h : (5 : Int) < ((x0 :: x1 :: x2 :: x3 :: x4 :: x5 :: l).length : Nat) := by simp only [List.length_cons]; omega
  rw [atI_at (by decide) h]; rfl
theorem atI_6 {α : Type} (x0 x1 x2 x3 x4 x5 x6 : α) (l : List α) : L2.atI (x0 :: x1 :: x2 :: x3 :: x4 :: x5 :: x6 :: l) 6 = some x6 := by
  have h : (6 : Int) < ((x0 :: x1 :: x2 :: x3 :: x4 :: x5 :: x6 :: l).length : Nat) := by simp only [List.length_cons]; omega
  rw [atI_at (by decide) h]; rfl
theorem atI_7 {α : Type} (x0 x1 x2 x3 x4 x5 x6 x7 : α) (l : List α) : L2.atI (x0 :: x1 :: x2 :: x3 :: x4 :: x5 :: x6 :: x7 :: l) 7 = some x7 := by
  have h : (7 : Int) < ((x0 :: x1 :: x2 :: x3 :: x4 :: x5 :: x6 :: x7 :: l).length : Nat) := by simp only [List.length_cons]; omega
  rw [atI_at (by decide) h]; rfl
theorem atI_8 {α : Type} (x0 x1 x2 x3 x4 x5 x6 x7 x8 : α) (l : List α) : L2.atI (x0 :: x1 :: x2 :: x3 :: x4 :: x5 :: x6 :: x7 :: x8 :: l) 8 = some x8 := by
  have h : (8 : Int) < ((x0 :: x1 :: x2 :: x3 :: x4 :: x5 :: x6 :: x7 :: x8 :: l).length : Nat) := by simp only [List.length_cons]; omega
  rw [atI_at (by decide) h]; rfl
theorem atI_9 {α : Type} (x0 x1 x2 x3 x4 x5 x6 x7 x8 x9 : α) (l : List α) : L2.atI (x0 :: x1 :: x2 :: x3 :: x4 :: x5 :: x6 :: x7 :: x8 :: x9 :: l) 9 = some x9 := by
  have h : (9 : Int) < ((x0 :: x1 :: x2 :: x3 :: x4 :: x5 :: x6 :: x7 :: x8 :: x9 :: l).length : Nat) := by simp only [List.length_cons]; omega
  rw [atI_at (by decide) h]; rfl
theorem atI_10 {α : Type} (x0 x1 x2 x3 x4 x5 x6 x7 x8 x9 x10 : α) (l : List α) : L2.atI (x0 :: x1 :: x2 :: x3 :: x4 :: x5 :: x6 :: x7 :: x8 :: x9 :: x10 :: l) 10 = some x10 := by
  have h : (10 : Int) < ((x0 :: x1 :: x2 :: x3 :: x4 :: x5 :: x6 :: x7 :: x8 :: x9 :: x10 :: l).length : Nat) := by simp only [List.length_cons]; omega
  rw [atI_at (by decide) h]; rfl
theorem atI_11 {α : Type} (x0 x1 x2 x3 x4 x5 x6 x7 x8 x9 x10 x11 : α) (l : List α) : L2.atI (x0 :: x1 :: x2 :: x3 :: x4 :: x5 :: x6 :: x7 :: x8 :: x9 :: x10 :: x11 :: l) 11 = some x11 := by
  have h : (11 : Int) < ((x0 :: x1 :: x2 :: x3 :: x4 :: x5 :: x6 :: x7 :: x8 :: x9 :: x10 :: x11 :: l).length : Nat) := by simp only [List.length_cons]; omega
  rw [atI_at (by decide) h]; rfl
theorem atI_12 {α : Type} (x0 x1 x2 x3 x4 x5 x6 x7 x8 x9 x10 x11 x12 : α) (l : List α) : L2.atI (x0 :: x1 :: x2 :: x3 :: x4 :: x5 :: x6 :: x7 :: x8 :: x9 :: x10 :: x11 :: x12 :: l) 12 = some x12 := by
  have h : (12 : Int) < ((x0 :: x1 :: x2 :: x3 :: x4 :: x5 :: x6 :: x7 :: x8 :: x9 :: x10 :: x11 :: x12 :: l).length : Nat) := by simp only [List.length_cons]; omega
  rw [atI_at (by decide) h]; rfl
theorem atI_13 {α : Type} (x0 x1 x2 x3 x4 x5 x6 x7 x8 x9 x10 x11 x12 x13 : α) (l : List α) : L2.atI (x0 :: x1 :: x2 :: x3 :: x4 :: x5 :: x6 :: x7 :: x8 :: x9 :: x10 :: x11 :: x12 :: x13 :: l) 13 = some x13 := by
  have h : (13 : Int) < ((x0 :: x1 :: x2 :: x3 :: x4 :: x5 :: x6 :: x7 :: x8 :: x9 :: x10 :: x11 :: x12 :: x13 :: l).length : Nat) := by simp only [List.length_cons]; omega
  rw [atI_at (by decide) h]; rfl
theorem atI_14 {α : Type} (x0 x1 x2 x3 x4 x5 x6 x7 x8 x9 x10 x11 x12 x13 x14 : α) (l : List α) : L2.atI (x0 :: x1 :: x2 :: x3 :: x4 :: x5 :: x6 :: x7 :: x8 :: x9 :: x10 :: x11 :: x12 :: x13 :: x14 :: l) 14 = some x14 := by
  have h : (14 : Int) < ((x0 :: x1 :: x2 :: x3 :: x4 :: x5 :: x6 :: x7 :: x8 :: x9 :: x10 :: x11 :: x12 :: x13 :: x14 :: l).length : Nat) := by simp only [List.length_cons]; omega
  rw [atI_at (by decide) h]; rfl
theorem atI_15 {α : Type} (x0 x1 x2 x3 x4 x5 x6 x7 x8 x9 x10 x11 x12 x13 x14 x15 : α) (l : List α) : L2.atI (x0 :: x1 :: x2 :: x3 :: x4 :: x5 :: x6 :: x7 :: x8 :: x9 :: x10 :: x11 :: x12 :: x13 :: x14 :: x15 :: l) 15 = some x15 := by
  have h : (15 : Int) < ((x0 :: x1 :: x2 :: x3 :: x4 :: x5 :: x6 :: x7 :: x8 :: x9 :: x10 :: x11 :: x12 :: x13 :: x14 :: x15 :: l).length : Nat) := by simp only [List.length_cons]; omega
  rw [atI_at (by decide) h]; rfl
theorem atI_m1 {α : Type} (xs : List α) : L2.atI xs (-1) = xs.getLast? := by
  unfold L2.atI L2.ixN
  rw [if_neg (by decide)]
  cases h : xs with
  | nil => simp
  | cons x l =>
    rw [if_pos (by simp only [List.length_cons]; omega)]
    rw [List.getLast?_eq_getElem?]
    show (x :: l)[(-1 + (((x :: l).length : Nat) : Int)).toNat]? = _
    congr 1
    simp only [List.length_cons]
    omega
theorem atI_nat {α : Type} (xs : List α) (k : Nat) (h : k < xs.length) : L2.atI xs (k : Int) = xs[k]? := by
  rw [atI_at (by omega) (by omega)]; simp
end DV
end
section
set_option Elab.async false
set_option linter.all false
set_option maxRecDepth 100000
set_option maxHeartbeats 4000000
/-! loops by what stays true -/
namespace DV
open PySem PySem.Spec PyProof.Rows L2
theorem for_inv {t : Tg} {g : DS} {I : Nat → LS → Prop} : ∀ (ds : List D) (k : Nat) (L : LS), I k L →
    (∀ (j : Nat) (d : D) (L : LS), ds[j]? = some d → I (k + j) L → ∃ L1 L2, tgSet t d L = some L1 ∧ (g L1 = .nx L2 ∨ g L1 = .ct L2) ∧ I (k + j + 1) L2) →
    ∃ L', forL t g ds L = .nx L' ∧ I (k + ds.length) L'
  | [], k, L, h, _ => ⟨L, rfl, h⟩
  | d :: ds, k, L, h, st => by
    obtain ⟨L1, L2, h1, h2, h3⟩ := st 0 d L rfl h
    obtain ⟨L', k1, k2⟩ := for_inv ds (k + 1) L2 h3 (fun j d L hd hi => by
      have := st (j + 1) d L hd (by rw [show k + (j + 1) = k + 1 + j by omega]; exact hi)
      rw [show k + (j + 1) + 1 = k + 1 + j + 1 by omega] at this; exact this)
    refine ⟨L', ?_, by rw [List.length_cons, show k + (ds.length + 1) = k + 1 + ds.length by omega]; exact k2⟩
    rw [S0.forL_cons h1, ← k1]
    rcases h2 with h2 | h2 <;> rw [h2] <;> rfl
theorem lc_inv {vs : List Nat} {t : Tg} {c : DT} {e : DE} {I : Nat → LS → Prop} {F : Nat → D → Prop} : ∀ (ds : List D) (k : Nat) (acc : List D) (L : LS), I k L → acc.length + ds.length ≤ 1000000 →
    (∀ (j : Nat) (d : D) (L : LS), ds[j]? = some d → I (k + j) L → ∃ L1 L2 r L3 y L4, tgSet t d L = some L1 ∧ c L1 = .ok true L2 ∧ e L2 = .ok r L3 ∧ fz L3 r = some (y, L4) ∧ F (k + j) y ∧ I (k + j + 1) (wipeL L4 vs)) →
    ∃ ys L', lcL vs t c e ds acc L = .ok (acc ++ ys) L' ∧ ys.length = ds.length ∧ (∀ (j : Nat) (y : D), ys[j]? = some y → F (k + j) y) ∧ I (k + ds.length) L'
  | [], k, acc, L, h, _, _ => ⟨[], L, by simp [lcL], rfl, by simp, h⟩
  | d :: ds, k, acc, L, h, hl, st => by
    obtain ⟨L1, L2, r, L3, y, L4, h1, h2, h3, h4, h5, h6⟩ := st 0 d L rfl h
    simp only [List.length_cons] at hl
    obtain ⟨ys, L', k1, k2, k3, k4⟩ := lc_inv ds (k + 1) (acc ++ [y]) (wipeL L4 vs) h6 (by simp; omega) (fun j d L hd hi => by
      have := st (j + 1) d L hd (by rw [show k + (j + 1) = k + 1 + j by omega]; exact hi)
      rw [show k + (j + 1) + 1 = k + 1 + j + 1 by omega, show k + (j + 1) = k + 1 + j by omega] at this; exact this)
    refine ⟨y :: ys, L', ?_, by simp [k2], ?_, by rw [List.length_cons, show k + (ds.length + 1) = k + 1 + ds.length by omega]; exact k4⟩
    · rw [S0.lcL_cons h1, h2, Rs.wp_ok, Rs.bind_ok, if_pos rfl, h3, Rs.wp_ok, Rs.bind_ok, h4, S0.s_onF, if_pos (lenOk_of (by omega)), k1]; simp
    · intro j y' hy
      cases j with
      | zero => simp at hy; subst hy; exact h5
      | succ j => rw [show k + (j + 1) = k + 1 + j by omega]; exact k3 j y' (by simpa using hy)
theorem rgD_len (i s : Int) (n : Nat) : (rgD i s n).length = n := by simp [rgD]
theorem rg_at {i : Int} {n j : Nat} {d : D} (h : (rgD i 1 n)[j]? = some d) : d = .int (i + j) ∧ j < n := by
  have hj : j < n := by
    have := (List.getElem?_eq_some_iff.mp h).1; rwa [rgD_len] at this
  refine ⟨?_, hj⟩
  simp [rgD, hj] at h
  rw [← h]
theorem rg0_at {n j : Nat} {d : D} (h : (rgD 0 1 n)[j]? = some d) : d = .int (j : Int) ∧ j < n := by
  have := rg_at h
  simpa using this
theorem all_bl {b : Bool} {ys : List D} (h : ∀ (j : Nat) (y : D), ys[j]? = some y → y = .bl b) : D.bls ys = some (List.replicate ys.length b) := by
  have : ys = (List.replicate ys.length b).map D.bl := by
    apply List.ext_getElem?
    intro j
    by_cases hj : j < ys.length
    · rw [List.getElem?_eq_getElem hj, h j _ (List.getElem?_eq_getElem hj)]; simp [hj]
    · rw [List.getElem?_eq_none (by omega), List.getElem?_eq_none (by simp; omega)]
  rw [this, D.bls_map]; simp
theorem all_true {ys : List D} (h : ∀ (j : Nat) (y : D), ys[j]? = some y → y = .bl true) : gAll [.lst ys] = some (.v (.bl true)) := by
  rw [S0.s_all, all_bl h]; simp
def ixs (lo hi st : Option Int) (n : Nat) : List Nat := PySem.sliceRange (PySem.sliceBounds lo hi st n).1 (PySem.sliceBounds lo hi st n).2.1 (PySem.sliceBounds lo hi st n).2.2
theorem pickG_ixs {α : Type} (xs : List α) (lo hi st : Option Int) : pickG xs lo hi st = (ixs lo hi st xs.length).filterMap fun i => xs[i]? := rfl
theorem ixs_rev : ∀ n < 13, ixs none none (some (-1)) n = (List.range n).reverse := by decide +kernel
theorem ixs_two : ∀ n < 13, ixs none none (some 2) n = (List.range n).filter fun i => decide (i % 2 = 0) := by decide +kernel
theorem ixs_one : ∀ n < 13, ixs (some 1) none (some 2) n = (List.range n).filter fun i => !decide (i % 2 = 0) := by decide +kernel
theorem range_pick {α : Type} (xs : List α) : ((List.range xs.length).filterMap fun i => xs[i]?) = xs := by
  apply List.ext_getElem?
  intro i
  have : ∀ l : List Nat, (∀ i ∈ l, i < xs.length) → (l.filterMap fun i => xs[i]?)[i]? = (l.map fun i => xs[i]?)[i]?.join := by
    intro l
    induction l generalizing i with
    | nil => intro _; simp
    | cons a l ih =>
      intro h
      have ha := h a (by simp)
      rw [List.filterMap_cons, List.getElem?_eq_getElem ha]
      cases i with
      | zero => simp [ha]
      | succ i => simpa using ih i (fun i hi => h i (by simp [hi]))
  rw [this _ (by simp)]
  by_cases h : i < xs.length
  · simp [h]
  · simp [h]
theorem pk_rev {xs : List D} (h : xs.length ≤ 12) : pickG xs none none (some (-1)) = xs.reverse := by
  rw [pickG_ixs, ixs_rev _ (by omega), List.filterMap_reverse, range_pick]
theorem pickG_len {xs : List D} (lo hi st : Option Int) (h : xs.length ≤ 12) (k : ∀ n < 13, (ixs lo hi st n).length ≤ 12) : (pickG xs lo hi st).length ≤ 12 := by
  rw [pickG_ixs]
  exact Nat.le_trans (List.length_filterMap_le ..) (k _ (by omega))
theorem zig_perm {xs : List D} (h : xs.length ≤ 12) : (pickG xs none none (some 2) ++ pickG (pickG xs (some 1) none (some 2)) none none (some (-1))).Perm xs := by
  have hl := pickG_len (some 1) none (some 2) h (by decide +kernel)
  rw [pk_rev hl]
  refine (List.Perm.append_left _ (List.reverse_perm _)).trans ?_
  rw [pickG_ixs, pickG_ixs, ixs_two _ (by omega), ixs_one _ (by omega), ← List.filterMap_append]
  exact ((List.filter_append_perm _ _).filterMap _).trans (by rw [range_pick])
theorem ints_of_perm {xs : List D} {ns : List Int} (h : xs.Perm (dInts ns)) : ∃ ms, xs = dInts ms ∧ ms.Perm ns := by
  have hx : ∃ ms, xs = dInts ms := by
    have : ∀ d ∈ xs, ∃ i, d = D.int i := fun d hd => by
      have := h.mem_iff.mp hd
      simp only [dInts, List.mem_map] at this
      obtain ⟨i, _, e⟩ := this
      exact ⟨i, e.symm⟩
    clear h
    induction xs with
    | nil => exact ⟨[], rfl⟩
    | cons d xs ih =>
      obtain ⟨i, rfl⟩ := this d (by simp)
      obtain ⟨ms, rfl⟩ := ih (fun d hd => this d (by simp [hd]))
      exact ⟨i :: ms, rfl⟩
  obtain ⟨ms, rfl⟩ := hx
  refine ⟨ms, rfl, ?_⟩
  have := h.map (fun d => match d with | .int i => i | _ => 0)
  simpa [dInts, List.map_map, Function.comp_def] using this
/-! isinstance, kind by kind -/
theorem isi_non_int : gIsi [.non, .opq (.ty "int")] = some (.v (.bl false)) := rfl
theorem isi_non_bool : gIsi [.non, .opq (.ty "bool")] = some (.v (.bl false)) := rfl
theorem isi_non_str : gIsi [.non, .opq (.ty "str")] = some (.v (.bl false)) := rfl
theorem isi_non_list : gIsi [.non, .opq (.ty "list")] = some (.v (.bl false)) := rfl
theorem isi_non_tuple : gIsi [.non, .opq (.ty "tuple")] = some (.v (.bl false)) := rfl
theorem isi_non_seq : gIsi [.non, .tup [.opq (.ty "list"), .opq (.ty "tuple")]] = some (.v (.bl false)) := rfl
theorem isN_non (n : Bool) : gIsN n (.non) .non = some (.v (.bl (!n))) := by cases n <;> rfl
theorem isi_bl_int (b : Bool) : gIsi [.bl b, .opq (.ty "int")] = some (.v (.bl true)) := rfl
theorem isi_bl_bool (b : Bool) : gIsi [.bl b, .opq (.ty "bool")] = some (.v (.bl true)) := rfl
theorem isi_bl_str (b : Bool) : gIsi [.bl b, .opq (.ty "str")] = some (.v (.bl false)) := rfl
theorem isi_bl_list (b : Bool) : gIsi [.bl b, .opq (.ty "list")] = some (.v (.bl false)) := rfl
theorem isi_bl_tuple (b : Bool) : gIsi [.bl b, .opq (.ty "tuple")] = some (.v (.bl false)) := rfl
theorem isi_bl_seq (b : Bool) : gIsi [.bl b, .tup [.opq (.ty "list"), .opq (.ty "tuple")]] = some (.v (.bl false)) := rfl
theorem isN_bl (n : Bool) (b : Bool) : gIsN n (.bl b) .non = some (.v (.bl n)) := by cases n <;> rfl
theorem isi_int_int (i : Int) : gIsi [.int i, .opq (.ty "int")] = some (.v (.bl true)) := rfl
theorem isi_int_bool (i : Int) : gIsi [.int i, .opq (.ty "bool")] = some (.v (.bl false)) := rfl
theorem isi_int_str (i : Int) : gIsi [.int i, .opq (.ty "str")] = some (.v (.bl false)) := rfl
theorem isi_int_list (i : Int) : gIsi [.int i, .opq (.ty "list")] = some (.v (.bl false)) := rfl
theorem isi_int_tuple (i : Int) : gIsi [.int i, .opq (.ty "tuple")] = some (.v (.bl false)) := rfl
theorem isi_int_seq (i : Int) : gIsi [.int i, .tup [.opq (.ty "list"), .opq (.ty "tuple")]] = some (.v (.bl false)) := rfl
theorem isN_int (n : Bool) (i : Int) : gIsN n (.int i) .non = some (.v (.bl n)) := by cases n <;> rfl
theorem isi_str_int (x : Str) : gIsi [.str x, .opq (.ty "int")] = some (.v (.bl false)) := rfl
theorem isi_str_bool (x : Str) : gIsi [.str x, .opq (.ty "bool")] = some (.v (.bl false)) := rfl
theorem isi_str_str (x : Str) : gIsi [.str x, .opq (.ty "str")] = some (.v (.bl true)) := rfl
theorem isi_str_list (x : Str) : gIsi [.str x, .opq (.ty "list")] = some (.v (.bl false)) := rfl
theorem isi_str_tuple (x : Str) : gIsi [.str x, .opq (.ty "tuple")] = some (.v (.bl false)) := rfl
theorem isi_str_seq (x : Str) : gIsi [.str x, .tup [.opq (.ty "list"), .opq (.ty "tuple")]] = some (.v (.bl false)) := rfl
theorem isN_str (n : Bool) (x : Str) : gIsN n (.str x) .non = some (.v (.bl n)) := by cases n <;> rfl
theorem isi_lst_int (ds : List D) : gIsi [.lst ds, .opq (.ty "int")] = some (.v (.bl false)) := rfl
theorem isi_lst_bool (ds : List D) : gIsi [.lst ds, .opq (.ty "bool")] = some (.v (.bl false)) := rfl
theorem isi_lst_str (ds : List D) : gIsi [.lst ds, .opq (.ty "str")] = some (.v (.bl false)) := rfl
theorem isi_lst_list (ds : List D) : gIsi [.lst ds, .opq (.ty "list")] = some (.v (.bl true)) := rfl
theorem isi_lst_tuple (ds : List D) : gIsi [.lst ds, .opq (.ty "tuple")] = some (.v (.bl false)) := rfl
theorem isi_lst_seq (ds : List D) : gIsi [.lst ds, .tup [.opq (.ty "list"), .opq (.ty "tuple")]] = some (.v (.bl true)) := rfl
theorem isN_lst (n : Bool) (ds : List D) : gIsN n (.lst ds) .non = some (.v (.bl n)) := by cases n <;> rfl
theorem isi_tup_int (ds : List D) : gIsi [.tup ds, .opq (.ty "int")] = some (.v (.bl false)) := rfl
theorem isi_tup_bool (ds : List D) : gIsi [.tup ds, .opq (.ty "bool")] = some (.v (.bl false)) := rfl
theorem isi_tup_str (ds : List D) : gIsi [.tup ds, .opq (.ty "str")] = some (.v (.bl false)) := rfl
theorem isi_tup_list (ds : List D) : gIsi [.tup ds, .opq (.ty "list")] = some (.v (.bl false)) := rfl
theorem isi_tup_tuple (ds : List D) : gIsi [.tup ds, .opq (.ty "tuple")] = some (.v (.bl true)) := rfl
theorem isi_tup_seq (ds : List D) : gIsi [.tup ds, .tup [.opq (.ty "list"), .opq (.ty "tuple")]] = some (.v (.bl true)) := rfl
theorem isN_tup (n : Bool) (ds : List D) : gIsN n (.tup ds) .non = some (.v (.bl n)) := by cases n <;> rfl
theorem b_tt : (true == true) = true := rfl
theorem b_tf : (true == false) = false := rfl
theorem b_ft : (false == true) = false := rfl
theorem b_ff : (false == false) = true := rfl
theorem s_eqN : gEq .non .non = some (.v (.bl true)) := rfl
theorem s_neN : gNe .non .non = some (.v (.bl false)) := rfl
end DV
end
section
set_option Elab.async false
set_option linter.all false
set_option maxRecDepth 100000
set_option maxHeartbeats 4000000
namespace DV
open PySem PySem.Spec PyProof.Rows L2
def kUnp (is : List Nat) (r : R) (L : LS) : Fl := onUnp is (fz L r)
theorem n_s_unp (is : List Nat) (f : DE) (L : LS) : dUnp is f L = (f L).fl (kUnp is) := rfl
theorem s_unpT (is : List Nat) (ds : List D) (L : LS) : onUnp is (some (.tup ds, L)) = S0.onN (setVals is ds L) := by
  show (match setVals is ds L with | some L3 => Fl.nx L3 | none => .stuck) = _
  cases setVals is ds L <;> rfl
theorem s_maxL (xs : List D) : gMaxL [.lst xs] = onMM maxI (D.ints xs) := rfl
theorem s_minL (xs : List D) : gMinL [.lst xs] = onMM minI (D.ints xs) := rfl
theorem s_onMM (f : Int → List Int → Int) (n : Int) (ns : List Int) : onMM f (some (n :: ns)) = some (.v (.int (f n ns))) := rfl
theorem s_inL (neg : Bool) (i : Int) (xs : List D) : gInB neg (.int i) (.lst xs) = onIn neg i (D.ints xs) := rfl
theorem s_inT (neg : Bool) (i : Int) (xs : List D) : gInB neg (.int i) (.tup xs) = onIn neg i (D.ints xs) := rfl
theorem s_onIn (i : Int) (ns : List Int) : onIn false i (some ns) = some (.v (.bl (decide (i ∈ ns)))) := rfl
theorem s_onNotIn (i : Int) (ns : List Int) : onIn true i (some ns) = some (.v (.bl (!decide (i ∈ ns)))) := rfl
theorem s_LRg2 (a b : Int) : gLRg2 (.int a) (.int b) = if rgEok a b = true then some (.t (.lst (rgE a b))) else none := rfl
end DV
end
section
set_option Elab.async false
set_option linter.all false
set_option maxRecDepth 100000
set_option maxHeartbeats 4000000
namespace K79
open PySem PySem.Spec PyProof.Rows L2 DV
def top (i : Nat) : Stmt := PySem.Challenge.pw_putinside_k79_whole_three_lots_of_gaps.main.body.getD i (.Pass ⟨0, 0, 0, 0⟩)
abbrev s_Lbox : Stmt := top 18
abbrev N_Lbox : List Str := ["_law_script", "_law_k", "_law_cell"]
abbrev P_Lbox : List Str := ["_law_script", "_law_k"]
theorem sc_Lbox : FnScope N_Lbox P_Lbox (defScope s_Lbox) := ⟨rfl, rfl, rfl, by decide +kernel, rfl, by decide +kernel, by decide +kernel⟩
theorem bd_Lbox : BindP "_law_box" (defArgs s_Lbox) (defBody s_Lbox) (defScope s_Lbox) P_Lbox := fun _ _ _ _ _ _ us hl => match us, hl with | [_, _], _ => rfl
abbrev s_Ltake : Stmt := top 19
abbrev N_Ltake : List Str := ["_law_box_here", "_law_span", "_law_found", "_law_once"]
abbrev P_Ltake : List Str := ["_law_box_here", "_law_span"]
theorem sc_Ltake : FnScope N_Ltake P_Ltake (defScope s_Ltake) := ⟨rfl, rfl, rfl, by decide +kernel, rfl, by decide +kernel, by decide +kernel⟩
theorem bd_Ltake : BindP "_law_take" (defArgs s_Ltake) (defBody s_Ltake) (defScope s_Ltake) P_Ltake := fun _ _ _ _ _ _ us hl => match us, hl with | [_, _], _ => rfl
abbrev s_Lpick : Stmt := top 20
abbrev N_Lpick : List Str := ["_law_box_here", "_law_some"]
abbrev P_Lpick : List Str := ["_law_box_here", "_law_some"]
theorem sc_Lpick : FnScope N_Lpick P_Lpick (defScope s_Lpick) := ⟨rfl, rfl, rfl, by decide +kernel, rfl, by decide +kernel, by decide +kernel⟩
theorem bd_Lpick : BindP "_law_pick" (defArgs s_Lpick) (defBody s_Lpick) (defScope s_Lpick) P_Lpick := fun _ _ _ _ _ _ us hl => match us, hl with | [_, _], _ => rfl
abbrev s_Lshuffled : Stmt := top 22
abbrev N_Lshuffled : List Str := ["_law_box_here", "_law_some", "_law_left", "_law_found"]
abbrev P_Lshuffled : List Str := ["_law_box_here", "_law_some"]
theorem sc_Lshuffled : FnScope N_Lshuffled P_Lshuffled (defScope s_Lshuffled) := ⟨rfl, rfl, rfl, by decide +kernel, rfl, by decide +kernel, by decide +kernel⟩
theorem bd_Lshuffled : BindP "_law_shuffled" (defArgs s_Lshuffled) (defBody s_Lshuffled) (defScope s_Lshuffled) P_Lshuffled := fun _ _ _ _ _ _ us hl => match us, hl with | [_, _], _ => rfl
abbrev s_Lsizes : Stmt := top 23
abbrev N_Lsizes : List Str := ["_law_box_here", "_law_most", "_law_count", "_law_crack", "_law_top", "_law_found", "_law_k", "_law_way"]
abbrev P_Lsizes : List Str := ["_law_box_here", "_law_most"]
theorem sc_Lsizes : FnScope N_Lsizes P_Lsizes (defScope s_Lsizes) := ⟨rfl, rfl, rfl, by decide +kernel, rfl, by decide +kernel, by decide +kernel⟩
theorem bd_Lsizes : BindP "_law_sizes" (defArgs s_Lsizes) (defBody s_Lsizes) (defScope s_Lsizes) P_Lsizes := fun _ _ _ _ _ _ us hl => match us, hl with | [_, _], _ => rfl
abbrev s_Lbigger : Stmt := top 28
abbrev N_Lbigger : List Str := ["_law_sizes_here", "_law_at", "_law_way", "_law_size_now", "_law_far"]
abbrev P_Lbigger : List Str := ["_law_sizes_here", "_law_at", "_law_way", "_law_size_now"]
theorem sc_Lbigger : FnScope N_Lbigger P_Lbigger (defScope s_Lbigger) := ⟨rfl, rfl, rfl, by decide +kernel, rfl, by decide +kernel, by decide +kernel⟩
theorem bd_Lbigger : BindP "_law_bigger" (defArgs s_Lbigger) (defBody s_Lbigger) (defScope s_Lbigger) P_Lbigger := fun _ _ _ _ _ _ us hl => match us, hl with | [_, _, _, _], _ => rfl
abbrev s_Lpart : Stmt := top 25
abbrev N_Lpart : List Str := ["_law_above", "_law_below", "_law_large", "_law_rest"]
abbrev P_Lpart : List Str := ["_law_above", "_law_below"]
theorem sc_Lpart : FnScope N_Lpart P_Lpart (defScope s_Lpart) := ⟨rfl, rfl, rfl, by decide +kernel, rfl, by decide +kernel, by decide +kernel⟩
theorem bd_Lpart : BindP "_law_part" (defArgs s_Lpart) (defBody s_Lpart) (defScope s_Lpart) P_Lpart := fun _ _ _ _ _ _ us hl => match us, hl with | [_, _], _ => rfl
abbrev s_Lsum_of : Stmt := top 26
abbrev N_Lsum_of : List Str := ["_law_parts", "_law_above", "_law_below", "_law_part_here", "_law_small"]
abbrev P_Lsum_of : List Str := ["_law_parts"]
theorem sc_Lsum_of : FnScope N_Lsum_of P_Lsum_of (defScope s_Lsum_of) := ⟨rfl, rfl, rfl, by decide +kernel, rfl, by decide +kernel, by decide +kernel⟩
theorem bd_Lsum_of : BindP "_law_sum_of" (defArgs s_Lsum_of) (defBody s_Lsum_of) (defScope s_Lsum_of) P_Lsum_of := fun _ _ _ _ _ _ us hl => match us, hl with | [_], _ => rfl
abbrev s_Lbehind : Stmt := top 27
abbrev N_Lbehind : List Str := ["_law_many_here", "_law_left", "_law_right_here", "_law_only", "_law_total", "_law_ways"]
abbrev P_Lbehind : List Str := ["_law_many_here", "_law_left", "_law_right_here"]
theorem sc_Lbehind : FnScope N_Lbehind P_Lbehind (defScope s_Lbehind) := ⟨rfl, rfl, rfl, by decide +kernel, rfl, by decide +kernel, by decide +kernel⟩
theorem bd_Lbehind : BindP "_law_behind" (defArgs s_Lbehind) (defBody s_Lbehind) (defScope s_Lbehind) P_Lbehind := fun _ _ _ _ _ _ us hl => match us, hl with | [_, _, _], _ => rfl
abbrev s_Lhigher : Stmt := top 24
abbrev N_Lhigher : List Str := ["_law_sizes_here", "_law_spot", "_law_found", "_law_mate", "_law_inner", "_law_some"]
abbrev P_Lhigher : List Str := ["_law_sizes_here", "_law_spot"]
theorem sc_Lhigher : FnScope N_Lhigher P_Lhigher (defScope s_Lhigher) := ⟨rfl, rfl, rfl, by decide +kernel, rfl, by decide +kernel, by decide +kernel⟩
theorem bd_Lhigher : BindP "_law_higher" (defArgs s_Lhigher) (defBody s_Lhigher) (defScope s_Lhigher) P_Lhigher := fun _ _ _ _ _ _ us hl => match us, hl with | [_, _], _ => rfl
abbrev s_Lpair : Stmt := top 29
abbrev N_Lpair : List Str := ["_law_sizes_here", "_law_at", "_law_upper", "_law_way", "_law_many_here", "_law_beyond", "_law_near", "_law_told", "_law_direct"]
abbrev P_Lpair : List Str := ["_law_sizes_here", "_law_at", "_law_upper"]
theorem sc_Lpair : FnScope N_Lpair P_Lpair (defScope s_Lpair) := ⟨rfl, rfl, rfl, by decide +kernel, rfl, by decide +kernel, by decide +kernel⟩
theorem bd_Lpair : BindP "_law_pair" (defArgs s_Lpair) (defBody s_Lpair) (defScope s_Lpair) P_Lpair := fun _ _ _ _ _ _ us hl => match us, hl with | [_, _, _], _ => rfl
abbrev s_Lsame : Stmt := top 21
abbrev N_Lsame : List Str := ["_law_found", "_law_due", "_law_mine", "_law_its"]
abbrev P_Lsame : List Str := ["_law_found", "_law_due"]
theorem sc_Lsame : FnScope N_Lsame P_Lsame (defScope s_Lsame) := ⟨rfl, rfl, rfl, by decide +kernel, rfl, by decide +kernel, by decide +kernel⟩
theorem bd_Lsame : BindP "_law_same" (defArgs s_Lsame) (defBody s_Lsame) (defScope s_Lsame) P_Lsame := fun _ _ _ _ _ _ us hl => match us, hl with | [_, _], _ => rfl
abbrev s_look_place : Stmt := top 3
abbrev N_look_place : List Str := ["row", "place"]
abbrev P_look_place : List Str := ["row", "place"]
theorem sc_look_place : FnScope N_look_place P_look_place (defScope s_look_place) := ⟨rfl, rfl, rfl, by decide +kernel, rfl, by decide +kernel, by decide +kernel⟩
theorem bd_look_place : BindP "look_place" (defArgs s_look_place) (defBody s_look_place) (defScope s_look_place) P_look_place := fun _ _ _ _ _ _ us hl => match us, hl with | [_, _], _ => rfl
abbrev s_look_both : Stmt := top 12
abbrev N_look_both : List Str := ["row", "one", "other"]
abbrev P_look_both : List Str := ["row", "one", "other"]
theorem sc_look_both : FnScope N_look_both P_look_both (defScope s_look_both) := ⟨rfl, rfl, rfl, by decide +kernel, rfl, by decide +kernel, by decide +kernel⟩
theorem bd_look_both : BindP "look_both" (defArgs s_look_both) (defBody s_look_both) (defScope s_look_both) P_look_both := fun _ _ _ _ _ _ us hl => match us, hl with | [_, _, _], _ => rfl
abbrev s_distance_to_bigger : Stmt := top 10
abbrev N_distance_to_bigger : List Str := ["row", "begin", "step", "size", "place"]
abbrev P_distance_to_bigger : List Str := ["row", "begin", "step", "size"]
theorem sc_distance_to_bigger : FnScope N_distance_to_bigger P_distance_to_bigger (defScope s_distance_to_bigger) := ⟨rfl, rfl, rfl, by decide +kernel, rfl, by decide +kernel, by decide +kernel⟩
theorem bd_distance_to_bigger : BindP "distance_to_bigger" (defArgs s_distance_to_bigger) (defBody s_distance_to_bigger) (defScope s_distance_to_bigger) P_distance_to_bigger := fun _ _ _ _ _ _ us hl => match us, hl with | [_, _, _, _], _ => rfl
abbrev s_first_of_three : Stmt := top 11
abbrev N_first_of_three : List Str := ["many", "left", "right", "only", "one", "other", "both"]
abbrev P_first_of_three : List Str := ["many", "left", "right"]
theorem sc_first_of_three : FnScope N_first_of_three P_first_of_three (defScope s_first_of_three) := ⟨rfl, rfl, rfl, by decide +kernel, rfl, by decide +kernel, by decide +kernel⟩
theorem bd_first_of_three : BindP "first_of_three" (defArgs s_first_of_three) (defBody s_first_of_three) (defScope s_first_of_three) P_first_of_three := fun _ _ _ _ _ _ us hl => match us, hl with | [_, _, _], _ => rfl
abbrev s_gcd : Stmt := top 7
abbrev N_gcd : List Str := ["one", "other"]
abbrev P_gcd : List Str := ["one", "other"]
theorem sc_gcd : FnScope N_gcd P_gcd (defScope s_gcd) := ⟨rfl, rfl, rfl, by decide +kernel, rfl, by decide +kernel, by decide +kernel⟩
theorem bd_gcd : BindP "gcd" (defArgs s_gcd) (defBody s_gcd) (defScope s_gcd) P_gcd := fun _ _ _ _ _ _ us hl => match us, hl with | [_, _], _ => rfl
abbrev s_reduced : Stmt := top 8
abbrev N_reduced : List Str := ["numerator", "denominator", "common"]
abbrev P_reduced : List Str := ["numerator", "denominator"]
theorem sc_reduced : FnScope N_reduced P_reduced (defScope s_reduced) := ⟨rfl, rfl, rfl, by decide +kernel, rfl, by decide +kernel, by decide +kernel⟩
theorem bd_reduced : BindP "reduced" (defArgs s_reduced) (defBody s_reduced) (defScope s_reduced) P_reduced := fun _ _ _ _ _ _ us hl => match us, hl with | [_, _], _ => rfl
abbrev s_between : Stmt := top 4
abbrev N_between : List Str := ["one", "other"]
abbrev P_between : List Str := ["one", "other"]
theorem sc_between : FnScope N_between P_between (defScope s_between) := ⟨rfl, rfl, rfl, by decide +kernel, rfl, by decide +kernel, by decide +kernel⟩
theorem bd_between : BindP "between" (defArgs s_between) (defBody s_between) (defScope s_between) P_between := fun _ _ _ _ _ _ us hl => match us, hl with | [_, _], _ => rfl
abbrev s_is_above : Stmt := top 5
abbrev N_is_above : List Str := ["row", "one", "other", "place"]
abbrev P_is_above : List Str := ["row", "one", "other"]
theorem sc_is_above : FnScope N_is_above P_is_above (defScope s_is_above) := ⟨rfl, rfl, rfl, by decide +kernel, rfl, by decide +kernel, by decide +kernel⟩
theorem bd_is_above : BindP "is_above" (defArgs s_is_above) (defBody s_is_above) (defScope s_is_above) P_is_above := fun _ _ _ _ _ _ us hl => match us, hl with | [_, _, _], _ => rfl
abbrev s_holder_chance : Stmt := top 13
abbrev N_holder_chance : List Str := ["row", "one", "other", "step", "near", "many", "left", "above", "below"]
abbrev P_holder_chance : List Str := ["row", "one", "other"]
theorem sc_holder_chance : FnScope N_holder_chance P_holder_chance (defScope s_holder_chance) := ⟨rfl, rfl, rfl, by decide +kernel, rfl, by decide +kernel, by decide +kernel⟩
theorem bd_holder_chance : BindP "holder_chance" (defArgs s_holder_chance) (defBody s_holder_chance) (defScope s_holder_chance) P_holder_chance := fun _ _ _ _ _ _ us hl => match us, hl with | [_, _, _], _ => rfl
abbrev s_around_chance : Stmt := top 14
abbrev N_around_chance : List Str := ["row", "one", "other", "step", "left", "above", "below"]
abbrev P_around_chance : List Str := ["row", "one", "other"]
theorem sc_around_chance : FnScope N_around_chance P_around_chance (defScope s_around_chance) := ⟨rfl, rfl, rfl, by decide +kernel, rfl, by decide +kernel, by decide +kernel⟩
theorem bd_around_chance : BindP "around_chance" (defArgs s_around_chance) (defBody s_around_chance) (defScope s_around_chance) P_around_chance := fun _ _ _ _ _ _ us hl => match us, hl with | [_, _, _], _ => rfl
abbrev s_added : Stmt := top 9
abbrev N_added : List Str := ["fractions", "found", "above", "below"]
abbrev P_added : List Str := ["fractions"]
theorem sc_added : FnScope N_added P_added (defScope s_added) := ⟨rfl, rfl, rfl, by decide +kernel, rfl, by decide +kernel, by decide +kernel⟩
theorem bd_added : BindP "added" (defArgs s_added) (defBody s_added) (defScope s_added) P_added := fun _ _ _ _ _ _ us hl => match us, hl with | [_], _ => rfl
abbrev s_mean_depth : Stmt := top 15
abbrev N_mean_depth : List Str := ["row", "place", "other"]
abbrev P_mean_depth : List Str := ["row", "place"]
theorem sc_mean_depth : FnScope N_mean_depth P_mean_depth (defScope s_mean_depth) := ⟨rfl, rfl, rfl, by decide +kernel, rfl, by decide +kernel, by decide +kernel⟩
theorem bd_mean_depth : BindP "mean_depth" (defArgs s_mean_depth) (defBody s_mean_depth) (defScope s_mean_depth) P_mean_depth := fun _ _ _ _ _ _ us hl => match us, hl with | [_, _], _ => rfl
abbrev s_mean_inside : Stmt := top 16
abbrev N_mean_inside : List Str := ["row", "place", "other"]
abbrev P_mean_inside : List Str := ["row", "place"]
theorem sc_mean_inside : FnScope N_mean_inside P_mean_inside (defScope s_mean_inside) := ⟨rfl, rfl, rfl, by decide +kernel, rfl, by decide +kernel, by decide +kernel⟩
theorem bd_mean_inside : BindP "mean_inside" (defArgs s_mean_inside) (defBody s_mean_inside) (defScope s_mean_inside) P_mean_inside := fun _ _ _ _ _ _ us hl => match us, hl with | [_, _], _ => rfl
abbrev s_Lright : Stmt := top 30
abbrev N_Lright : List Str := ["_law_box_here", "_law_sizes_here", "_law_count", "_law_pairs", "_law_at", "_law_upper", "_law_told", "_law_part_here", "_law_some"]
abbrev P_Lright : List Str := ["_law_box_here"]
theorem sc_Lright : FnScope N_Lright P_Lright (defScope s_Lright) := ⟨rfl, rfl, rfl, by decide +kernel, rfl, by decide +kernel, by decide +kernel⟩
theorem bd_Lright : BindP "_law_right" (defArgs s_Lright) (defBody s_Lright) (defScope s_Lright) P_Lright := fun _ _ _ _ _ _ us hl => match us, hl with | [_], _ => rfl
abbrev s_law : Stmt := top 31
abbrev N_law : List Str := ["_law_script", "_law_k", "_law_box_here", "_law_turn"]
abbrev P_law : List Str := ["_law_script"]
theorem sc_law : FnScope N_law P_law (defScope s_law) := ⟨rfl, rfl, rfl, by decide +kernel, rfl, by decide +kernel, by decide +kernel⟩
theorem bd_law : BindP "law" (defArgs s_law) (defBody s_law) (defScope s_law) P_law := fun _ _ _ _ _ _ us hl => match us, hl with | [_], _ => rfl
/-- what the top has written -/
structure Tx (K : PySem.W.Frag) (mg : Str → Option Value) : Prop where
  b_abs : mg "abs" = none
  b_all : mg "all" = none
  b_bool : mg "bool" = none
  b_int : mg "int" = none
  b_isinstance : mg "isinstance" = none
  b_len : mg "len" = none
  b_list : mg "list" = none
  b_max : mg "max" = none
  b_min : mg "min" = none
  b_range : mg "range" = none
  b_str : mg "str" = none
  b_tuple : mg "tuple" = none
  b_zip : mg "zip" = none
  g_Lbox : mg "_law_box" = some (.ref (He.ga K "_law_box"))
  d_Lbox : ∃ fd, FunD K "_law_box" "_law_box" (defArgs s_Lbox) (defBody s_Lbox) (defScope s_Lbox) [] [] (He.ga K "_law_box") fd
  g_Ltake : mg "_law_take" = some (.ref (He.ga K "_law_take"))
  d_Ltake : ∃ fd, FunD K "_law_take" "_law_take" (defArgs s_Ltake) (defBody s_Ltake) (defScope s_Ltake) [] [] (He.ga K "_law_take") fd
  g_Lpick : mg "_law_pick" = some (.ref (He.ga K "_law_pick"))
  d_Lpick : ∃ fd, FunD K "_law_pick" "_law_pick" (defArgs s_Lpick) (defBody s_Lpick) (defScope s_Lpick) [] [] (He.ga K "_law_pick") fd
  g_Lshuffled : mg "_law_shuffled" = some (.ref (He.ga K "_law_shuffled"))
  d_Lshuffled : ∃ fd, FunD K "_law_shuffled" "_law_shuffled" (defArgs s_Lshuffled) (defBody s_Lshuffled) (defScope s_Lshuffled) [] [] (He.ga K "_law_shuffled") fd
  g_Lsizes : mg "_law_sizes" = some (.ref (He.ga K "_law_sizes"))
  d_Lsizes : ∃ fd, FunD K "_law_sizes" "_law_sizes" (defArgs s_Lsizes) (defBody s_Lsizes) (defScope s_Lsizes) [] [] (He.ga K "_law_sizes") fd
  g_Lbigger : mg "_law_bigger" = some (.ref (He.ga K "_law_bigger"))
  d_Lbigger : ∃ fd, FunD K "_law_bigger" "_law_bigger" (defArgs s_Lbigger) (defBody s_Lbigger) (defScope s_Lbigger) [] [] (He.ga K "_law_bigger") fd
  g_Lpart : mg "_law_part" = some (.ref (He.ga K "_law_part"))
  d_Lpart : ∃ fd, FunD K "_law_part" "_law_part" (defArgs s_Lpart) (defBody s_Lpart) (defScope s_Lpart) [] [] (He.ga K "_law_part") fd
  g_Lsum_of : mg "_law_sum_of" = some (.ref (He.ga K "_law_sum_of"))
  d_Lsum_of : ∃ fd, FunD K "_law_sum_of" "_law_sum_of" (defArgs s_Lsum_of) (defBody s_Lsum_of) (defScope s_Lsum_of) [] [] (He.ga K "_law_sum_of") fd
  g_Lbehind : mg "_law_behind" = some (.ref (He.ga K "_law_behind"))
  d_Lbehind : ∃ fd, FunD K "_law_behind" "_law_behind" (defArgs s_Lbehind) (defBody s_Lbehind) (defScope s_Lbehind) [] [] (He.ga K "_law_behind") fd
  g_Lhigher : mg "_law_higher" = some (.ref (He.ga K "_law_higher"))
  d_Lhigher : ∃ fd, FunD K "_law_higher" "_law_higher" (defArgs s_Lhigher) (defBody s_Lhigher) (defScope s_Lhigher) [] [] (He.ga K "_law_higher") fd
  g_Lpair : mg "_law_pair" = some (.ref (He.ga K "_law_pair"))
  d_Lpair : ∃ fd, FunD K "_law_pair" "_law_pair" (defArgs s_Lpair) (defBody s_Lpair) (defScope s_Lpair) [] [] (He.ga K "_law_pair") fd
  g_Lsame : mg "_law_same" = some (.ref (He.ga K "_law_same"))
  d_Lsame : ∃ fd, FunD K "_law_same" "_law_same" (defArgs s_Lsame) (defBody s_Lsame) (defScope s_Lsame) [] [] (He.ga K "_law_same") fd
  g_look_place : mg "look_place" = some (.ref (He.ga K "look_place"))
  d_look_place : ∃ fd, FunD K "look_place" "look_place" (defArgs s_look_place) (defBody s_look_place) (defScope s_look_place) [] [] (He.ga K "look_place") fd
  g_look_both : mg "look_both" = some (.ref (He.ga K "look_both"))
  d_look_both : ∃ fd, FunD K "look_both" "look_both" (defArgs s_look_both) (defBody s_look_both) (defScope s_look_both) [] [] (He.ga K "look_both") fd
  g_distance_to_bigger : mg "distance_to_bigger" = some (.ref (He.ga K "distance_to_bigger"))
  d_distance_to_bigger : ∃ fd, FunD K "distance_to_bigger" "distance_to_bigger" (defArgs s_distance_to_bigger) (defBody s_distance_to_bigger) (defScope s_distance_to_bigger) [] [] (He.ga K "distance_to_bigger") fd
  g_first_of_three : mg "first_of_three" = some (.ref (He.ga K "first_of_three"))
  d_first_of_three : ∃ fd, FunD K "first_of_three" "first_of_three" (defArgs s_first_of_three) (defBody s_first_of_three) (defScope s_first_of_three) [] [] (He.ga K "first_of_three") fd
  g_gcd : mg "gcd" = some (.ref (He.ga K "gcd"))
  d_gcd : ∃ fd, FunD K "gcd" "gcd" (defArgs s_gcd) (defBody s_gcd) (defScope s_gcd) [] [] (He.ga K "gcd") fd
  g_reduced : mg "reduced" = some (.ref (He.ga K "reduced"))
  d_reduced : ∃ fd, FunD K "reduced" "reduced" (defArgs s_reduced) (defBody s_reduced) (defScope s_reduced) [] [] (He.ga K "reduced") fd
  g_between : mg "between" = some (.ref (He.ga K "between"))
  d_between : ∃ fd, FunD K "between" "between" (defArgs s_between) (defBody s_between) (defScope s_between) [] [] (He.ga K "between") fd
  g_is_above : mg "is_above" = some (.ref (He.ga K "is_above"))
  d_is_above : ∃ fd, FunD K "is_above" "is_above" (defArgs s_is_above) (defBody s_is_above) (defScope s_is_above) [] [] (He.ga K "is_above") fd
  g_holder_chance : mg "holder_chance" = some (.ref (He.ga K "holder_chance"))
  d_holder_chance : ∃ fd, FunD K "holder_chance" "holder_chance" (defArgs s_holder_chance) (defBody s_holder_chance) (defScope s_holder_chance) [] [] (He.ga K "holder_chance") fd
  g_around_chance : mg "around_chance" = some (.ref (He.ga K "around_chance"))
  d_around_chance : ∃ fd, FunD K "around_chance" "around_chance" (defArgs s_around_chance) (defBody s_around_chance) (defScope s_around_chance) [] [] (He.ga K "around_chance") fd
  g_added : mg "added" = some (.ref (He.ga K "added"))
  d_added : ∃ fd, FunD K "added" "added" (defArgs s_added) (defBody s_added) (defScope s_added) [] [] (He.ga K "added") fd
  g_mean_depth : mg "mean_depth" = some (.ref (He.ga K "mean_depth"))
  d_mean_depth : ∃ fd, FunD K "mean_depth" "mean_depth" (defArgs s_mean_depth) (defBody s_mean_depth) (defScope s_mean_depth) [] [] (He.ga K "mean_depth") fd
  g_mean_inside : mg "mean_inside" = some (.ref (He.ga K "mean_inside"))
  d_mean_inside : ∃ fd, FunD K "mean_inside" "mean_inside" (defArgs s_mean_inside) (defBody s_mean_inside) (defScope s_mean_inside) [] [] (He.ga K "mean_inside") fd
  g_Lright : mg "_law_right" = some (.ref (He.ga K "_law_right"))
  d_Lright : ∃ fd, FunD K "_law_right" "_law_right" (defArgs s_Lright) (defBody s_Lright) (defScope s_Lright) [] [] (He.ga K "_law_right") fd
  g_law : mg "law" = some (.ref (He.ga K "law"))
  d_law : ∃ fd, FunD K "law" "law" (defArgs s_law) (defBody s_law) (defScope s_law) [] [] (He.ga K "law") fd
variable {P : Program} {w : World} {K : PySem.W.Frag} {mg : Str → Option Value} {base : Heap}
def g_Lbox : DS :=
  (dSeq (dAsg 2 (dC (.int 0))) (dSeq (dIfS (dTest (dOp gLt (dVar 1) (dCall gLen (dACons (dVar 0) dANil)))) (dAsg 2 (dOp gIx (dVar 0) (dVar 1))) dNop) (dRet (dLst (dFCons (dOp gMul (dCall gAbs (dACons (dVar 2) dANil)) (dCall gInt (dACons (dOp gGe (dCall gAbs (dACons (dVar 2) dANil)) (dOp gPow (dC (.int 10)) (dC (.int 18)))) dANil))) (dFCons (dOp gMod (dOp gMul (dOp gAdd (dOp gAdd (dOp gMod (dVar 2) (dC (.int 2147483629))) (dOp gMul (dC (.int 17417)) (dVar 1))) (dC (.int 37))) (dC (.int 40277))) (dC (.int 2147483549))) (dFCons (dC (.int 0)) dFNil)))))))
def M_Lbox : Mir := noExc (runF [.val, .val] 3 g_Lbox)
theorem ok_Lbox (T : Tx K mg) : Callee P w K mg base 1 "_law_box" P_Lbox [.val, .val] M_Lbox := by
  obtain ⟨fd, F⟩ := T.d_Lbox
  refine Callee.mk' (k := 0) F T.g_Lbox sc_Lbox bd_Lbox rfl (by decide) fun cdv A outer s H E hr => ?_
  have nd := sc_Lbox.nd
  exact (dss_cons (ds_asg (i := 2) nd rfl (by first | exact Or.inl rfl | exact Or.inr rfl) de_int) (dss_cons (ds_if (dt_cmp op_lt snd_lt (dv 1) (de_callB call_len snd_len rfl T.b_len PyProof.Rows.Boot.«len» (da_cons (dv 0) da_nil)) (nomark _)) (dss_one (ds_asg (i := 2) nd rfl (by first | exact Or.inl rfl | exact Or.inr rfl) (de_ix ix_seq snd_ix (dv 0) (dv 1) (fun _ _ => rfl)))) dss_nop) (dss_one (ds_ret (de_lst (df_cons (de_op op_mulAA snd_mul (de_callB call_abs snd_abs rfl T.b_abs PyProof.Rows.Boot.«abs» (da_cons (dv 2) da_nil)) (de_callTy call_int1 snd_int rfl T.b_int PyProof.Rows.Boot.«int» (da_cons (de_cmp op_ge snd_ge (de_callB call_abs snd_abs rfl T.b_abs PyProof.Rows.Boot.«abs» (da_cons (dv 2) da_nil)) (de_op op_pow snd_pow de_int de_int) (nomark _)) da_nil))) (df_cons (de_op op_mod snd_mod (de_op op_mulAA snd_mul (de_op op_addA snd_add (de_op op_addA snd_add (de_op op_mod snd_mod (dv 2) de_int) (de_op op_mulAA snd_mul de_int (dv 1))) de_int) de_int) de_int) (df_cons de_int df_nil))))))))
def g_Ltake (m : Mir) : DS :=
  (dSeq (dIfS (dTest (dOp gGt (dOp gIx (dVar 0) (dC (.int 0))) (dC (.int 0)))) (dSeq (dAsg 2 (dOp gMod (dOp gIx (dVar 0) (dC (.int 0))) (dVar 1))) (dSeq (dStore (dOp gFdiv (dOp gIx (dVar 0) (dC (.int 0))) (dVar 1)) (dVar 0) (dC (.int 0))) (dRet (dVar 2)))) dNop) (dSeq (dIfS (dTest (dOp gGt (dVar 1) (dOp gPow (dC (.int 10)) (dC (.int 7))))) (dRet (dOp gMod (dOp gAdd (dFn [.io, .val] m (dACons (dVar 0) (dAFCons (dOp gPow (dC (.int 10)) (dC (.int 7))) dANil))) (dOp gMul (dOp gPow (dC (.int 10)) (dC (.int 7))) (dFn [.io, .val] m (dACons (dVar 0) (dAFCons (dOp gAdd (dOp gFdiv (dVar 1) (dOp gPow (dC (.int 10)) (dC (.int 7)))) (dC (.int 1))) dANil))))) (dVar 1))) dNop) (dSeq (dStore (dOp gAdd (dOp gIx (dVar 0) (dC (.int 2))) (dC (.int 1))) (dVar 0) (dC (.int 2))) (dSeq (dAsg 3 (dOp gMod (dOp gPow (dOp gAdd (dOp gIx (dVar 0) (dC (.int 1))) (dOp gMul (dC (.int 52183)) (dOp gIx (dVar 0) (dC (.int 2))))) (dC (.int 3))) (dC (.int 2147483587)))) (dRet (dOp gMod (dOp gFdiv (dOp gMod (dOp gAdd (dOp gMul (dVar 3) (dOp gAdd (dOp gMod (dVar 3) (dC (.int 30011))) (dC (.int 13)))) (dOp gMul (dOp gIx (dVar 0) (dC (.int 2))) (dC (.int 6389)))) (dC (.int 2147483647))) (dC (.int 32))) (dVar 1)))))))
def R_Ltake : Nat → Mir
  | 0 => fun _ => .stuck
  | n + 1 => noExc (runF [.io, .val] 4 (g_Ltake (R_Ltake n)))
theorem okR_Ltake (T : Tx K mg) : ∀ n, Callee P w K mg base (1 + n) "_law_take" P_Ltake [.io, .val] (R_Ltake n)
  | 0 => by
    obtain ⟨fd, F⟩ := T.d_Ltake
    exact Callee.zero F T.g_Ltake bd_Ltake
  | n + 1 => by
    have C_Ltake := okR_Ltake T n
    obtain ⟨fd, F⟩ := T.d_Ltake
    refine Callee.mk' (k := 1 + n) F T.g_Ltake sc_Ltake bd_Ltake rfl (by decide) fun cdv A outer s H E hr => ?_
    have nd := sc_Ltake.nd
    exact (dss_cons (ds_if (dt_cmp op_gt snd_gt (de_ix ix_seq snd_ix (dv 0) de_int (fun _ _ => rfl)) de_int (nomark _)) (dss_cons (ds_asg (i := 2) nd rfl (by first | exact Or.inl rfl | exact Or.inr rfl) (de_op op_mod snd_mod (de_ix ix_seq snd_ix (dv 0) de_int (fun _ _ => rfl)) (dv 1))) (dss_cons (ds_store (de_op op_fdivW snd_fdiv (de_ix ix_seq snd_ix (dv 0) de_int (fun _ _ => rfl)) (dv 1)) (dv 0) de_int) (dss_one (ds_ret (dv 2))))) dss_nop) (dss_cons (ds_if (dt_cmp op_gt snd_gt (dv 1) (de_op op_pow snd_pow de_int de_int) (nomark _)) (dss_one (ds_ret (de_op op_mod snd_mod (de_op op_addA snd_add (de_fn C_Ltake (hr.mono (by omega)) rfl (da_cons (dv 0) (da_fcons (de_op op_pow snd_pow de_int de_int) da_nil))) (de_op op_mulAA snd_mul (de_op op_pow snd_pow de_int de_int) (de_fn C_Ltake (hr.mono (by omega)) rfl (da_cons (dv 0) (da_fcons (de_op op_addA snd_add (de_op op_fdivW snd_fdiv (dv 1) (de_op op_pow snd_pow de_int de_int)) de_int) da_nil))))) (dv 1)))) dss_nop) (dss_cons (ds_store (de_op op_addA snd_add (de_ix ix_seq snd_ix (dv 0) de_int (fun _ _ => rfl)) de_int) (dv 0) de_int) (dss_cons (ds_asg (i := 3) nd rfl (by first | exact Or.inl rfl | exact Or.inr rfl) (de_op op_mod snd_mod (de_op op_pow snd_pow (de_op op_addA snd_add (de_ix ix_seq snd_ix (dv 0) de_int (fun _ _ => rfl)) (de_op op_mulAA snd_mul de_int (de_ix ix_seq snd_ix (dv 0) de_int (fun _ _ => rfl)))) de_int) de_int)) (dss_one (ds_ret (de_op op_mod snd_mod (de_op op_fdivW snd_fdiv (de_op op_mod snd_mod (de_op op_addA snd_add (de_op op_mulAA snd_mul (dv 3) (de_op op_addA snd_add (de_op op_mod snd_mod (dv 3) de_int) de_int)) (de_op op_mulAA snd_mul (de_ix ix_seq snd_ix (dv 0) de_int (fun _ _ => rfl)) de_int)) de_int) de_int) (dv 1))))))))
def M_Ltake : Mir := R_Ltake 4
theorem ok_Ltake (T : Tx K mg) : Callee P w K mg base 5 "_law_take" P_Ltake [.io, .val] M_Ltake := okR_Ltake T 4
def g_Lpick : DS :=
  (dRet (dOp gIx (dVar 1) (dFn [.io, .val] M_Ltake (dACons (dVar 0) (dAFCons (dCall gLen (dACons (dVar 1) dANil)) dANil)))))
def M_Lpick : Mir := noExc (runF [.io, .val] 2 g_Lpick)
theorem ok_Lpick (T : Tx K mg) : Callee P w K mg base 6 "_law_pick" P_Lpick [.io, .val] M_Lpick := by
  have C_Ltake : Callee P w K mg base 5 "_law_take" P_Ltake [.io, .val] M_Ltake := ok_Ltake T
  obtain ⟨fd, F⟩ := T.d_Lpick
  refine Callee.mk' (k := 5) F T.g_Lpick sc_Lpick bd_Lpick rfl (by decide) fun cdv A outer s H E hr => ?_
  have nd := sc_Lpick.nd
  exact (dss_one (ds_ret (de_ix ix_seq snd_ix (dv 1) (de_fn C_Ltake (hr.mono (by omega)) rfl (da_cons (dv 0) (da_fcons (de_callB call_len snd_len rfl T.b_len PyProof.Rows.Boot.«len» (da_cons (dv 1) da_nil)) da_nil))) (fun _ _ => rfl))))
def g_Lshuffled : DS :=
  (dSeq (dTupAsg [2, 3] (dACons (dCall gList (dACons (dVar 1) dANil)) (dACons (dLst dFNil) dANil))) (dSeq (whL (dTest (dOp gNe (dVar 2) (dLst dFNil))) (dDrop (dMut "list" gApp (dVar 3) (dFCons (dMut "list" gPopAt (dVar 2) (dFCons (dFn [.io, .val] M_Ltake (dACons (dVar 0) (dAFCons (dCall gLen (dACons (dVar 2) dANil)) dANil))) dFNil)) dFNil))) 100000) (dRet (dVar 3))))
def M_Lshuffled : Mir := noExc (runF [.io, .val] 4 g_Lshuffled)
theorem ok_Lshuffled (T : Tx K mg) : Callee P w K mg base 6 "_law_shuffled" P_Lshuffled [.io, .val] M_Lshuffled := by
  have C_Ltake : Callee P w K mg base 5 "_law_take" P_Ltake [.io, .val] M_Ltake := ok_Ltake T
  obtain ⟨fd, F⟩ := T.d_Lshuffled
  refine Callee.mk' (k := 5) F T.g_Lshuffled sc_Lshuffled bd_Lshuffled rfl (by decide) fun cdv A outer s H E hr => ?_
  have nd := sc_Lshuffled.nd
  exact (dss_cons (by first | exact ds_par2 (i := 2) (j := 3) rfl nd rfl rfl (by decide) rfl rfl (da_cons (de_callTy call_list_of snd_list rfl T.b_list PyProof.Rows.Boot.«list» (da_cons (dv 1) da_nil)) (da_cons (de_lst df_nil) da_nil)) rfl | exact ds_tupAsg (is := [2, 3]) (pg_tup rfl (pgs_cons (pg_name (i := 2) nd rfl (by first | exact Or.inl rfl | exact Or.inr rfl)) (pgs_cons (pg_name (i := 3) nd rfl (by first | exact Or.inl rfl | exact Or.inr rfl)) pgs_nil))) (by decide) (da_cons (de_callTy call_list_of snd_list rfl T.b_list PyProof.Rows.Boot.«list» (da_cons (dv 1) da_nil)) (da_cons (de_lst df_nil) da_nil))) (dss_cons (ds_while 100000 PassesOwn.never (dt_cmp (op_neD hr.units) snd_ne (dv 2) (de_lst df_nil) (nomark _)) (dss_one (ds_expr (de_mut PySem.F.plainAttrs_list PySem.F.slot_list_append PySem.F.type_list_append mt_append snd_app (dv 3) (df_cons (de_mut PySem.F.plainAttrs_list PySem.F.slot_list_pop PySem.F.type_list_pop mt_popAt snd_popAt (dv 2) (df_cons (de_fn C_Ltake (hr.mono (by omega)) rfl (da_cons (dv 0) (da_fcons (de_callB call_len snd_len rfl T.b_len PyProof.Rows.Boot.«len» (da_cons (dv 2) da_nil)) da_nil))) df_nil)) df_nil))))) (dss_one (ds_ret (dv 3)))))
def g_Lsizes : DS :=
  (dSeq (dTupAsg [2, 3, 4, 5] (dACons (dOp gAdd (dC (.int 1)) (dFn [.io, .val] M_Ltake (dACons (dVar 0) (dAFCons (dVar 1) dANil)))) (dACons (dFn [.io, .val] M_Lpick (dACons (dVar 0) (dAFCons (dLst (dFCons (dC (.int 1)) (dFCons (dC (.int 1)) (dFCons (dC (.int 3)) (dFCons (dOp gMul (dC (.int 8)) (dOp gPow (dC (.int 10)) (dC (.int 7)))) dFNil))))) dANil))) (dACons (dC (.int 0)) (dACons (dLst dFNil) dANil))))) (dSeq (dFor (.one 6) (dIRg onRg1 (dACons (dVar 2) dANil)) (dSeq (dAsg 4 (dOp gAdd (dOp gAdd (dVar 4) (dC (.int 1))) (dFn [.io, .val] M_Ltake (dACons (dVar 0) (dAFCons (dVar 3) dANil))))) (dDrop (dMut "list" gApp (dVar 5) (dFCons (dVar 4) dFNil))))) (dSeq (dAsg 7 (dFn [.io, .val] M_Ltake (dACons (dVar 0) (dAFCons (dC (.int 6)) dANil)))) (dSeq (dIfS (dTest (dOp gEq (dVar 7) (dC (.int 0)))) (dRet (dCall gTuple (dACons (dVar 5) dANil))) dNop) (dSeq (dIfS (dTest (dOp gEq (dVar 7) (dC (.int 1)))) (dRet (dCall gTuple (dACons (dSl3 (dVar 5) dONone dONone (dOSome (dUn gNeg (dC (.int 1))))) dANil))) dNop) (dSeq (dIfS (dTest (dOp gEq (dVar 7) (dC (.int 2)))) (dRet (dCall gTuple (dACons (dOp gAdd (dSl3 (dVar 5) dONone dONone (dOSome (dC (.int 2)))) (dSl3 (dSl3 (dVar 5) (dOSome (dC (.int 1))) dONone (dOSome (dC (.int 2)))) dONone dONone (dOSome (dUn gNeg (dC (.int 1)))))) dANil))) dNop) (dRet (dCall gTuple (dACons (dFn [.io, .val] M_Lshuffled (dACons (dVar 0) (dAFCons (dVar 5) dANil))) dANil)))))))))
def M_Lsizes : Mir := noExc (runF [.io, .val] 8 g_Lsizes)
theorem ok_Lsizes (T : Tx K mg) : Callee P w K mg base 7 "_law_sizes" P_Lsizes [.io, .val] M_Lsizes := by
  have C_Lpick : Callee P w K mg base 6 "_law_pick" P_Lpick [.io, .val] M_Lpick := ok_Lpick T
  have C_Ltake : Callee P w K mg base 5 "_law_take" P_Ltake [.io, .val] M_Ltake := ok_Ltake T
  have C_Lshuffled : Callee P w K mg base 6 "_law_shuffled" P_Lshuffled [.io, .val] M_Lshuffled := ok_Lshuffled T
  obtain ⟨fd, F⟩ := T.d_Lsizes
  refine Callee.mk' (k := 6) F T.g_Lsizes sc_Lsizes bd_Lsizes rfl (by decide) fun cdv A outer s H E hr => ?_
  have nd := sc_Lsizes.nd
  exact (dss_cons (ds_tupAsg (is := [2, 3, 4, 5]) (pg_tup rfl (pgs_cons (pg_name (i := 2) nd rfl (by first | exact Or.inl rfl | exact Or.inr rfl)) (pgs_cons (pg_name (i := 3) nd rfl (by first | exact Or.inl rfl | exact Or.inr rfl)) (pgs_cons (pg_name (i := 4) nd rfl (by first | exact Or.inl rfl | exact Or.inr rfl)) (pgs_cons (pg_name (i := 5) nd rfl (by first | exact Or.inl rfl | exact Or.inr rfl)) pgs_nil))))) (by decide) (da_cons (de_op op_addA snd_add de_int (de_fn C_Ltake (hr.mono (by omega)) rfl (da_cons (dv 0) (da_fcons (dv 1) da_nil)))) (da_cons (de_fn C_Lpick (hr.mono (by omega)) rfl (da_cons (dv 0) (da_fcons (de_lst (df_cons de_int (df_cons de_int (df_cons de_int (df_cons (de_op op_mulAA snd_mul de_int (de_op op_pow snd_pow de_int de_int)) df_nil))))) da_nil))) (da_cons de_int (da_cons (de_lst df_nil) da_nil))))) (dss_cons (ds_for (t := (.one 6)) PassesOwn.never rfl (di_range1 rfl T.b_range (da_cons (dv 2) da_nil)) (pg_name (i := 6) nd rfl (by first | exact Or.inl rfl | exact Or.inr rfl)) (dss_cons (ds_asg (i := 4) nd rfl (by first | exact Or.inl rfl | exact Or.inr rfl) (de_op op_addA snd_add (de_op op_addA snd_add (dv 4) de_int) (de_fn C_Ltake (hr.mono (by omega)) rfl (da_cons (dv 0) (da_fcons (dv 3) da_nil))))) (dss_one (ds_expr (de_mut PySem.F.plainAttrs_list PySem.F.slot_list_append PySem.F.type_list_append mt_append snd_app (dv 5) (df_cons (dv 4) df_nil)))))) (dss_cons (ds_asg (i := 7) nd rfl (by first | exact Or.inl rfl | exact Or.inr rfl) (de_fn C_Ltake (hr.mono (by omega)) rfl (da_cons (dv 0) (da_fcons de_int da_nil)))) (dss_cons (ds_if (dt_cmp (op_eqD hr.units) snd_eq (dv 7) de_int (nomark _)) (dss_one (ds_ret (de_callTy call_tuple_of snd_tuple rfl T.b_tuple PyProof.Rows.Boot.«tuple» (da_cons (dv 5) da_nil)))) dss_nop) (dss_cons (ds_if (dt_cmp (op_eqD hr.units) snd_eq (dv 7) de_int (nomark _)) (dss_one (ds_ret (de_callTy call_tuple_of snd_tuple rfl T.b_tuple PyProof.Rows.Boot.«tuple» (da_cons (de_sl3 (dv 5) do_none do_none (do_some (de_neg de_int))) da_nil)))) dss_nop) (dss_cons (ds_if (dt_cmp (op_eqD hr.units) snd_eq (dv 7) de_int (nomark _)) (dss_one (ds_ret (de_callTy call_tuple_of snd_tuple rfl T.b_tuple PyProof.Rows.Boot.«tuple» (da_cons (de_op op_addA snd_add (de_sl3 (dv 5) do_none do_none (do_some de_int)) (de_sl3 (de_sl3 (dv 5) (do_some de_int) do_none (do_some de_int)) do_none do_none (do_some (de_neg de_int)))) da_nil)))) dss_nop) (dss_one (ds_ret (de_callTy call_tuple_of snd_tuple rfl T.b_tuple PyProof.Rows.Boot.«tuple» (da_cons (de_fn C_Lshuffled (hr.mono (by omega)) rfl (da_cons (dv 0) (da_fcons (dv 5) da_nil))) da_nil))))))))))
def g_Lbigger : DS :=
  (dSeq (dAsg 4 (dC (.int 1))) (dSeq (whL (dTest (dChain gLe gLt (dC (.int 0)) (dOp gAdd (dVar 1) (dOp gMul (dVar 2) (dVar 4))) (dCall gLen (dACons (dVar 0) dANil)))) (dSeq (dIfS (dTest (dOp gGt (dOp gIx (dVar 0) (dOp gAdd (dVar 1) (dOp gMul (dVar 2) (dVar 4)))) (dVar 3))) (dRet (dVar 4)) dNop) (dAsg 4 (dOp gAdd (dVar 4) (dC (.int 1))))) 100000) (dRet (dC .non))))
def M_Lbigger : Mir := noExc (runF [.val, .val, .val, .val] 5 g_Lbigger)
theorem ok_Lbigger (T : Tx K mg) : Callee P w K mg base 1 "_law_bigger" P_Lbigger [.val, .val, .val, .val] M_Lbigger := by
  obtain ⟨fd, F⟩ := T.d_Lbigger
  refine Callee.mk' (k := 0) F T.g_Lbigger sc_Lbigger bd_Lbigger rfl (by decide) fun cdv A outer s H E hr => ?_
  have nd := sc_Lbigger.nd
  exact (dss_cons (ds_asg (i := 4) nd rfl (by first | exact Or.inl rfl | exact Or.inr rfl) de_int) (dss_cons (ds_while 100000 PassesOwn.never (dt_chain op_le op_lt snd_le snd_lt de_int (de_op op_addA snd_add (dv 1) (de_op op_mulAA snd_mul (dv 2) (dv 4))) (de_callB call_len snd_len rfl T.b_len PyProof.Rows.Boot.«len» (da_cons (dv 0) da_nil))) (dss_cons (ds_if (dt_cmp op_gt snd_gt (de_ix ix_seq snd_ix (dv 0) (de_op op_addA snd_add (dv 1) (de_op op_mulAA snd_mul (dv 2) (dv 4))) (fun _ _ => rfl)) (dv 3) (nomark _)) (dss_one (ds_ret (dv 4))) dss_nop) (dss_one (ds_asg (i := 4) nd rfl (by first | exact Or.inl rfl | exact Or.inr rfl) (de_op op_addA snd_add (dv 4) de_int))))) (dss_one (ds_ret de_non))))
def g_Lpart : DS :=
  (dSeq (dTupAsg [2, 3] (dACons (dVar 0) (dACons (dVar 1) dANil))) (dSeq (whL (dTest (dOp gGt (dVar 3) (dC (.int 0)))) (dTupAsg [2, 3] (dACons (dVar 3) (dACons (dOp gMod (dVar 2) (dVar 3)) dANil))) 100000) (dRet (dTup (dFCons (dOp gFdiv (dVar 0) (dVar 2)) (dFCons (dOp gFdiv (dVar 1) (dVar 2)) dFNil))))))
def M_Lpart : Mir := noExc (runF [.val, .val] 4 g_Lpart)
theorem ok_Lpart (T : Tx K mg) : Callee P w K mg base 1 "_law_part" P_Lpart [.val, .val] M_Lpart := by
  obtain ⟨fd, F⟩ := T.d_Lpart
  refine Callee.mk' (k := 0) F T.g_Lpart sc_Lpart bd_Lpart rfl (by decide) fun cdv A outer s H E hr => ?_
  have nd := sc_Lpart.nd
  exact (dss_cons (by first | exact ds_par2 (i := 2) (j := 3) rfl nd rfl rfl (by decide) rfl rfl (da_cons (dv 0) (da_cons (dv 1) da_nil)) rfl | exact ds_tupAsg (is := [2, 3]) (pg_tup rfl (pgs_cons (pg_name (i := 2) nd rfl (by first | exact Or.inl rfl | exact Or.inr rfl)) (pgs_cons (pg_name (i := 3) nd rfl (by first | exact Or.inl rfl | exact Or.inr rfl)) pgs_nil))) (by decide) (da_cons (dv 0) (da_cons (dv 1) da_nil))) (dss_cons (ds_while 100000 PassesOwn.never (dt_cmp op_gt snd_gt (dv 3) de_int (nomark _)) (dss_one (by first | exact ds_par2 (i := 2) (j := 3) rfl nd rfl rfl (by decide) rfl rfl (da_cons (dv 3) (da_cons (de_op op_mod snd_mod (dv 2) (dv 3)) da_nil)) rfl | exact ds_tupAsg (is := [2, 3]) (pg_tup rfl (pgs_cons (pg_name (i := 2) nd rfl (by first | exact Or.inl rfl | exact Or.inr rfl)) (pgs_cons (pg_name (i := 3) nd rfl (by first | exact Or.inl rfl | exact Or.inr rfl)) pgs_nil))) (by decide) (da_cons (dv 3) (da_cons (de_op op_mod snd_mod (dv 2) (dv 3)) da_nil))))) (dss_one (ds_ret (de_tup (df_cons (de_op op_fdivW snd_fdiv (dv 0) (dv 2)) (df_cons (de_op op_fdivW snd_fdiv (dv 1) (dv 2)) df_nil)))))))
def g_Lsum_of : DS :=
  (dSeq (dTupAsg [1, 2] (dACons (dC (.int 0)) (dACons (dC (.int 1)) dANil))) (dSeq (dFor (.one 3) (dISeq (dVar 0)) (dSeq (dAsg 1 (dOp gAdd (dOp gMul (dVar 1) (dOp gIx (dVar 3) (dC (.int 1)))) (dOp gMul (dOp gIx (dVar 3) (dC (.int 0))) (dVar 2)))) (dSeq (dAsg 4 (dFn [.val, .val] M_Lpart (dAFCons (dVar 1) (dAFCons (dOp gMul (dVar 2) (dOp gIx (dVar 3) (dC (.int 1)))) dANil)))) (dTupAsg [1, 2] (dACons (dOp gIx (dVar 4) (dC (.int 0))) (dACons (dOp gIx (dVar 4) (dC (.int 1))) dANil)))))) (dRet (dTup (dFCons (dVar 1) (dFCons (dVar 2) dFNil))))))
def M_Lsum_of : Mir := noExc (runF [.val] 5 g_Lsum_of)
theorem ok_Lsum_of (T : Tx K mg) : Callee P w K mg base 2 "_law_sum_of" P_Lsum_of [.val] M_Lsum_of := by
  have C_Lpart : Callee P w K mg base 1 "_law_part" P_Lpart [.val, .val] M_Lpart := ok_Lpart T
  obtain ⟨fd, F⟩ := T.d_Lsum_of
  refine Callee.mk' (k := 1) F T.g_Lsum_of sc_Lsum_of bd_Lsum_of rfl (by decide) fun cdv A outer s H E hr => ?_
  have nd := sc_Lsum_of.nd
  exact (dss_cons (by first | exact ds_par2 (i := 1) (j := 2) rfl nd rfl rfl (by decide) rfl rfl (da_cons de_int (da_cons de_int da_nil)) rfl | exact ds_tupAsg (is := [1, 2]) (pg_tup rfl (pgs_cons (pg_name (i := 1) nd rfl (by first | exact Or.inl rfl | exact Or.inr rfl)) (pgs_cons (pg_name (i := 2) nd rfl (by first | exact Or.inl rfl | exact Or.inr rfl)) pgs_nil))) (by decide) (da_cons de_int (da_cons de_int da_nil))) (dss_cons (ds_for (t := (.one 3)) PassesOwn.never rfl (di_seq (dv 0)) (pg_name (i := 3) nd rfl (by first | exact Or.inl rfl | exact Or.inr rfl)) (dss_cons (ds_asg (i := 1) nd rfl (by first | exact Or.inl rfl | exact Or.inr rfl) (de_op op_addA snd_add (de_op op_mulAA snd_mul (dv 1) (de_ix ix_seq snd_ix (dv 3) de_int (fun _ _ => rfl))) (de_op op_mulAA snd_mul (de_ix ix_seq snd_ix (dv 3) de_int (fun _ _ => rfl)) (dv 2)))) (dss_cons (ds_asg (i := 4) nd rfl (by first | exact Or.inl rfl | exact Or.inr rfl) (de_fn C_Lpart (hr.mono (by omega)) rfl (da_fcons (dv 1) (da_fcons (de_op op_mulAA snd_mul (dv 2) (de_ix ix_seq snd_ix (dv 3) de_int (fun _ _ => rfl))) da_nil)))) (dss_one (by first | exact ds_par2 (i := 1) (j := 2) rfl nd rfl rfl (by decide) rfl rfl (da_cons (de_ix ix_seq snd_ix (dv 4) de_int (fun _ _ => rfl)) (da_cons (de_ix ix_seq snd_ix (dv 4) de_int (fun _ _ => rfl)) da_nil)) rfl | exact ds_tupAsg (is := [1, 2]) (pg_tup rfl (pgs_cons (pg_name (i := 1) nd rfl (by first | exact Or.inl rfl | exact Or.inr rfl)) (pgs_cons (pg_name (i := 2) nd rfl (by first | exact Or.inl rfl | exact Or.inr rfl)) pgs_nil))) (by decide) (da_cons (de_ix ix_seq snd_ix (dv 4) de_int (fun _ _ => rfl)) (da_cons (de_ix ix_seq snd_ix (dv 4) de_int (fun _ _ => rfl)) da_nil))))))) (dss_one (ds_ret (de_tup (df_cons (dv 1) (df_cons (dv 2) df_nil)))))))
def g_Lbehind : DS :=
  (dSeq (dIfS (dAndT (dTest (dOp (gIsN false) (dVar 1) (dC .non))) (dTest (dOp (gIsN false) (dVar 2) (dC .non)))) (dRet (dTup (dFCons (dC (.int 1)) (dFCons (dC (.int 1)) dFNil)))) dNop) (dSeq (dIfS (dOrT (dTest (dOp (gIsN false) (dVar 1) (dC .non))) (dTest (dOp (gIsN false) (dVar 2) (dC .non)))) (dSeq (dAsg 3 (dIf (dTest (dOp (gIsN false) (dVar 1) (dC .non))) (dVar 2) (dVar 1))) (dRet (dFn [.val, .val] M_Lpart (dAFCons (dVar 3) (dAFCons (dOp gAdd (dVar 0) (dVar 3)) dANil))))) dNop) (dSeq (dAsg 4 (dOp gAdd (dOp gAdd (dVar 0) (dVar 1)) (dVar 2))) (dSeq (dAsg 5 (dLst (dFCons (dTup (dFCons (dOp gMul (dVar 1) (dVar 2)) (dFCons (dOp gMul (dVar 4) (dOp gAdd (dVar 0) (dVar 2))) dFNil))) (dFCons (dTup (dFCons (dOp gMul (dVar 2) (dVar 1)) (dFCons (dOp gMul (dVar 4) (dOp gAdd (dVar 0) (dVar 1))) dFNil))) dFNil)))) (dRet (dFn [.val] M_Lsum_of (dAFCons (dVar 5) dANil)))))))
def M_Lbehind : Mir := noExc (runF [.val, .val, .val] 6 g_Lbehind)
theorem ok_Lbehind (T : Tx K mg) : Callee P w K mg base 3 "_law_behind" P_Lbehind [.val, .val, .val] M_Lbehind := by
  have C_Lpart : Callee P w K mg base 1 "_law_part" P_Lpart [.val, .val] M_Lpart := ok_Lpart T
  have C_Lsum_of : Callee P w K mg base 2 "_law_sum_of" P_Lsum_of [.val] M_Lsum_of := ok_Lsum_of T
  obtain ⟨fd, F⟩ := T.d_Lbehind
  refine Callee.mk' (k := 2) F T.g_Lbehind sc_Lbehind bd_Lbehind rfl (by decide) fun cdv A outer s H E hr => ?_
  have nd := sc_Lbehind.nd
  exact (dss_cons (ds_if (DWx.pt (dw_and (dt_cmp op_isN snd_isN (dv 1) de_non (nomark _)) (dw_and1 (dt_cmp op_isN snd_isN (dv 2) de_non (nomark _))))) (dss_one (ds_ret (de_tup (df_cons de_int (df_cons de_int df_nil))))) dss_nop) (dss_cons (ds_if (DWx.pt (dw_or (dt_cmp op_isN snd_isN (dv 1) de_non (nomark _)) (dw_or1 (dt_cmp op_isN snd_isN (dv 2) de_non (nomark _))))) (dss_cons (ds_asg (i := 3) nd rfl (by first | exact Or.inl rfl | exact Or.inr rfl) (de_if (dt_cmp op_isN snd_isN (dv 1) de_non (nomark _)) (dv 2) (dv 1))) (dss_one (ds_ret (de_fn C_Lpart (hr.mono (by omega)) rfl (da_fcons (dv 3) (da_fcons (de_op op_addA snd_add (dv 0) (dv 3)) da_nil)))))) dss_nop) (dss_cons (ds_asg (i := 4) nd rfl (by first | exact Or.inl rfl | exact Or.inr rfl) (de_op op_addA snd_add (de_op op_addA snd_add (dv 0) (dv 1)) (dv 2))) (dss_cons (ds_asg (i := 5) nd rfl (by first | exact Or.inl rfl | exact Or.inr rfl) (de_lst (df_cons (de_tup (df_cons (de_op op_mulAA snd_mul (dv 1) (dv 2)) (df_cons (de_op op_mulAA snd_mul (dv 4) (de_op op_addA snd_add (dv 0) (dv 2))) df_nil))) (df_cons (de_tup (df_cons (de_op op_mulAA snd_mul (dv 2) (dv 1)) (df_cons (de_op op_mulAA snd_mul (dv 4) (de_op op_addA snd_add (dv 0) (dv 1))) df_nil))) df_nil)))) (dss_one (ds_ret (de_fn C_Lsum_of (hr.mono (by omega)) rfl (da_fcons (dv 5) da_nil))))))))
def g_Lhigher : DS :=
  (dSeq (dAsg 2 (dLst dFNil)) (dSeq (dFor (.one 3) (dIRg onRg1 (dACons (dCall gLen (dACons (dVar 0) dANil)) dANil)) (dSeq (dAsg 4 (dLRg2 (dCall gMin2 (dACons (dVar 1) (dACons (dVar 3) dANil))) (dOp gAdd (dCall gMax2 (dACons (dVar 1) (dACons (dVar 3) dANil))) (dC (.int 1))))) (dIfS (dAndT (dTest (dOp gNe (dVar 3) (dVar 1))) (dTest (dOp gEq (dOp gIx (dVar 0) (dVar 3)) (dCall gMaxL (dACons (dLC [5] (.one 5) (dISeq (dVar 4)) dYes (dOp gIx (dVar 0) (dVar 5))) dANil))))) (dDrop (dMut "list" gApp (dVar 2) (dFCons (dVar 3) dFNil))) dNop))) (dRet (dVar 2))))
def M_Lhigher : Mir := noExc (runF [.val, .val] 6 g_Lhigher)
theorem ok_Lhigher (T : Tx K mg) : Callee P w K mg base 1 "_law_higher" P_Lhigher [.val, .val] M_Lhigher := by
  obtain ⟨fd, F⟩ := T.d_Lhigher
  refine Callee.mk' (k := 0) F T.g_Lhigher sc_Lhigher bd_Lhigher rfl (by decide) fun cdv A outer s H E hr => ?_
  have nd := sc_Lhigher.nd
  exact (dss_cons (ds_asg (i := 2) nd rfl (by first | exact Or.inl rfl | exact Or.inr rfl) (de_lst df_nil)) (dss_cons (ds_for (t := (.one 3)) PassesOwn.never rfl (di_range1 rfl T.b_range (da_cons (de_callB call_len snd_len rfl T.b_len PyProof.Rows.Boot.«len» (da_cons (dv 0) da_nil)) da_nil)) (pg_name (i := 3) nd rfl (by first | exact Or.inl rfl | exact Or.inr rfl)) (dss_cons (ds_asg (i := 4) nd rfl (by first | exact Or.inl rfl | exact Or.inr rfl) (de_lrg2 rfl rfl T.b_list rfl T.b_range (de_callB (call_min2 rfl) snd_min2 rfl T.b_min PyProof.Rows.Boot.«min» (da_cons (dv 1) (da_cons (dv 3) da_nil))) (de_op op_addA snd_add (de_callB (call_max2 rfl) snd_max2 rfl T.b_max PyProof.Rows.Boot.«max» (da_cons (dv 1) (da_cons (dv 3) da_nil))) de_int))) (dss_one (ds_if (DWx.pt (dw_and (dt_cmp (op_neD hr.units) snd_ne (dv 3) (dv 1) (nomark _)) (dw_and1 (dt_cmp (op_eqD hr.units) snd_eq (de_ix ix_seq snd_ix (dv 0) (dv 3) (fun _ _ => rfl)) (de_callB (cr_max rfl) snd_maxL rfl T.b_max PyProof.Rows.Boot.«max» (da_cons (de_lc (own := [("_law_some", 5)]) (t := (.one 5)) rfl nd (di_seq (dv 4)) (blkOk_by (own := [("_law_some", 5)]) (N := N_Lhigher) (sc := defScope s_Lhigher) (by decide +kernel)) rfl (fun _ _ _ _ _ => (pg_name (i := 5) nd rfl (by first | exact Or.inl rfl | exact Or.inr rfl))) (fun _ _ _ _ _ => dp_nil) (fun _ _ _ _ _ => (de_ix ix_seq snd_ix (dv 0) (dv 5) (fun _ _ => rfl)))) da_nil)) (nomark _))))) (dss_one (ds_expr (de_mut PySem.F.plainAttrs_list PySem.F.slot_list_append PySem.F.type_list_append mt_append snd_app (dv 2) (df_cons (dv 3) df_nil)))) dss_nop)))) (dss_one (ds_ret (dv 2)))))
def g_Lpair : DS :=
  (dSeq (dIfS (dTest (dOp gNotIn (dVar 2) (dFn [.val, .val] M_Lhigher (dAFCons (dVar 0) (dAFCons (dVar 1) dANil))))) (dRet (dLst (dFCons (dTup (dFCons (dC (.int 0)) (dFCons (dC (.int 1)) dFNil))) (dFCons (dTup (dFCons (dC (.int 0)) (dFCons (dC (.int 1)) dFNil))) dFNil)))) dNop) (dSeq (dTupAsg [3, 4] (dACons (dIf (dTest (dOp gGt (dVar 2) (dVar 1))) (dC (.int 1)) (dUn gNeg (dC (.int 1)))) (dACons (dCall gAbs (dACons (dOp gSub (dVar 2) (dVar 1)) dANil)) dANil))) (dSeq (dAsg 5 (dFn [.val, .val, .val, .val] M_Lbigger (dAFCons (dVar 0) (dAFCons (dVar 2) (dAFCons (dVar 3) (dAFCons (dOp gIx (dVar 0) (dVar 2)) dANil)))))) (dSeq (dAsg 6 (dFn [.val, .val, .val, .val] M_Lbigger (dAFCons (dVar 0) (dAFCons (dVar 1) (dAFCons (dVar 3) (dAFCons (dOp gIx (dVar 0) (dVar 1)) dANil)))))) (dSeq (dAsg 7 (dFn [.val, .val, .val] M_Lbehind (dAFCons (dVar 4) (dAFCons (dFn [.val, .val, .val, .val] M_Lbigger (dAFCons (dVar 0) (dAFCons (dVar 1) (dAFCons (dUn gNeg (dVar 3)) (dAFCons (dOp gIx (dVar 0) (dVar 1)) dANil))))) (dAFCons (dVar 5) dANil))))) (dSeq (dAsg 8 (dFn [.val, .val] M_Lpart (dAFCons (dOp gMul (dVar 6) (dOp gIx (dVar 7) (dC (.int 0)))) (dAFCons (dOp gMul (dVar 4) (dOp gIx (dVar 7) (dC (.int 1)))) dANil)))) (dRet (dLst (dFCons (dVar 8) (dFCons (dFn [.val, .val, .val] M_Lbehind (dAFCons (dVar 4) (dAFCons (dFn [.val, .val, .val, .val] M_Lbigger (dAFCons (dVar 0) (dAFCons (dVar 1) (dAFCons (dUn gNeg (dVar 3)) (dAFCons (dOp gIx (dVar 0) (dVar 2)) dANil))))) (dAFCons (dVar 5) dANil)))) dFNil))))))))))
def M_Lpair : Mir := noExc (runF [.val, .val, .val] 9 g_Lpair)
theorem ok_Lpair (T : Tx K mg) : Callee P w K mg base 4 "_law_pair" P_Lpair [.val, .val, .val] M_Lpair := by
  have C_Lhigher : Callee P w K mg base 1 "_law_higher" P_Lhigher [.val, .val] M_Lhigher := ok_Lhigher T
  have C_Lbigger : Callee P w K mg base 1 "_law_bigger" P_Lbigger [.val, .val, .val, .val] M_Lbigger := ok_Lbigger T
  have C_Lbehind : Callee P w K mg base 3 "_law_behind" P_Lbehind [.val, .val, .val] M_Lbehind := ok_Lbehind T
  have C_Lpart : Callee P w K mg base 1 "_law_part" P_Lpart [.val, .val] M_Lpart := ok_Lpart T
  obtain ⟨fd, F⟩ := T.d_Lpair
  refine Callee.mk' (k := 3) F T.g_Lpair sc_Lpair bd_Lpair rfl (by decide) fun cdv A outer s H E hr => ?_
  have nd := sc_Lpair.nd
  exact (dss_cons (ds_if (dt_cmp op_notIn_seq snd_notIn (dv 2) (de_fn C_Lhigher (hr.mono (by omega)) rfl (da_fcons (dv 0) (da_fcons (dv 1) da_nil))) rfl) (dss_one (ds_ret (de_lst (df_cons (de_tup (df_cons de_int (df_cons de_int df_nil))) (df_cons (de_tup (df_cons de_int (df_cons de_int df_nil))) df_nil))))) dss_nop) (dss_cons (by first | exact ds_par2 (i := 3) (j := 4) rfl nd rfl rfl (by decide) rfl rfl (da_cons (de_if (dt_cmp op_gt snd_gt (dv 2) (dv 1) (nomark _)) de_int (de_neg de_int)) (da_cons (de_callB call_abs snd_abs rfl T.b_abs PyProof.Rows.Boot.«abs» (da_cons (de_op op_sub snd_sub (dv 2) (dv 1)) da_nil)) da_nil)) rfl | exact ds_tupAsg (is := [3, 4]) (pg_tup rfl (pgs_cons (pg_name (i := 3) nd rfl (by first | exact Or.inl rfl | exact Or.inr rfl)) (pgs_cons (pg_name (i := 4) nd rfl (by first | exact Or.inl rfl | exact Or.inr rfl)) pgs_nil))) (by decide) (da_cons (de_if (dt_cmp op_gt snd_gt (dv 2) (dv 1) (nomark _)) de_int (de_neg de_int)) (da_cons (de_callB call_abs snd_abs rfl T.b_abs PyProof.Rows.Boot.«abs» (da_cons (de_op op_sub snd_sub (dv 2) (dv 1)) da_nil)) da_nil))) (dss_cons (ds_asg (i := 5) nd rfl (by first | exact Or.inl rfl | exact Or.inr rfl) (de_fn C_Lbigger (hr.mono (by omega)) rfl (da_fcons (dv 0) (da_fcons (dv 2) (da_fcons (dv 3) (da_fcons (de_ix ix_seq snd_ix (dv 0) (dv 2) (fun _ _ => rfl)) da_nil)))))) (dss_cons (ds_asg (i := 6) nd rfl (by first | exact Or.inl rfl | exact Or.inr rfl) (de_fn C_Lbigger (hr.mono (by omega)) rfl (da_fcons (dv 0) (da_fcons (dv 1) (da_fcons (dv 3) (da_fcons (de_ix ix_seq snd_ix (dv 0) (dv 1) (fun _ _ => rfl)) da_nil)))))) (dss_cons (ds_asg (i := 7) nd rfl (by first | exact Or.inl rfl | exact Or.inr rfl) (de_fn C_Lbehind (hr.mono (by omega)) rfl (da_fcons (dv 4) (da_fcons (de_fn C_Lbigger (hr.mono (by omega)) rfl (da_fcons (dv 0) (da_fcons (dv 1) (da_fcons (de_neg (dv 3)) (da_fcons (de_ix ix_seq snd_ix (dv 0) (dv 1) (fun _ _ => rfl)) da_nil))))) (da_fcons (dv 5) da_nil))))) (dss_cons (ds_asg (i := 8) nd rfl (by first | exact Or.inl rfl | exact Or.inr rfl) (de_fn C_Lpart (hr.mono (by omega)) rfl (da_fcons (de_op op_mulAA snd_mul (dv 6) (de_ix ix_seq snd_ix (dv 7) de_int (fun _ _ => rfl))) (da_fcons (de_op op_mulAA snd_mul (dv 4) (de_ix ix_seq snd_ix (dv 7) de_int (fun _ _ => rfl))) da_nil)))) (dss_one (ds_ret (de_lst (df_cons (dv 8) (df_cons (de_fn C_Lbehind (hr.mono (by omega)) rfl (da_fcons (dv 4) (da_fcons (de_fn C_Lbigger (hr.mono (by omega)) rfl (da_fcons (dv 0) (da_fcons (dv 1) (da_fcons (de_neg (dv 3)) (da_fcons (de_ix ix_seq snd_ix (dv 0) (dv 2) (fun _ _ => rfl)) da_nil))))) (da_fcons (dv 5) da_nil)))) df_nil)))))))))))
def g_Lsame (m : Mir) : DS :=
  (dSeq (dIfS (dTest (dCall gIsi (dACons (dVar 1) (dACons (dTup (dFCons (dC (.opq (.ty "list"))) (dFCons (dC (.opq (.ty "tuple"))) dFNil))) dANil)))) (dSeq (dIfS (dOrT (dTest (dOp gNe (dCall gIsi (dACons (dVar 0) (dACons (dC (.opq (.ty "list"))) dANil))) (dCall gIsi (dACons (dVar 1) (dACons (dC (.opq (.ty "list"))) dANil))))) (dTest (dOp gNe (dCall gIsi (dACons (dVar 0) (dACons (dC (.opq (.ty "tuple"))) dANil))) (dCall gIsi (dACons (dVar 1) (dACons (dC (.opq (.ty "tuple"))) dANil)))))) (dRet (dC (.bl false))) dNop) (dRet (dAndV (dOp gEq (dCall gLen (dACons (dVar 0) dANil)) (dCall gLen (dACons (dVar 1) dANil))) (dCall gAll (dACons (dLC [2, 3] (.many [2, 3]) (dIZip (dFCons (dVar 0) (dFCons (dVar 1) dFNil))) dYes (dFn [.val, .val] m (dAFCons (dVar 2) (dAFCons (dVar 3) dANil)))) dANil))))) dNop) (dSeq (dIfS (dOrT (dTest (dOp (gIsN false) (dVar 1) (dC .non))) (dTest (dCall gIsi (dACons (dVar 1) (dACons (dC (.opq (.ty "str"))) dANil))))) (dRet (dAndV (dOp gEq (dVar 0) (dVar 1)) (dOp gEq (dCall gIsi (dACons (dVar 0) (dACons (dC (.opq (.ty "str"))) dANil))) (dCall gIsi (dACons (dVar 1) (dACons (dC (.opq (.ty "str"))) dANil)))))) dNop) (dRet (dAndV (dCall gIsi (dACons (dVar 0) (dACons (dC (.opq (.ty "int"))) dANil))) (dAndV (dOp gEq (dCall gIsi (dACons (dVar 0) (dACons (dC (.opq (.ty "bool"))) dANil))) (dCall gIsi (dACons (dVar 1) (dACons (dC (.opq (.ty "bool"))) dANil)))) (dOp gEq (dVar 0) (dVar 1)))))))
def R_Lsame : Nat → Mir
  | 0 => fun _ => .stuck
  | n + 1 => noExc (runF [.val, .val] 4 (g_Lsame (R_Lsame n)))
theorem okR_Lsame (T : Tx K mg) : ∀ n, Callee P w K mg base (1 + n) "_law_same" P_Lsame [.val, .val] (R_Lsame n)
  | 0 => by
    obtain ⟨fd, F⟩ := T.d_Lsame
    exact Callee.zero F T.g_Lsame bd_Lsame
  | n + 1 => by
    have C_Lsame := okR_Lsame T n
    obtain ⟨fd, F⟩ := T.d_Lsame
    refine Callee.mk' (k := 1 + n) F T.g_Lsame sc_Lsame bd_Lsame rfl (by decide) fun cdv A outer s H E hr => ?_
    have nd := sc_Lsame.nd
    exact (dss_cons (ds_if (dt_val (de_callB call_isiA snd_isi rfl T.b_isinstance PyProof.Rows.Boot.«isinstance» (da_cons (dv 1) (da_cons (de_tup (df_cons (de_ty rfl T.b_list PyProof.Rows.Boot.«list») (df_cons (de_ty rfl T.b_tuple PyProof.Rows.Boot.«tuple») df_nil))) da_nil)))) (dss_cons (ds_if (DWx.pt (dw_or (dt_cmp (op_neD hr.units) snd_ne (de_callB call_isiA snd_isi rfl T.b_isinstance PyProof.Rows.Boot.«isinstance» (da_cons (dv 0) (da_cons (de_ty rfl T.b_list PyProof.Rows.Boot.«list») da_nil))) (de_callB call_isiA snd_isi rfl T.b_isinstance PyProof.Rows.Boot.«isinstance» (da_cons (dv 1) (da_cons (de_ty rfl T.b_list PyProof.Rows.Boot.«list») da_nil))) (nomark _)) (dw_or1 (dt_cmp (op_neD hr.units) snd_ne (de_callB call_isiA snd_isi rfl T.b_isinstance PyProof.Rows.Boot.«isinstance» (da_cons (dv 0) (da_cons (de_ty rfl T.b_tuple PyProof.Rows.Boot.«tuple») da_nil))) (de_callB call_isiA snd_isi rfl T.b_isinstance PyProof.Rows.Boot.«isinstance» (da_cons (dv 1) (da_cons (de_ty rfl T.b_tuple PyProof.Rows.Boot.«tuple») da_nil))) (nomark _))))) (dss_one (ds_ret de_bl)) dss_nop) (dss_one (ds_ret (de_and (de_cmp (op_eqD hr.units) snd_eq (de_callB call_len snd_len rfl T.b_len PyProof.Rows.Boot.«len» (da_cons (dv 0) da_nil)) (de_callB call_len snd_len rfl T.b_len PyProof.Rows.Boot.«len» (da_cons (dv 1) da_nil)) (nomark _)) (de_one (de_callB (cr_all rfl) snd_all rfl T.b_all PyProof.Rows.Boot.«all» (da_cons (de_lc (own := [("_law_mine", 2), ("_law_its", 3)]) (t := (.many [2, 3])) rfl nd (di_zip rfl T.b_zip (df_cons (dv 0) (df_cons (dv 1) df_nil))) (blkOk_by (own := [("_law_mine", 2), ("_law_its", 3)]) (N := N_Lsame) (sc := defScope s_Lsame) (by decide +kernel)) rfl (fun _ _ _ _ _ => (pg_tup rfl (pgs_cons (pg_name (i := 2) nd rfl (by first | exact Or.inl rfl | exact Or.inr rfl)) (pgs_cons (pg_name (i := 3) nd rfl (by first | exact Or.inl rfl | exact Or.inr rfl)) pgs_nil)))) (fun _ _ _ _ _ => dp_nil) (fun _ _ _ _ _ => (de_fn C_Lsame (hr.mono (by omega)) rfl (da_fcons (dv 2) (da_fcons (dv 3) da_nil))))) da_nil))))))) dss_nop) (dss_cons (ds_if (DWx.pt (dw_or (dt_cmp op_isN snd_isN (dv 1) de_non (nomark _)) (dw_or1 (dt_val (de_callB call_isiA snd_isi rfl T.b_isinstance PyProof.Rows.Boot.«isinstance» (da_cons (dv 1) (da_cons (de_ty rfl T.b_str PyProof.Rows.Boot.«str») da_nil))))))) (dss_one (ds_ret (de_and (de_cmp (op_eqD hr.units) snd_eq (dv 0) (dv 1) (nomark _)) (de_one (de_cmp (op_eqD hr.units) snd_eq (de_callB call_isiA snd_isi rfl T.b_isinstance PyProof.Rows.Boot.«isinstance» (da_cons (dv 0) (da_cons (de_ty rfl T.b_str PyProof.Rows.Boot.«str») da_nil))) (de_callB call_isiA snd_isi rfl T.b_isinstance PyProof.Rows.Boot.«isinstance» (da_cons (dv 1) (da_cons (de_ty rfl T.b_str PyProof.Rows.Boot.«str») da_nil))) (nomark _)))))) dss_nop) (dss_one (ds_ret (de_and (de_callB call_isiA snd_isi rfl T.b_isinstance PyProof.Rows.Boot.«isinstance» (da_cons (dv 0) (da_cons (de_ty rfl T.b_int PyProof.Rows.Boot.«int») da_nil))) (de_and (de_cmp (op_eqD hr.units) snd_eq (de_callB call_isiA snd_isi rfl T.b_isinstance PyProof.Rows.Boot.«isinstance» (da_cons (dv 0) (da_cons (de_ty rfl T.b_bool PyProof.Rows.Boot.«bool») da_nil))) (de_callB call_isiA snd_isi rfl T.b_isinstance PyProof.Rows.Boot.«isinstance» (da_cons (dv 1) (da_cons (de_ty rfl T.b_bool PyProof.Rows.Boot.«bool») da_nil))) (nomark _)) (de_one (de_cmp (op_eqD hr.units) snd_eq (dv 0) (dv 1) (nomark _)))))))))
def M_Lsame : Mir := R_Lsame 8
theorem ok_Lsame (T : Tx K mg) : Callee P w K mg base 9 "_law_same" P_Lsame [.val, .val] M_Lsame := okR_Lsame T 8
def g_look_place : DS :=
  (dIfS (dNotT (dTest (dChain gLe gLt (dC (.int 0)) (dVar 1) (dCall gLen (dACons (dVar 0) dANil))))) (fun _ => .stuck) dNop)
def M_look_place : Mir := noExc (runF [.val, .val] 2 g_look_place)
theorem ok_look_place (T : Tx K mg) : Callee P w K mg base 1 "look_place" P_look_place [.val, .val] M_look_place := by
  obtain ⟨fd, F⟩ := T.d_look_place
  refine Callee.mk' (k := 0) F T.g_look_place sc_look_place bd_look_place rfl (by decide) fun cdv A outer s H E hr => ?_
  have nd := sc_look_place.nd
  exact (dss_one (ds_if (dt_not (dt_chain op_le op_lt snd_le snd_lt de_int (dv 1) (de_callB call_len snd_len rfl T.b_len PyProof.Rows.Boot.«len» (da_cons (dv 0) da_nil)))) (dss_one ds_never) dss_nop))
def g_look_both : DS :=
  (dSeq (dDrop (dFn [.val, .val] M_look_place (dAFCons (dVar 0) (dAFCons (dVar 1) dANil)))) (dDrop (dFn [.val, .val] M_look_place (dAFCons (dVar 0) (dAFCons (dVar 2) dANil)))))
def M_look_both : Mir := noExc (runF [.val, .val, .val] 3 g_look_both)
theorem ok_look_both (T : Tx K mg) : Callee P w K mg base 2 "look_both" P_look_both [.val, .val, .val] M_look_both := by
  have C_look_place : Callee P w K mg base 1 "look_place" P_look_place [.val, .val] M_look_place := ok_look_place T
  obtain ⟨fd, F⟩ := T.d_look_both
  refine Callee.mk' (k := 1) F T.g_look_both sc_look_both bd_look_both rfl (by decide) fun cdv A outer s H E hr => ?_
  have nd := sc_look_both.nd
  exact (dss_cons (ds_expr (de_fn C_look_place (hr.mono (by omega)) rfl (da_fcons (dv 0) (da_fcons (dv 1) da_nil)))) (dss_one (ds_expr (de_fn C_look_place (hr.mono (by omega)) rfl (da_fcons (dv 0) (da_fcons (dv 2) da_nil))))))
def g_distance_to_bigger : DS :=
  (dSeq (dAsg 4 (dOp gAdd (dVar 1) (dVar 2))) (dSeq (whL (dTest (dChain gLe gLt (dC (.int 0)) (dVar 4) (dCall gLen (dACons (dVar 0) dANil)))) (dSeq (dIfS (dTest (dOp gGt (dOp gIx (dVar 0) (dVar 4)) (dVar 3))) (dRet (dCall gAbs (dACons (dOp gSub (dVar 4) (dVar 1)) dANil))) dNop) (dAug 4 gAddI (dVar 2))) 100000) (dRet (dC .non))))
def M_distance_to_bigger : Mir := noExc (runF [.val, .val, .val, .val] 5 g_distance_to_bigger)
theorem ok_distance_to_bigger (T : Tx K mg) : Callee P w K mg base 1 "distance_to_bigger" P_distance_to_bigger [.val, .val, .val, .val] M_distance_to_bigger := by
  obtain ⟨fd, F⟩ := T.d_distance_to_bigger
  refine Callee.mk' (k := 0) F T.g_distance_to_bigger sc_distance_to_bigger bd_distance_to_bigger rfl (by decide) fun cdv A outer s H E hr => ?_
  have nd := sc_distance_to_bigger.nd
  exact (dss_cons (ds_asg (i := 4) nd rfl (by first | exact Or.inl rfl | exact Or.inr rfl) (de_op op_addA snd_add (dv 1) (dv 2))) (dss_cons (ds_while 100000 PassesOwn.never (dt_chain op_le op_lt snd_le snd_lt de_int (dv 4) (de_callB call_len snd_len rfl T.b_len PyProof.Rows.Boot.«len» (da_cons (dv 0) da_nil))) (dss_cons (ds_if (dt_cmp op_gt snd_gt (de_ix ix_seq snd_ix (dv 0) (dv 4) (fun _ _ => rfl)) (dv 3) (nomark _)) (dss_one (ds_ret (de_callB call_abs snd_abs rfl T.b_abs PyProof.Rows.Boot.«abs» (da_cons (de_op op_sub snd_sub (dv 4) (dv 1)) da_nil)))) dss_nop) (dss_one (ds_aug (i := 4) nd rfl (by first | exact Or.inl rfl | exact Or.inr rfl) ip_add snd_ipadd (dv 2))))) (dss_one (ds_ret de_non))))
def g_first_of_three : DS :=
  (dSeq (dIfS (dAndT (dTest (dOp (gIsN false) (dVar 1) (dC .non))) (dTest (dOp (gIsN false) (dVar 2) (dC .non)))) (dRet (dTup (dFCons (dC (.int 1)) (dFCons (dC (.int 1)) dFNil)))) dNop) (dSeq (dIfS (dOrT (dTest (dOp (gIsN false) (dVar 1) (dC .non))) (dTest (dOp (gIsN false) (dVar 2) (dC .non)))) (dSeq (dAsg 3 (dIf (dTest (dOp (gIsN false) (dVar 1) (dC .non))) (dVar 2) (dVar 1))) (dRet (dTup (dFCons (dVar 3) (dFCons (dOp gAdd (dVar 0) (dVar 3)) dFNil))))) dNop) (dSeq (dTupAsg [4, 5, 6] (dACons (dOp gAdd (dVar 0) (dVar 1)) (dACons (dOp gAdd (dVar 0) (dVar 2)) (dACons (dOp gAdd (dOp gAdd (dVar 0) (dVar 1)) (dVar 2)) dANil)))) (dRet (dTup (dFCons (dOp gSub (dOp gMul (dOp gMul (dVar 4) (dVar 5)) (dVar 6)) (dOp gMul (dVar 0) (dOp gSub (dOp gAdd (dOp gMul (dVar 5) (dVar 6)) (dOp gMul (dVar 4) (dVar 6))) (dOp gMul (dVar 4) (dVar 5))))) (dFCons (dOp gMul (dOp gMul (dVar 4) (dVar 5)) (dVar 6)) dFNil)))))))
def M_first_of_three : Mir := noExc (runF [.val, .val, .val] 7 g_first_of_three)
theorem ok_first_of_three (T : Tx K mg) : Callee P w K mg base 1 "first_of_three" P_first_of_three [.val, .val, .val] M_first_of_three := by
  obtain ⟨fd, F⟩ := T.d_first_of_three
  refine Callee.mk' (k := 0) F T.g_first_of_three sc_first_of_three bd_first_of_three rfl (by decide) fun cdv A outer s H E hr => ?_
  have nd := sc_first_of_three.nd
  exact (dss_cons (ds_if (DWx.pt (dw_and (dt_cmp op_isN snd_isN (dv 1) de_non (nomark _)) (dw_and1 (dt_cmp op_isN snd_isN (dv 2) de_non (nomark _))))) (dss_one (ds_ret (de_tup (df_cons de_int (df_cons de_int df_nil))))) dss_nop) (dss_cons (ds_if (DWx.pt (dw_or (dt_cmp op_isN snd_isN (dv 1) de_non (nomark _)) (dw_or1 (dt_cmp op_isN snd_isN (dv 2) de_non (nomark _))))) (dss_cons (ds_asg (i := 3) nd rfl (by first | exact Or.inl rfl | exact Or.inr rfl) (de_if (dt_cmp op_isN snd_isN (dv 1) de_non (nomark _)) (dv 2) (dv 1))) (dss_one (ds_ret (de_tup (df_cons (dv 3) (df_cons (de_op op_addA snd_add (dv 0) (dv 3)) df_nil)))))) dss_nop) (dss_cons (by first | exact ds_par3 (i := 4) (j := 5) (l := 6) rfl nd rfl rfl rfl (by decide) (by decide) (by decide) rfl rfl rfl (da_cons (de_op op_addA snd_add (dv 0) (dv 1)) (da_cons (de_op op_addA snd_add (dv 0) (dv 2)) (da_cons (de_op op_addA snd_add (de_op op_addA snd_add (dv 0) (dv 1)) (dv 2)) da_nil))) rfl | exact ds_tupAsg (is := [4, 5, 6]) (pg_tup rfl (pgs_cons (pg_name (i := 4) nd rfl (by first | exact Or.inl rfl | exact Or.inr rfl)) (pgs_cons (pg_name (i := 5) nd rfl (by first | exact Or.inl rfl | exact Or.inr rfl)) (pgs_cons (pg_name (i := 6) nd rfl (by first | exact Or.inl rfl | exact Or.inr rfl)) pgs_nil)))) (by decide) (da_cons (de_op op_addA snd_add (dv 0) (dv 1)) (da_cons (de_op op_addA snd_add (dv 0) (dv 2)) (da_cons (de_op op_addA snd_add (de_op op_addA snd_add (dv 0) (dv 1)) (dv 2)) da_nil)))) (dss_one (ds_ret (de_tup (df_cons (de_op op_sub snd_sub (de_op op_mulAA snd_mul (de_op op_mulAA snd_mul (dv 4) (dv 5)) (dv 6)) (de_op op_mulAA snd_mul (dv 0) (de_op op_sub snd_sub (de_op op_addA snd_add (de_op op_mulAA snd_mul (dv 5) (dv 6)) (de_op op_mulAA snd_mul (dv 4) (dv 6))) (de_op op_mulAA snd_mul (dv 4) (dv 5))))) (df_cons (de_op op_mulAA snd_mul (de_op op_mulAA snd_mul (dv 4) (dv 5)) (dv 6)) df_nil))))))))
def g_gcd : DS :=
  (dSeq (whL (dTest (dOp gGt (dVar 1) (dC (.int 0)))) (dTupAsg [0, 1] (dACons (dVar 1) (dACons (dOp gMod (dVar 0) (dVar 1)) dANil))) 100000) (dRet (dVar 0)))
def M_gcd : Mir := noExc (runF [.val, .val] 2 g_gcd)
theorem ok_gcd (T : Tx K mg) : Callee P w K mg base 1 "gcd" P_gcd [.val, .val] M_gcd := by
  obtain ⟨fd, F⟩ := T.d_gcd
  refine Callee.mk' (k := 0) F T.g_gcd sc_gcd bd_gcd rfl (by decide) fun cdv A outer s H E hr => ?_
  have nd := sc_gcd.nd
  exact (dss_cons (ds_while 100000 PassesOwn.never (dt_cmp op_gt snd_gt (dv 1) de_int (nomark _)) (dss_one (by first | exact ds_par2 (i := 0) (j := 1) rfl nd rfl rfl (by decide) rfl rfl (da_cons (dv 1) (da_cons (de_op op_mod snd_mod (dv 0) (dv 1)) da_nil)) rfl | exact ds_tupAsg (is := [0, 1]) (pg_tup rfl (pgs_cons (pg_name (i := 0) nd rfl (by first | exact Or.inl rfl | exact Or.inr rfl)) (pgs_cons (pg_name (i := 1) nd rfl (by first | exact Or.inl rfl | exact Or.inr rfl)) pgs_nil))) (by decide) (da_cons (dv 1) (da_cons (de_op op_mod snd_mod (dv 0) (dv 1)) da_nil))))) (dss_one (ds_ret (dv 0))))
def g_reduced : DS :=
  (dSeq (dAsg 2 (dFn [.val, .val] M_gcd (dAFCons (dVar 0) (dAFCons (dVar 1) dANil)))) (dRet (dTup (dFCons (dOp gFdiv (dVar 0) (dVar 2)) (dFCons (dOp gFdiv (dVar 1) (dVar 2)) dFNil)))))
def M_reduced : Mir := noExc (runF [.val, .val] 3 g_reduced)
theorem ok_reduced (T : Tx K mg) : Callee P w K mg base 2 "reduced" P_reduced [.val, .val] M_reduced := by
  have C_gcd : Callee P w K mg base 1 "gcd" P_gcd [.val, .val] M_gcd := ok_gcd T
  obtain ⟨fd, F⟩ := T.d_reduced
  refine Callee.mk' (k := 1) F T.g_reduced sc_reduced bd_reduced rfl (by decide) fun cdv A outer s H E hr => ?_
  have nd := sc_reduced.nd
  exact (dss_cons (ds_asg (i := 2) nd rfl (by first | exact Or.inl rfl | exact Or.inr rfl) (de_fn C_gcd (hr.mono (by omega)) rfl (da_fcons (dv 0) (da_fcons (dv 1) da_nil)))) (dss_one (ds_ret (de_tup (df_cons (de_op op_fdivW snd_fdiv (dv 0) (dv 2)) (df_cons (de_op op_fdivW snd_fdiv (dv 1) (dv 2)) df_nil))))))
def g_between : DS :=
  (dRet (dLRg2 (dOp gAdd (dCall gMin2 (dACons (dVar 0) (dACons (dVar 1) dANil))) (dC (.int 1))) (dCall gMax2 (dACons (dVar 0) (dACons (dVar 1) dANil)))))
def M_between : Mir := noExc (runF [.val, .val] 2 g_between)
theorem ok_between (T : Tx K mg) : Callee P w K mg base 1 "between" P_between [.val, .val] M_between := by
  obtain ⟨fd, F⟩ := T.d_between
  refine Callee.mk' (k := 0) F T.g_between sc_between bd_between rfl (by decide) fun cdv A outer s H E hr => ?_
  have nd := sc_between.nd
  exact (dss_one (ds_ret (de_lrg2 rfl rfl T.b_list rfl T.b_range (de_op op_addA snd_add (de_callB (call_min2 rfl) snd_min2 rfl T.b_min PyProof.Rows.Boot.«min» (da_cons (dv 0) (da_cons (dv 1) da_nil))) de_int) (de_callB (call_max2 rfl) snd_max2 rfl T.b_max PyProof.Rows.Boot.«max» (da_cons (dv 0) (da_cons (dv 1) da_nil))))))
def g_is_above : DS :=
  (dRet (dCall gAll (dACons (dLC [3] (.one 3) (dISeq (dOp gAdd (dFn [.val, .val] M_between (dAFCons (dVar 1) (dAFCons (dVar 2) dANil))) (dLst (dFCons (dVar 2) dFNil)))) dYes (dOp gLt (dOp gIx (dVar 0) (dVar 3)) (dOp gIx (dVar 0) (dVar 1)))) dANil)))
def M_is_above : Mir := noExc (runF [.val, .val, .val] 4 g_is_above)
theorem ok_is_above (T : Tx K mg) : Callee P w K mg base 2 "is_above" P_is_above [.val, .val, .val] M_is_above := by
  have C_between : Callee P w K mg base 1 "between" P_between [.val, .val] M_between := ok_between T
  obtain ⟨fd, F⟩ := T.d_is_above
  refine Callee.mk' (k := 1) F T.g_is_above sc_is_above bd_is_above rfl (by decide) fun cdv A outer s H E hr => ?_
  have nd := sc_is_above.nd
  exact (dss_one (ds_ret (de_callB (cr_all rfl) snd_all rfl T.b_all PyProof.Rows.Boot.«all» (da_cons (de_lc (own := [("place", 3)]) (t := (.one 3)) rfl nd (di_seq (de_op op_addA snd_add (de_fn C_between (hr.mono (by omega)) rfl (da_fcons (dv 1) (da_fcons (dv 2) da_nil))) (de_lst (df_cons (dv 2) df_nil)))) (blkOk_by (own := [("place", 3)]) (N := N_is_above) (sc := defScope s_is_above) (by decide +kernel)) rfl (fun _ _ _ _ _ => (pg_name (i := 3) nd rfl (by first | exact Or.inl rfl | exact Or.inr rfl))) (fun _ _ _ _ _ => dp_nil) (fun _ _ _ _ _ => (de_cmp op_lt snd_lt (de_ix ix_seq snd_ix (dv 0) (dv 3) (fun _ _ => rfl)) (de_ix ix_seq snd_ix (dv 0) (dv 1) (fun _ _ => rfl)) (nomark _)))) da_nil))))
def g_holder_chance : DS :=
  (dSeq (dDrop (dFn [.val, .val, .val] M_look_both (dAFCons (dVar 0) (dAFCons (dVar 1) (dAFCons (dVar 2) dANil))))) (dSeq (dIfS (dOrT (dTest (dOp gEq (dVar 1) (dVar 2))) (dNotT (dTest (dFn [.val, .val, .val] M_is_above (dAFCons (dVar 0) (dAFCons (dVar 2) (dAFCons (dVar 1) dANil))))))) (dRet (dTup (dFCons (dC (.int 0)) (dFCons (dC (.int 1)) dFNil)))) dNop) (dSeq (dAsg 3 (dIf (dTest (dOp gGt (dVar 2) (dVar 1))) (dC (.int 1)) (dUn gNeg (dC (.int 1))))) (dSeq (dAsg 4 (dFn [.val, .val, .val, .val] M_distance_to_bigger (dAFCons (dVar 0) (dAFCons (dVar 1) (dAFCons (dVar 3) (dAFCons (dOp gIx (dVar 0) (dVar 1)) dANil)))))) (dSeq (dAsg 5 (dCall gAbs (dACons (dOp gSub (dVar 2) (dVar 1)) dANil))) (dSeq (dAsg 6 (dFn [.val, .val, .val, .val] M_distance_to_bigger (dAFCons (dVar 0) (dAFCons (dVar 1) (dAFCons (dUn gNeg (dVar 3)) (dAFCons (dOp gIx (dVar 0) (dVar 1)) dANil)))))) (dSeq (dUnp [7, 8] (dFn [.val, .val, .val] M_first_of_three (dAFCons (dVar 5) (dAFCons (dVar 6) (dAFCons (dFn [.val, .val, .val, .val] M_distance_to_bigger (dAFCons (dVar 0) (dAFCons (dVar 2) (dAFCons (dVar 3) (dAFCons (dOp gIx (dVar 0) (dVar 2)) dANil))))) dANil))))) (dRet (dFn [.val, .val] M_reduced (dAFCons (dOp gMul (dVar 4) (dVar 7)) (dAFCons (dOp gMul (dVar 5) (dVar 8)) dANil)))))))))))
def M_holder_chance : Mir := noExc (runF [.val, .val, .val] 9 g_holder_chance)
theorem ok_holder_chance (T : Tx K mg) : Callee P w K mg base 3 "holder_chance" P_holder_chance [.val, .val, .val] M_holder_chance := by
  have C_look_both : Callee P w K mg base 2 "look_both" P_look_both [.val, .val, .val] M_look_both := ok_look_both T
  have C_is_above : Callee P w K mg base 2 "is_above" P_is_above [.val, .val, .val] M_is_above := ok_is_above T
  have C_distance_to_bigger : Callee P w K mg base 1 "distance_to_bigger" P_distance_to_bigger [.val, .val, .val, .val] M_distance_to_bigger := ok_distance_to_bigger T
  have C_first_of_three : Callee P w K mg base 1 "first_of_three" P_first_of_three [.val, .val, .val] M_first_of_three := ok_first_of_three T
  have C_reduced : Callee P w K mg base 2 "reduced" P_reduced [.val, .val] M_reduced := ok_reduced T
  obtain ⟨fd, F⟩ := T.d_holder_chance
  refine Callee.mk' (k := 2) F T.g_holder_chance sc_holder_chance bd_holder_chance rfl (by decide) fun cdv A outer s H E hr => ?_
  have nd := sc_holder_chance.nd
  exact (dss_cons (ds_expr (de_fn C_look_both (hr.mono (by omega)) rfl (da_fcons (dv 0) (da_fcons (dv 1) (da_fcons (dv 2) da_nil))))) (dss_cons (ds_if (DWx.pt (dw_or (dt_cmp (op_eqD hr.units) snd_eq (dv 1) (dv 2) (nomark _)) (dw_or1 (dt_not (dt_val (de_fn C_is_above (hr.mono (by omega)) rfl (da_fcons (dv 0) (da_fcons (dv 2) (da_fcons (dv 1) da_nil))))))))) (dss_one (ds_ret (de_tup (df_cons de_int (df_cons de_int df_nil))))) dss_nop) (dss_cons (ds_asg (i := 3) nd rfl (by first | exact Or.inl rfl | exact Or.inr rfl) (de_if (dt_cmp op_gt snd_gt (dv 2) (dv 1) (nomark _)) de_int (de_neg de_int))) (dss_cons (ds_asg (i := 4) nd rfl (by first | exact Or.inl rfl | exact Or.inr rfl) (de_fn C_distance_to_bigger (hr.mono (by omega)) rfl (da_fcons (dv 0) (da_fcons (dv 1) (da_fcons (dv 3) (da_fcons (de_ix ix_seq snd_ix (dv 0) (dv 1) (fun _ _ => rfl)) da_nil)))))) (dss_cons (ds_asg (i := 5) nd rfl (by first | exact Or.inl rfl | exact Or.inr rfl) (de_callB call_abs snd_abs rfl T.b_abs PyProof.Rows.Boot.«abs» (da_cons (de_op op_sub snd_sub (dv 2) (dv 1)) da_nil))) (dss_cons (ds_asg (i := 6) nd rfl (by first | exact Or.inl rfl | exact Or.inr rfl) (de_fn C_distance_to_bigger (hr.mono (by omega)) rfl (da_fcons (dv 0) (da_fcons (dv 1) (da_fcons (de_neg (dv 3)) (da_fcons (de_ix ix_seq snd_ix (dv 0) (dv 1) (fun _ _ => rfl)) da_nil)))))) (dss_cons (ds_unp (is := [7, 8]) (pg_tup rfl (pgs_cons (pg_name (i := 7) nd rfl (by first | exact Or.inl rfl | exact Or.inr rfl)) (pgs_cons (pg_name (i := 8) nd rfl (by first | exact Or.inl rfl | exact Or.inr rfl)) pgs_nil))) (de_fn C_first_of_three (hr.mono (by omega)) rfl (da_fcons (dv 5) (da_fcons (dv 6) (da_fcons (de_fn C_distance_to_bigger (hr.mono (by omega)) rfl (da_fcons (dv 0) (da_fcons (dv 2) (da_fcons (dv 3) (da_fcons (de_ix ix_seq snd_ix (dv 0) (dv 2) (fun _ _ => rfl)) da_nil))))) da_nil))))) (dss_one (ds_ret (de_fn C_reduced (hr.mono (by omega)) rfl (da_fcons (de_op op_mulAA snd_mul (dv 4) (dv 7)) (da_fcons (de_op op_mulAA snd_mul (dv 5) (dv 8)) da_nil))))))))))))
def g_around_chance : DS :=
  (dSeq (dDrop (dFn [.val, .val, .val] M_look_both (dAFCons (dVar 0) (dAFCons (dVar 1) (dAFCons (dVar 2) dANil))))) (dSeq (dIfS (dOrT (dTest (dOp gEq (dVar 1) (dVar 2))) (dNotT (dTest (dFn [.val, .val, .val] M_is_above (dAFCons (dVar 0) (dAFCons (dVar 2) (dAFCons (dVar 1) dANil))))))) (dRet (dTup (dFCons (dC (.int 0)) (dFCons (dC (.int 1)) dFNil)))) dNop) (dSeq (dAsg 3 (dIf (dTest (dOp gGt (dVar 2) (dVar 1))) (dC (.int 1)) (dUn gNeg (dC (.int 1))))) (dSeq (dAsg 4 (dFn [.val, .val, .val, .val] M_distance_to_bigger (dAFCons (dVar 0) (dAFCons (dVar 1) (dAFCons (dUn gNeg (dVar 3)) (dAFCons (dOp gIx (dVar 0) (dVar 2)) dANil)))))) (dSeq (dUnp [5, 6] (dFn [.val, .val, .val] M_first_of_three (dAFCons (dCall gAbs (dACons (dOp gSub (dVar 2) (dVar 1)) dANil)) (dAFCons (dVar 4) (dAFCons (dFn [.val, .val, .val, .val] M_distance_to_bigger (dAFCons (dVar 0) (dAFCons (dVar 2) (dAFCons (dVar 3) (dAFCons (dOp gIx (dVar 0) (dVar 2)) dANil))))) dANil))))) (dRet (dFn [.val, .val] M_reduced (dAFCons (dVar 5) (dAFCons (dVar 6) dANil)))))))))
def M_around_chance : Mir := noExc (runF [.val, .val, .val] 7 g_around_chance)
theorem ok_around_chance (T : Tx K mg) : Callee P w K mg base 3 "around_chance" P_around_chance [.val, .val, .val] M_around_chance := by
  have C_look_both : Callee P w K mg base 2 "look_both" P_look_both [.val, .val, .val] M_look_both := ok_look_both T
  have C_is_above : Callee P w K mg base 2 "is_above" P_is_above [.val, .val, .val] M_is_above := ok_is_above T
  have C_distance_to_bigger : Callee P w K mg base 1 "distance_to_bigger" P_distance_to_bigger [.val, .val, .val, .val] M_distance_to_bigger := ok_distance_to_bigger T
  have C_first_of_three : Callee P w K mg base 1 "first_of_three" P_first_of_three [.val, .val, .val] M_first_of_three := ok_first_of_three T
  have C_reduced : Callee P w K mg base 2 "reduced" P_reduced [.val, .val] M_reduced := ok_reduced T
  obtain ⟨fd, F⟩ := T.d_around_chance
  refine Callee.mk' (k := 2) F T.g_around_chance sc_around_chance bd_around_chance rfl (by decide) fun cdv A outer s H E hr => ?_
  have nd := sc_around_chance.nd
  exact (dss_cons (ds_expr (de_fn C_look_both (hr.mono (by omega)) rfl (da_fcons (dv 0) (da_fcons (dv 1) (da_fcons (dv 2) da_nil))))) (dss_cons (ds_if (DWx.pt (dw_or (dt_cmp (op_eqD hr.units) snd_eq (dv 1) (dv 2) (nomark _)) (dw_or1 (dt_not (dt_val (de_fn C_is_above (hr.mono (by omega)) rfl (da_fcons (dv 0) (da_fcons (dv 2) (da_fcons (dv 1) da_nil))))))))) (dss_one (ds_ret (de_tup (df_cons de_int (df_cons de_int df_nil))))) dss_nop) (dss_cons (ds_asg (i := 3) nd rfl (by first | exact Or.inl rfl | exact Or.inr rfl) (de_if (dt_cmp op_gt snd_gt (dv 2) (dv 1) (nomark _)) de_int (de_neg de_int))) (dss_cons (ds_asg (i := 4) nd rfl (by first | exact Or.inl rfl | exact Or.inr rfl) (de_fn C_distance_to_bigger (hr.mono (by omega)) rfl (da_fcons (dv 0) (da_fcons (dv 1) (da_fcons (de_neg (dv 3)) (da_fcons (de_ix ix_seq snd_ix (dv 0) (dv 2) (fun _ _ => rfl)) da_nil)))))) (dss_cons (ds_unp (is := [5, 6]) (pg_tup rfl (pgs_cons (pg_name (i := 5) nd rfl (by first | exact Or.inl rfl | exact Or.inr rfl)) (pgs_cons (pg_name (i := 6) nd rfl (by first | exact Or.inl rfl | exact Or.inr rfl)) pgs_nil))) (de_fn C_first_of_three (hr.mono (by omega)) rfl (da_fcons (de_callB call_abs snd_abs rfl T.b_abs PyProof.Rows.Boot.«abs» (da_cons (de_op op_sub snd_sub (dv 2) (dv 1)) da_nil)) (da_fcons (dv 4) (da_fcons (de_fn C_distance_to_bigger (hr.mono (by omega)) rfl (da_fcons (dv 0) (da_fcons (dv 2) (da_fcons (dv 3) (da_fcons (de_ix ix_seq snd_ix (dv 0) (dv 2) (fun _ _ => rfl)) da_nil))))) da_nil))))) (dss_one (ds_ret (de_fn C_reduced (hr.mono (by omega)) rfl (da_fcons (dv 5) (da_fcons (dv 6) da_nil))))))))))
def g_added : DS :=
  (dSeq (dAsg 1 (dTup (dFCons (dC (.int 0)) (dFCons (dC (.int 1)) dFNil)))) (dSeq (dFor (.many [2, 3]) (dISeq (dVar 0)) (dAsg 1 (dFn [.val, .val] M_reduced (dAFCons (dOp gAdd (dOp gMul (dOp gIx (dVar 1) (dC (.int 0))) (dVar 3)) (dOp gMul (dVar 2) (dOp gIx (dVar 1) (dC (.int 1))))) (dAFCons (dOp gMul (dOp gIx (dVar 1) (dC (.int 1))) (dVar 3)) dANil))))) (dRet (dVar 1))))
def M_added : Mir := noExc (runF [.val] 4 g_added)
theorem ok_added (T : Tx K mg) : Callee P w K mg base 3 "added" P_added [.val] M_added := by
  have C_reduced : Callee P w K mg base 2 "reduced" P_reduced [.val, .val] M_reduced := ok_reduced T
  obtain ⟨fd, F⟩ := T.d_added
  refine Callee.mk' (k := 2) F T.g_added sc_added bd_added rfl (by decide) fun cdv A outer s H E hr => ?_
  have nd := sc_added.nd
  exact (dss_cons (ds_asg (i := 1) nd rfl (by first | exact Or.inl rfl | exact Or.inr rfl) (de_tup (df_cons de_int (df_cons de_int df_nil)))) (dss_cons (ds_for (t := (.many [2, 3])) PassesOwn.never rfl (di_seq (dv 0)) (pg_tup rfl (pgs_cons (pg_name (i := 2) nd rfl (by first | exact Or.inl rfl | exact Or.inr rfl)) (pgs_cons (pg_name (i := 3) nd rfl (by first | exact Or.inl rfl | exact Or.inr rfl)) pgs_nil))) (dss_one (ds_asg (i := 1) nd rfl (by first | exact Or.inl rfl | exact Or.inr rfl) (de_fn C_reduced (hr.mono (by omega)) rfl (da_fcons (de_op op_addA snd_add (de_op op_mulAA snd_mul (de_ix ix_seq snd_ix (dv 1) de_int (fun _ _ => rfl)) (dv 3)) (de_op op_mulAA snd_mul (dv 2) (de_ix ix_seq snd_ix (dv 1) de_int (fun _ _ => rfl)))) (da_fcons (de_op op_mulAA snd_mul (de_ix ix_seq snd_ix (dv 1) de_int (fun _ _ => rfl)) (dv 3)) da_nil)))))) (dss_one (ds_ret (dv 1)))))
def g_mean_depth : DS :=
  (dSeq (dDrop (dFn [.val, .val] M_look_place (dAFCons (dVar 0) (dAFCons (dVar 1) dANil)))) (dRet (dFn [.val] M_added (dAFCons (dLC [2] (.one 2) (dIRg onRg1 (dACons (dCall gLen (dACons (dVar 0) dANil)) dANil)) dYes (dFn [.val, .val, .val] M_around_chance (dAFCons (dVar 0) (dAFCons (dVar 1) (dAFCons (dVar 2) dANil))))) dANil))))
def M_mean_depth : Mir := noExc (runF [.val, .val] 3 g_mean_depth)
theorem ok_mean_depth (T : Tx K mg) : Callee P w K mg base 4 "mean_depth" P_mean_depth [.val, .val] M_mean_depth := by
  have C_look_place : Callee P w K mg base 1 "look_place" P_look_place [.val, .val] M_look_place := ok_look_place T
  have C_around_chance : Callee P w K mg base 3 "around_chance" P_around_chance [.val, .val, .val] M_around_chance := ok_around_chance T
  have C_added : Callee P w K mg base 3 "added" P_added [.val] M_added := ok_added T
  obtain ⟨fd, F⟩ := T.d_mean_depth
  refine Callee.mk' (k := 3) F T.g_mean_depth sc_mean_depth bd_mean_depth rfl (by decide) fun cdv A outer s H E hr => ?_
  have nd := sc_mean_depth.nd
  exact (dss_cons (ds_expr (de_fn C_look_place (hr.mono (by omega)) rfl (da_fcons (dv 0) (da_fcons (dv 1) da_nil)))) (dss_one (ds_ret (de_fn C_added (hr.mono (by omega)) rfl (da_fcons (de_lc (own := [("other", 2)]) (t := (.one 2)) rfl nd (di_range1 rfl T.b_range (da_cons (de_callB call_len snd_len rfl T.b_len PyProof.Rows.Boot.«len» (da_cons (dv 0) da_nil)) da_nil)) (blkOk_by (own := [("other", 2)]) (N := N_mean_depth) (sc := defScope s_mean_depth) (by decide +kernel)) rfl (fun _ _ _ _ _ => (pg_name (i := 2) nd rfl (by first | exact Or.inl rfl | exact Or.inr rfl))) (fun _ _ _ _ _ => dp_nil) (fun _ _ _ _ _ => (de_fn C_around_chance (hr.mono (by omega)) rfl (da_fcons (dv 0) (da_fcons (dv 1) (da_fcons (dv 2) da_nil)))))) da_nil)))))
def g_mean_inside : DS :=
  (dSeq (dDrop (dFn [.val, .val] M_look_place (dAFCons (dVar 0) (dAFCons (dVar 1) dANil)))) (dRet (dFn [.val] M_added (dAFCons (dLC [2] (.one 2) (dIRg onRg1 (dACons (dCall gLen (dACons (dVar 0) dANil)) dANil)) dYes (dFn [.val, .val, .val] M_around_chance (dAFCons (dVar 0) (dAFCons (dVar 2) (dAFCons (dVar 1) dANil))))) dANil))))
def M_mean_inside : Mir := noExc (runF [.val, .val] 3 g_mean_inside)
theorem ok_mean_inside (T : Tx K mg) : Callee P w K mg base 4 "mean_inside" P_mean_inside [.val, .val] M_mean_inside := by
  have C_look_place : Callee P w K mg base 1 "look_place" P_look_place [.val, .val] M_look_place := ok_look_place T
  have C_around_chance : Callee P w K mg base 3 "around_chance" P_around_chance [.val, .val, .val] M_around_chance := ok_around_chance T
  have C_added : Callee P w K mg base 3 "added" P_added [.val] M_added := ok_added T
  obtain ⟨fd, F⟩ := T.d_mean_inside
  refine Callee.mk' (k := 3) F T.g_mean_inside sc_mean_inside bd_mean_inside rfl (by decide) fun cdv A outer s H E hr => ?_
  have nd := sc_mean_inside.nd
  exact (dss_cons (ds_expr (de_fn C_look_place (hr.mono (by omega)) rfl (da_fcons (dv 0) (da_fcons (dv 1) da_nil)))) (dss_one (ds_ret (de_fn C_added (hr.mono (by omega)) rfl (da_fcons (de_lc (own := [("other", 2)]) (t := (.one 2)) rfl nd (di_range1 rfl T.b_range (da_cons (de_callB call_len snd_len rfl T.b_len PyProof.Rows.Boot.«len» (da_cons (dv 0) da_nil)) da_nil)) (blkOk_by (own := [("other", 2)]) (N := N_mean_inside) (sc := defScope s_mean_inside) (by decide +kernel)) rfl (fun _ _ _ _ _ => (pg_name (i := 2) nd rfl (by first | exact Or.inl rfl | exact Or.inr rfl))) (fun _ _ _ _ _ => dp_nil) (fun _ _ _ _ _ => (de_fn C_around_chance (hr.mono (by omega)) rfl (da_fcons (dv 0) (da_fcons (dv 2) (da_fcons (dv 1) da_nil)))))) da_nil)))))
def g_Lright : DS :=
  (dSeq (dAsg 1 (dFn [.io, .val] M_Lsizes (dACons (dVar 0) (dAFCons (dC (.int 12)) dANil)))) (dSeq (dAsg 2 (dCall gLen (dACons (dVar 1) dANil))) (dSeq (dAsg 3 (dLC [4] (.one 4) (dIRg onRg1 (dACons (dVar 2) dANil)) dYes (dLC [5] (.one 5) (dIRg onRg1 (dACons (dVar 2) dANil)) dYes (dFn [.val, .val, .val] M_Lpair (dAFCons (dVar 1) (dAFCons (dVar 4) (dAFCons (dVar 5) dANil))))))) (dSeq (dFor (.one 4) (dIRg onRg1 (dACons (dVar 2) dANil)) (dSeq (dFor (.one 5) (dIRg onRg1 (dACons (dVar 2) dANil)) (dSeq (dAsg 6 (dLst (dFCons (dFn [.val, .val, .val] M_holder_chance (dAFCons (dVar 1) (dAFCons (dVar 4) (dAFCons (dVar 5) dANil)))) (dFCons (dFn [.val, .val, .val] M_around_chance (dAFCons (dVar 1) (dAFCons (dVar 4) (dAFCons (dVar 5) dANil)))) dFNil)))) (dIfS (dNotT (dTest (dFn [.val, .val] M_Lsame (dAFCons (dVar 6) (dAFCons (dOp gIx (dOp gIx (dVar 3) (dVar 4)) (dVar 5)) dANil))))) (dRet (dC (.bl false))) dNop))) (dSeq (dIfS (dNotT (dTest (dFn [.val, .val] M_Lsame (dAFCons (dFn [.val, .val] M_mean_depth (dAFCons (dVar 1) (dAFCons (dVar 4) dANil))) (dAFCons (dFn [.val] M_Lsum_of (dAFCons (dLC [7] (.one 7) (dISeq (dOp gIx (dVar 3) (dVar 4))) dYes (dOp gIx (dVar 7) (dC (.int 1)))) dANil)) dANil))))) (dRet (dC (.bl false))) dNop) (dIfS (dNotT (dTest (dFn [.val, .val] M_Lsame (dAFCons (dFn [.val, .val] M_mean_inside (dAFCons (dVar 1) (dAFCons (dVar 4) dANil))) (dAFCons (dFn [.val] M_Lsum_of (dAFCons (dLC [8] (.one 8) (dISeq (dVar 3)) dYes (dOp gIx (dOp gIx (dVar 8) (dVar 4)) (dC (.int 1)))) dANil)) dANil))))) (dRet (dC (.bl false))) dNop)))) (dRet (dC (.bl true)))))))
def M_Lright : Mir := noExc (runF [.io] 9 g_Lright)
theorem ok_Lright (T : Tx K mg) : Callee P w K mg base 10 "_law_right" P_Lright [.io] M_Lright := by
  have C_Lsizes : Callee P w K mg base 7 "_law_sizes" P_Lsizes [.io, .val] M_Lsizes := ok_Lsizes T
  have C_Lpair : Callee P w K mg base 4 "_law_pair" P_Lpair [.val, .val, .val] M_Lpair := ok_Lpair T
  have C_around_chance : Callee P w K mg base 3 "around_chance" P_around_chance [.val, .val, .val] M_around_chance := ok_around_chance T
  have C_holder_chance : Callee P w K mg base 3 "holder_chance" P_holder_chance [.val, .val, .val] M_holder_chance := ok_holder_chance T
  have C_Lsame : Callee P w K mg base 9 "_law_same" P_Lsame [.val, .val] M_Lsame := ok_Lsame T
  have C_Lsum_of : Callee P w K mg base 2 "_law_sum_of" P_Lsum_of [.val] M_Lsum_of := ok_Lsum_of T
  have C_mean_depth : Callee P w K mg base 4 "mean_depth" P_mean_depth [.val, .val] M_mean_depth := ok_mean_depth T
  have C_mean_inside : Callee P w K mg base 4 "mean_inside" P_mean_inside [.val, .val] M_mean_inside := ok_mean_inside T
  obtain ⟨fd, F⟩ := T.d_Lright
  refine Callee.mk' (k := 9) F T.g_Lright sc_Lright bd_Lright rfl (by decide) fun cdv A outer s H E hr => ?_
  have nd := sc_Lright.nd
  exact (dss_cons (ds_asg (i := 1) nd rfl (by first | exact Or.inl rfl | exact Or.inr rfl) (de_fn C_Lsizes (hr.mono (by omega)) rfl (da_cons (dv 0) (da_fcons de_int da_nil)))) (dss_cons (ds_asg (i := 2) nd rfl (by first | exact Or.inl rfl | exact Or.inr rfl) (de_callB call_len snd_len rfl T.b_len PyProof.Rows.Boot.«len» (da_cons (dv 1) da_nil))) (dss_cons (ds_asgLc (own := [("_law_at", 4)]) (t := (.one 4)) (i := 3) rfl nd rfl rfl (sw_true rfl rfl rfl (by decide +kernel)) (di_range1 rfl T.b_range (da_cons (dv 2) da_nil)) (blkOk_by (own := [("_law_at", 4)]) (N := N_Lright) (sc := defScope s_Lright) (by decide +kernel)) rfl (fun _ _ _ _ _ => (pg_name (i := 4) nd rfl (by first | exact Or.inl rfl | exact Or.inr rfl))) (fun _ _ _ _ _ => dp_nil) (fun _ _ _ _ _ => (de_lc (own := [("_law_upper", 5)]) (t := (.one 5)) rfl nd (di_range1 rfl T.b_range (da_cons (dv 2) da_nil)) (blkOk_by (own := [("_law_upper", 5)]) (by rfl)) rfl (fun _ _ _ _ _ => (pg_name (i := 5) nd rfl (by first | exact Or.inl rfl | exact Or.inr rfl))) (fun _ _ _ _ _ => dp_nil) (fun _ _ _ _ _ => (de_fn C_Lpair (hr.mono (by omega)) rfl (da_fcons (dv 1) (da_fcons (dv 4) (da_fcons (dv 5) da_nil)))))))) (dss_cons (ds_for (t := (.one 4)) PassesOwn.never rfl (di_range1 rfl T.b_range (da_cons (dv 2) da_nil)) (pg_name (i := 4) nd rfl (by first | exact Or.inl rfl | exact Or.inr rfl)) (dss_cons (ds_for (t := (.one 5)) PassesOwn.never rfl (di_range1 rfl T.b_range (da_cons (dv 2) da_nil)) (pg_name (i := 5) nd rfl (by first | exact Or.inl rfl | exact Or.inr rfl)) (dss_cons (ds_asg (i := 6) nd rfl (by first | exact Or.inl rfl | exact Or.inr rfl) (de_lst (df_cons (de_fn C_holder_chance (hr.mono (by omega)) rfl (da_fcons (dv 1) (da_fcons (dv 4) (da_fcons (dv 5) da_nil)))) (df_cons (de_fn C_around_chance (hr.mono (by omega)) rfl (da_fcons (dv 1) (da_fcons (dv 4) (da_fcons (dv 5) da_nil)))) df_nil)))) (dss_one (ds_if (dt_not (dt_val (de_fn C_Lsame (hr.mono (by omega)) rfl (da_fcons (dv 6) (da_fcons (de_ix ix_seq snd_ix (de_ix ix_seq snd_ix (dv 3) (dv 4) (fun _ _ => rfl)) (dv 5) (fun _ _ => rfl)) da_nil))))) (dss_one (ds_ret de_bl)) dss_nop)))) (dss_cons (ds_if (dt_not (dt_val (de_fn C_Lsame (hr.mono (by omega)) rfl (da_fcons (de_fn C_mean_depth (hr.mono (by omega)) rfl (da_fcons (dv 1) (da_fcons (dv 4) da_nil))) (da_fcons (de_fn C_Lsum_of (hr.mono (by omega)) rfl (da_fcons (de_lc (own := [("_law_part_here", 7)]) (t := (.one 7)) rfl nd (di_seq (de_ix ix_seq snd_ix (dv 3) (dv 4) (fun _ _ => rfl))) (blkOk_by (own := [("_law_part_here", 7)]) (N := N_Lright) (sc := defScope s_Lright) (by decide +kernel)) rfl (fun _ _ _ _ _ => (pg_name (i := 7) nd rfl (by first | exact Or.inl rfl | exact Or.inr rfl))) (fun _ _ _ _ _ => dp_nil) (fun _ _ _ _ _ => (de_ix ix_seq snd_ix (dv 7) de_int (fun _ _ => rfl)))) da_nil)) da_nil))))) (dss_one (ds_ret de_bl)) dss_nop) (dss_one (ds_if (dt_not (dt_val (de_fn C_Lsame (hr.mono (by omega)) rfl (da_fcons (de_fn C_mean_inside (hr.mono (by omega)) rfl (da_fcons (dv 1) (da_fcons (dv 4) da_nil))) (da_fcons (de_fn C_Lsum_of (hr.mono (by omega)) rfl (da_fcons (de_lc (own := [("_law_some", 8)]) (t := (.one 8)) rfl nd (di_seq (dv 3)) (blkOk_by (own := [("_law_some", 8)]) (N := N_Lright) (sc := defScope s_Lright) (by decide +kernel)) rfl (fun _ _ _ _ _ => (pg_name (i := 8) nd rfl (by first | exact Or.inl rfl | exact Or.inr rfl))) (fun _ _ _ _ _ => dp_nil) (fun _ _ _ _ _ => (de_ix ix_seq snd_ix (de_ix ix_seq snd_ix (dv 8) (dv 4) (fun _ _ => rfl)) de_int (fun _ _ => rfl)))) da_nil)) da_nil))))) (dss_one (ds_ret de_bl)) dss_nop))))) (dss_one (ds_ret de_bl))))))
def g_law : DS :=
  (dSeq (dFor (.one 1) (dIRg onRg1 (dACons (dOp gAdd (dC (.int 1)) (dCall gMin2 (dACons (dC (.int 2)) (dACons (dCall gLen (dACons (dVar 0) dANil)) dANil)))) dANil)) (dSeq (dAsg 2 (dFn [.val, .val] M_Lbox (dAFCons (dVar 0) (dAFCons (dVar 1) dANil)))) (dIfS (dNotT (dTest (dCall gAll (dACons (dLC [3] (.one 3) (dIRg onRg1 (dACons (dC (.int 1)) dANil)) dYes (dFn [.io] M_Lright (dACons (dVar 2) dANil))) dANil)))) (dRet (dC (.bl false))) dNop))) (dRet (dC (.bl true))))
def M_law : Mir := noExc (runF [.val] 4 g_law)
theorem ok_law (T : Tx K mg) : Callee P w K mg base 11 "law" P_law [.val] M_law := by
  have C_Lbox : Callee P w K mg base 1 "_law_box" P_Lbox [.val, .val] M_Lbox := ok_Lbox T
  have C_Lright : Callee P w K mg base 10 "_law_right" P_Lright [.io] M_Lright := ok_Lright T
  obtain ⟨fd, F⟩ := T.d_law
  refine Callee.mk' (k := 10) F T.g_law sc_law bd_law rfl (by decide) fun cdv A outer s H E hr => ?_
  have nd := sc_law.nd
  exact (dss_cons (ds_for (t := (.one 1)) PassesOwn.never rfl (di_range1 rfl T.b_range (da_cons (de_op op_addA snd_add de_int (de_callB (call_min2 rfl) snd_min2 rfl T.b_min PyProof.Rows.Boot.«min» (da_cons de_int (da_cons (de_callB call_len snd_len rfl T.b_len PyProof.Rows.Boot.«len» (da_cons (dv 0) da_nil)) da_nil)))) da_nil)) (pg_name (i := 1) nd rfl (by first | exact Or.inl rfl | exact Or.inr rfl)) (dss_cons (ds_asg (i := 2) nd rfl (by first | exact Or.inl rfl | exact Or.inr rfl) (de_fn C_Lbox (hr.mono (by omega)) rfl (da_fcons (dv 0) (da_fcons (dv 1) da_nil)))) (dss_one (ds_if (dt_not (dt_val (de_callB (cr_all rfl) snd_all rfl T.b_all PyProof.Rows.Boot.«all» (da_cons (de_lc (own := [("_law_turn", 3)]) (t := (.one 3)) rfl nd (di_range1 rfl T.b_range (da_cons de_int da_nil)) (blkOk_by (own := [("_law_turn", 3)]) (N := N_law) (sc := defScope s_law) (by decide +kernel)) rfl (fun _ _ _ _ _ => (pg_name (i := 3) nd rfl (by first | exact Or.inl rfl | exact Or.inr rfl))) (fun _ _ _ _ _ => dp_nil) (fun _ _ _ _ _ => (de_fn C_Lright (hr.mono (by omega)) rfl (da_cons (dv 2) da_nil)))) da_nil)))) (dss_one (ds_ret de_bl)) dss_nop)))) (dss_one (ds_ret de_bl)))
end K79
end
section
set_option Elab.async false
set_option linter.all false
set_option maxRecDepth 100000
set_option maxHeartbeats 4000000
namespace K79
open PySem PySem.Spec PyProof.Rows L2 DV
local macro_rules | `(tactic| walk_at "ds") => `(tactic| simp only [
  DV.n_s_op, DV.n_s_test, DV.n_s_notT, DV.n_s_andT, DV.n_s_orT, DV.n_s_andV, DV.n_s_orV, DV.n_s_notV, DV.n_s_if, DV.n_s_onC, DV.n_s_chLeLt, DV.n_s_chLeLe, DV.n_s_chLtLe, DV.n_s_un, DV.n_s_ACons, DV.n_s_FCons, DV.n_s_AFCons, DV.n_s_lst, DV.n_s_tup, DV.n_s_call, DV.n_s_seq, DV.n_s_drop, DV.n_s_ret, DV.n_s_ifS, DV.n_s_asg, DV.n_s_augS, DV.n_s_tupAsg, DV.n_s_for, DV.n_whL_succ, DV.n_s_iseq, DV.n_s_irg, DV.n_s_izip, DV.n_s_lc, DV.n_lcL_cons, DV.n_s_fn, DV.n_s_mut, DV.n_s_store, DV.n_s_oSome, DV.n_s_sl, DV.n_s_sl3, DV.n_s_lrg1, DV.n_s_lrg2, DV.S0.loop_nx, DV.S0.loop_ct, DV.S0.loop_brk, DV.S0.loop_ret, DV.S0.loop_exc, DV.S0.loop_stuck, DV.S0.s_onG, DV.S0.s_onG0, DV.S0.s_onB, DV.S0.s_onI, DV.S0.s_onN, DV.S0.s_pkv, DV.S0.s_pkt, DV.S0.s_pks, DV.S0.s_pkS1, DV.S0.s_pkS2, DV.S0.s_pkS3, DV.S0.s_var, DV.S0.s_vr1, DV.S0.s_vr2, DV.S0.s_vr3, DV.S0.s_C, DV.S0.s_on, DV.S0.s_onV, DV.S0.s_onU, DV.S0.s_neg, DV.S0.s_II, DV.S0.s_IC, DV.S0.s_addI, DV.S0.s_addL, DV.S0.s_addT, DV.S0.s_addS, DV.S0.s_mulI, DV.S0.s_mulL, DV.S0.s_ixL, DV.S0.s_ixT, DV.S0.s_ixC, DV.S0.s_ANil, DV.S0.s_FNil, DV.S0.s_onF, DV.S0.s_fzv, DV.S0.s_fzt, DV.S0.s_fzs, DV.S0.s_fzS1, DV.S0.s_fzS2, DV.S0.s_peeks0, DV.S0.s_cons2, DV.S0.s_peeks, DV.S0.s_onLs, DV.S0.s_onL, DV.S0.s_lenL, DV.S0.s_lenT, DV.S0.s_lenC, DV.S0.s_listL, DV.S0.s_listT, DV.S0.s_tupleL, DV.S0.s_tupleT, DV.S0.s_intI, DV.S0.s_intB, DV.S0.s_abs, DV.S0.s_max2, DV.S0.s_min2, DV.S0.s_all, DV.S0.s_any, DV.S0.s_sum, DV.S0.s_asgv, DV.S0.s_asgt, DV.S0.s_asgs, DV.S0.s_asgS1, DV.S0.s_asgS2, DV.S0.s_asgS3, DV.S0.s_aug, DV.S0.s_onT, DV.S0.s_fzS0, DV.S0.s_fzSv, DV.S0.s_fzSt, DV.S0.s_fzSs, DV.S0.s_fzSk, DV.S0.s_many0, DV.S0.s_manyv, DV.S0.s_manyt, DV.S0.forL_nil, DV.S0.s_tg1, DV.S0.s_tgm, DV.S0.s_vals0, DV.S0.s_vals, DV.S0.s_itL, DV.S0.s_itT, DV.S0.s_rs1, DV.S0.s_rs2, DV.S0.s_onZL, DV.S0.s_onZT, DV.S0.lcL_nil, DV.S0.s_yes, DV.S0.s_onA, DV.S0.s_arg0, DV.S0.s_argV, DV.S0.s_argv, DV.S0.s_argB, DV.S0.s_argb, DV.S0.s_argi, DV.S0.s_setIo0, DV.S0.s_out0, DV.S0.s_out1, DV.S0.s_out1o, DV.S0.s_muO, DV.S0.s_onMut, DV.S0.s_onRc, DV.S0.s_rc, DV.S0.s_rcL, DV.S0.s_app, DV.S0.s_ext, DV.S0.s_popO, DV.S0.s_popAt, DV.S0.s_onFf, DV.S0.s_onSt, DV.S0.s_stO, DV.S0.s_gSt, DV.S0.s_stSo, DV.S0.s_stSi, DV.S0.s_onMuo, DV.S0.s_onMui, DV.S0.s_argIo, DV.S0.s_argIi, DV.S0.s_oNone, DV.S0.s_slL, DV.S0.s_slT, DV.S0.s_sl3L, DV.S0.s_run, DV.S0.s_endN, DV.S0.s_endR, DV.S0.s_endRp, DV.S0.s_endO, DV.S0.s_noExc, DV.S0.s_noX, DV.S0.s_resv, DV.S0.s_rest, DV.S0.s_ress, DV.S0.s_resS1, DV.S0.s_resS2, DV.S0.s_outs0, DV.S0.s_outC, DV.S0.s_outs, DV.S0.s_outAt, DV.S0.s_outS, DV.S0.s_ioIx0, DV.S0.s_ioIxv, DV.S0.s_ioIxb, DV.S0.s_ioIxi, DV.S0.s_init0, DV.S0.s_initv, DV.S0.s_initb, DV.S0.s_initi, DV.S0.s_wipe0, DV.S0.s_wipe, DV.S0.s_ap0, DV.S0.s_apv, DV.S0.s_api, DV.S0.s_apbv, DV.S0.s_apbt, DV.S0.s_apbs, DV.kOp2, DV.kOp, DV.kTest, DV.kNotT, DV.kAndT, DV.kOrT, DV.kBl, DV.kAndV, DV.kOrV, DV.kNotV, DV.kIf, DV.kCh2, DV.kCh, DV.kUn, DV.kAC2, DV.kAC, DV.kFC3, DV.kFC2, DV.kFC, DV.kAFC3, DV.kAFC2, DV.kAFC, DV.kLst, DV.kTup, DV.kCall, DV.kDrop, DV.kRet, DV.kIfS, DV.kAsg, DV.kAug, DV.kT, DV.kFor, DV.kWh, DV.kISeq, DV.kIRg, DV.kLC2, DV.kLC, DV.kL3, DV.kL2, DV.kL1, DV.kFn, DV.kMut3, DV.kMut2, DV.kMut, DV.kSt4, DV.kSt3, DV.kSt2, DV.kSt, DV.kOS, DV.kSl2, DV.kSl1, DV.kSl, DV.kSl33, DV.kSl32, DV.kSl31, DV.kSl3, DV.kLRg1, DV.kLRg22, DV.kLRg2, DV.kC2, DV.kC,
  Rs.bind_ok, Rs.bind_stuck, Rs.bind_exc, Rs.fl_ok, Rs.fl_stuck, Rs.fl_exc, Rs.wp_ok, Fl.seq_nx, Fl.seq_ret, Fl.seq_brk, Fl.seq_ct, Fl.seq_stuck, Fl.seq_exc,
  List.getElem?_cons_zero, List.getElem?_cons_succ, List.getElem?_nil, List.set_cons_zero, List.set_cons_succ, List.set_nil, List.cons_append, List.nil_append, List.append_nil, List.replicate, List.length_cons, List.length_nil, Nat.reduceAdd, Nat.reduceSub, Nat.zero_add, List.contains_nil, List.contains_cons, startL,
  Bool.and_true, Bool.true_and, Bool.and_false, Bool.false_and, Bool.or_true, Bool.true_or, Bool.or_false, Bool.false_or, Bool.not_true, Bool.not_false, if_true, if_false, reduceIte, reduceCtorEq, decide_true, decide_false, decide_eq_true_eq, Option.map_some, Option.map_none, Option.some_or, Option.none_or, Option.bind_some, Option.bind_none, Bool.false_eq_true, Nat.reduceLeDiff, Nat.reduceEqDiff, beq_iff_eq, Nat.reduceBEq, ne_eq, not_true_eq_false, not_false_eq_true, Option.some.injEq, Bool.not_eq_true', decide_eq_false_iff_not, Bool.not_not, L2.ixN, DV.atI_0, DV.atI_1, DV.atI_2, DV.atI_3, DV.atI_4, DV.atI_5, DV.atI_6, DV.atI_7, DV.atI_8, DV.atI_9, DV.atI_10, DV.atI_11, DV.atI_12, DV.atI_13, DV.atI_14, DV.atI_15, DV.atI_m1, DV.s_eqI, DV.s_neI, DV.s_eqB, DV.s_neB, Int.reduceLE, Int.reduceLT, Int.reduceNeg, Int.reduceToNat, Int.reduceAdd, Int.reduceMul, Int.reduceSub, Int.le_refl, Int.cast_ofNat_Int, Int.toNat_zero, Int.toNat_one, Int.reducePow, true_and, and_true, DV.isi_non_int, DV.isi_non_bool, DV.isi_non_str, DV.isi_non_list, DV.isi_non_tuple, DV.isi_non_seq, DV.isN_non, DV.isi_bl_int, DV.isi_bl_bool, DV.isi_bl_str, DV.isi_bl_list, DV.isi_bl_tuple, DV.isi_bl_seq, DV.isN_bl, DV.isi_int_int, DV.isi_int_bool, DV.isi_int_str, DV.isi_int_list, DV.isi_int_tuple, DV.isi_int_seq, DV.isN_int, DV.isi_str_int, DV.isi_str_bool, DV.isi_str_str, DV.isi_str_list, DV.isi_str_tuple, DV.isi_str_seq, DV.isN_str, DV.isi_lst_int, DV.isi_lst_bool, DV.isi_lst_str, DV.isi_lst_list, DV.isi_lst_tuple, DV.isi_lst_seq, DV.isN_lst, DV.isi_tup_int, DV.isi_tup_bool, DV.isi_tup_str, DV.isi_tup_list, DV.isi_tup_tuple, DV.isi_tup_seq, DV.isN_tup, DV.s_eqN, DV.s_neN, DV.b_tt, DV.b_tf, DV.b_ft, DV.b_ff, DV.n_s_unp, DV.kUnp, DV.s_unpT, DV.s_maxL, DV.s_minL, DV.s_onMM, DV.s_inL, DV.s_inT, DV.s_onIn, DV.s_onNotIn, DV.s_LRg2, DV.D.ints_ints])
local macro_rules | `(tactic| walk_at "dh") => `(tactic| simp only [
  DV.n_s_op, DV.n_s_test, DV.n_s_notT, DV.n_s_andT, DV.n_s_orT, DV.n_s_andV, DV.n_s_orV, DV.n_s_notV, DV.n_s_if, DV.n_s_onC, DV.n_s_chLeLt, DV.n_s_chLeLe, DV.n_s_chLtLe, DV.n_s_un, DV.n_s_ACons, DV.n_s_FCons, DV.n_s_AFCons, DV.n_s_lst, DV.n_s_tup, DV.n_s_call, DV.n_s_seq, DV.n_s_drop, DV.n_s_ret, DV.n_s_ifS, DV.n_s_asg, DV.n_s_augS, DV.n_s_tupAsg, DV.n_s_for, DV.n_whL_succ, DV.n_s_iseq, DV.n_s_irg, DV.n_s_izip, DV.n_s_lc, DV.n_lcL_cons, DV.n_s_fn, DV.n_s_mut, DV.n_s_store, DV.n_s_oSome, DV.n_s_sl, DV.n_s_sl3, DV.n_s_lrg1, DV.n_s_lrg2, DV.S0.loop_nx, DV.S0.loop_ct, DV.S0.loop_brk, DV.S0.loop_ret, DV.S0.loop_exc, DV.S0.loop_stuck, DV.S0.s_onG, DV.S0.s_onG0, DV.S0.s_onB, DV.S0.s_onI, DV.S0.s_onN, DV.S0.s_pkv, DV.S0.s_pkt, DV.S0.s_pks, DV.S0.s_pkS1, DV.S0.s_pkS2, DV.S0.s_pkS3, DV.S0.s_var, DV.S0.s_vr1, DV.S0.s_vr2, DV.S0.s_vr3, DV.S0.s_C, DV.S0.s_on, DV.S0.s_onV, DV.S0.s_onU, DV.S0.s_neg, DV.S0.s_II, DV.S0.s_IC, DV.S0.s_addI, DV.S0.s_addL, DV.S0.s_addT, DV.S0.s_addS, DV.S0.s_mulI, DV.S0.s_mulL, DV.S0.s_ixL, DV.S0.s_ixT, DV.S0.s_ixC, DV.S0.s_ANil, DV.S0.s_FNil, DV.S0.s_onF, DV.S0.s_fzv, DV.S0.s_fzt, DV.S0.s_fzs, DV.S0.s_fzS1, DV.S0.s_fzS2, DV.S0.s_peeks0, DV.S0.s_cons2, DV.S0.s_peeks, DV.S0.s_onLs, DV.S0.s_onL, DV.S0.s_lenL, DV.S0.s_lenT, DV.S0.s_lenC, DV.S0.s_listL, DV.S0.s_listT, DV.S0.s_tupleL, DV.S0.s_tupleT, DV.S0.s_intI, DV.S0.s_intB, DV.S0.s_abs, DV.S0.s_max2, DV.S0.s_min2, DV.S0.s_all, DV.S0.s_any, DV.S0.s_sum, DV.S0.s_asgv, DV.S0.s_asgt, DV.S0.s_asgs, DV.S0.s_asgS1, DV.S0.s_asgS2, DV.S0.s_asgS3, DV.S0.s_aug, DV.S0.s_onT, DV.S0.s_fzS0, DV.S0.s_fzSv, DV.S0.s_fzSt, DV.S0.s_fzSs, DV.S0.s_fzSk, DV.S0.s_many0, DV.S0.s_manyv, DV.S0.s_manyt, DV.S0.forL_nil, DV.S0.s_tg1, DV.S0.s_tgm, DV.S0.s_vals0, DV.S0.s_vals, DV.S0.s_itL, DV.S0.s_itT, DV.S0.s_rs1, DV.S0.s_rs2, DV.S0.s_onZL, DV.S0.s_onZT, DV.S0.lcL_nil, DV.S0.s_yes, DV.S0.s_onA, DV.S0.s_arg0, DV.S0.s_argV, DV.S0.s_argv, DV.S0.s_argB, DV.S0.s_argb, DV.S0.s_argi, DV.S0.s_setIo0, DV.S0.s_out0, DV.S0.s_out1, DV.S0.s_out1o, DV.S0.s_muO, DV.S0.s_onMut, DV.S0.s_onRc, DV.S0.s_rc, DV.S0.s_rcL, DV.S0.s_app, DV.S0.s_ext, DV.S0.s_popO, DV.S0.s_popAt, DV.S0.s_onFf, DV.S0.s_onSt, DV.S0.s_stO, DV.S0.s_gSt, DV.S0.s_stSo, DV.S0.s_stSi, DV.S0.s_onMuo, DV.S0.s_onMui, DV.S0.s_argIo, DV.S0.s_argIi, DV.S0.s_oNone, DV.S0.s_slL, DV.S0.s_slT, DV.S0.s_sl3L, DV.S0.s_run, DV.S0.s_endN, DV.S0.s_endR, DV.S0.s_endRp, DV.S0.s_endO, DV.S0.s_noExc, DV.S0.s_noX, DV.S0.s_resv, DV.S0.s_rest, DV.S0.s_ress, DV.S0.s_resS1, DV.S0.s_resS2, DV.S0.s_outs0, DV.S0.s_outC, DV.S0.s_outs, DV.S0.s_outAt, DV.S0.s_outS, DV.S0.s_ioIx0, DV.S0.s_ioIxv, DV.S0.s_ioIxb, DV.S0.s_ioIxi, DV.S0.s_init0, DV.S0.s_initv, DV.S0.s_initb, DV.S0.s_initi, DV.S0.s_wipe0, DV.S0.s_wipe, DV.S0.s_ap0, DV.S0.s_apv, DV.S0.s_api, DV.S0.s_apbv, DV.S0.s_apbt, DV.S0.s_apbs, DV.kOp2, DV.kOp, DV.kTest, DV.kNotT, DV.kAndT, DV.kOrT, DV.kBl, DV.kAndV, DV.kOrV, DV.kNotV, DV.kIf, DV.kCh2, DV.kCh, DV.kUn, DV.kAC2, DV.kAC, DV.kFC3, DV.kFC2, DV.kFC, DV.kAFC3, DV.kAFC2, DV.kAFC, DV.kLst, DV.kTup, DV.kCall, DV.kDrop, DV.kRet, DV.kIfS, DV.kAsg, DV.kAug, DV.kT, DV.kFor, DV.kWh, DV.kISeq, DV.kIRg, DV.kLC2, DV.kLC, DV.kL3, DV.kL2, DV.kL1, DV.kFn, DV.kMut3, DV.kMut2, DV.kMut, DV.kSt4, DV.kSt3, DV.kSt2, DV.kSt, DV.kOS, DV.kSl2, DV.kSl1, DV.kSl, DV.kSl33, DV.kSl32, DV.kSl31, DV.kSl3, DV.kLRg1, DV.kLRg22, DV.kLRg2, DV.kC2, DV.kC,
  Rs.bind_ok, Rs.bind_stuck, Rs.bind_exc, Rs.fl_ok, Rs.fl_stuck, Rs.fl_exc, Rs.wp_ok, Fl.seq_nx, Fl.seq_ret, Fl.seq_brk, Fl.seq_ct, Fl.seq_stuck, Fl.seq_exc,
  List.getElem?_cons_zero, List.getElem?_cons_succ, List.getElem?_nil, List.set_cons_zero, List.set_cons_succ, List.set_nil, List.cons_append, List.nil_append, List.append_nil, List.replicate, List.length_cons, List.length_nil, Nat.reduceAdd, Nat.reduceSub, Nat.zero_add, List.contains_nil, List.contains_cons, startL,
  Bool.and_true, Bool.true_and, Bool.and_false, Bool.false_and, Bool.or_true, Bool.true_or, Bool.or_false, Bool.false_or, Bool.not_true, Bool.not_false, if_true, if_false, reduceIte, reduceCtorEq, decide_true, decide_false, decide_eq_true_eq, Option.map_some, Option.map_none, Option.some_or, Option.none_or, Option.bind_some, Option.bind_none, Bool.false_eq_true, Nat.reduceLeDiff, Nat.reduceEqDiff, beq_iff_eq, Nat.reduceBEq, ne_eq, not_true_eq_false, not_false_eq_true, Option.some.injEq, Bool.not_eq_true', decide_eq_false_iff_not, Bool.not_not, L2.ixN, DV.atI_0, DV.atI_1, DV.atI_2, DV.atI_3, DV.atI_4, DV.atI_5, DV.atI_6, DV.atI_7, DV.atI_8, DV.atI_9, DV.atI_10, DV.atI_11, DV.atI_12, DV.atI_13, DV.atI_14, DV.atI_15, DV.atI_m1, DV.s_eqI, DV.s_neI, DV.s_eqB, DV.s_neB, Int.reduceLE, Int.reduceLT, Int.reduceNeg, Int.reduceToNat, Int.reduceAdd, Int.reduceMul, Int.reduceSub, Int.le_refl, Int.cast_ofNat_Int, Int.toNat_zero, Int.toNat_one, Int.reducePow, true_and, and_true, DV.isi_non_int, DV.isi_non_bool, DV.isi_non_str, DV.isi_non_list, DV.isi_non_tuple, DV.isi_non_seq, DV.isN_non, DV.isi_bl_int, DV.isi_bl_bool, DV.isi_bl_str, DV.isi_bl_list, DV.isi_bl_tuple, DV.isi_bl_seq, DV.isN_bl, DV.isi_int_int, DV.isi_int_bool, DV.isi_int_str, DV.isi_int_list, DV.isi_int_tuple, DV.isi_int_seq, DV.isN_int, DV.isi_str_int, DV.isi_str_bool, DV.isi_str_str, DV.isi_str_list, DV.isi_str_tuple, DV.isi_str_seq, DV.isN_str, DV.isi_lst_int, DV.isi_lst_bool, DV.isi_lst_str, DV.isi_lst_list, DV.isi_lst_tuple, DV.isi_lst_seq, DV.isN_lst, DV.isi_tup_int, DV.isi_tup_bool, DV.isi_tup_str, DV.isi_tup_list, DV.isi_tup_tuple, DV.isi_tup_seq, DV.isN_tup, DV.s_eqN, DV.s_neN, DV.b_tt, DV.b_tf, DV.b_ft, DV.b_ff, DV.n_s_unp, DV.kUnp, DV.s_unpT, DV.s_maxL, DV.s_minL, DV.s_onMM, DV.s_inL, DV.s_inT, DV.s_onIn, DV.s_onNotIn, DV.s_LRg2, DV.D.ints_ints, *])
/-! ### the source of draws -/
def Box (n : Int) (b : D) : Prop := ∃ x y c : Int, b = .lst [.int x, .int y, .int c] ∧ 0 ≤ x ∧ 0 ≤ y ∧ y < 2147483549 ∧ 0 ≤ c ∧ c ≤ n
theorem Box.mono {n m : Int} {b : D} (h : Box n b) (k : n ≤ m) : Box m b := by
  obtain ⟨x, y, c, rfl, h1, h2, h3, h4, h5⟩ := h
  exact ⟨x, y, c, rfl, h1, h2, h3, h4, by omega⟩
theorem take_pos {k : Nat} {x y c span : Int} (h : 0 < x) (hs : 0 < span) (hs2 : span ≤ 10000000000) : R_Ltake (k + 1) [.lst [.int x, .int y, .int c], .int span] = .ok false (.int (x % span)) [.lst [.int (x / span), .int y, .int c]] := by
  have h1 : posOk x span = true := posOk_of hs
  have h2 : divOk x span = true := divOk_of hs (by omega)
  show noExc (runF [.io, .val] 4 (g_Ltake (R_Ltake k))) _ = _
  unfold g_Ltake
  walk_at "dh"
theorem take_mix {k : Nat} {y c span : Int} {n : Int} (h0 : 0 ≤ y) (hy : y < 2147483549) (hc : 0 ≤ c) (hn : c ≤ n) (hn2 : n ≤ 100000000) (hs : 0 < span) (hs2 : span ≤ 10000000) :
    ∃ r, R_Ltake (k + 1) [.lst [.int 0, .int y, .int c], .int span] = .ok false (.int (r % span)) [.lst [.int 0, .int y, .int (c + 1)]] := by
  have e1 : mulOk 52183 (c + 1) = true := mulOk_l (by decide)
  have e2 : powOk (y + 52183 * (c + 1)) 3 = true := powOk_of (by decide) (by decide) (by omega)
  have e3 : ∀ i, posOk i 2147483587 = true := fun _ => posOk_of (by decide)
  have e4 : ∀ i, posOk i 30011 = true := fun _ => posOk_of (by decide)
  have e5 : ∀ i, posOk i 2147483647 = true := fun _ => posOk_of (by decide)
  have e6 : ∀ i, posOk i span = true := fun _ => posOk_of hs
  have e7 : ∀ i, divOk i 32 = true := fun _ => divOk_of (by decide) (by decide)
  have e8 : mulOk (c + 1) 6389 = true := mulOk_r (by decide)
  have e9 : ∀ i j, mulOk (i % 2147483587) j = true := fun i j => mulOk_l (by have := Int.emod_nonneg i (show (2147483587 : Int) ≠ 0 by decide); have := Int.emod_lt_of_pos i (show (0 : Int) < 2147483587 by decide); omega)
  have e10 : powOk 10 7 = true := by decide
  have h1 : ¬ 10000000 < span := by omega
  have h2 : ¬ (0 : Int) < 0 := by omega
  refine ⟨((y + 52183 * (c + 1)) ^ 3 % 2147483587 * ((y + 52183 * (c + 1)) ^ 3 % 2147483587 % 30011 + 13) + (c + 1) * 6389) % 2147483647 / 32, ?_⟩
  show noExc (runF [.io, .val] 4 (g_Ltake (R_Ltake k))) _ = _
  unfold g_Ltake
  walk_at "dh"
theorem take_small {k : Nat} {b : D} {span : Int} {n : Int} (hb : Box n b) (hn2 : n ≤ 100000000) (hs : 0 < span) (hs2 : span ≤ 10000000) :
    ∃ r b', R_Ltake (k + 1) [b, .int span] = .ok false (.int r) [b'] ∧ 0 ≤ r ∧ r < span ∧ Box (n + 1) b' := by
  obtain ⟨x, y, c, rfl, h1, h2, h3, h4, h5⟩ := hb
  by_cases hx : 0 < x
  · refine ⟨_, _, take_pos hx hs (by omega), Int.emod_nonneg _ (by omega), Int.emod_lt_of_pos _ hs, _, _, _, rfl, Int.ediv_nonneg h1 (by omega), h2, h3, h4, by omega⟩
  · have : x = 0 := by omega
    subst this
    obtain ⟨r, hr⟩ := take_mix (k := k) h2 h3 h4 h5 hn2 hs hs2
    exact ⟨_, _, hr, Int.emod_nonneg _ (by omega), Int.emod_lt_of_pos _ hs, _, _, _, rfl, by omega, h2, h3, by omega, by omega⟩
theorem mtake {b : D} {span : Int} {n : Int} (hb : Box n b) (hn2 : n ≤ 100000000) (hs : 0 < span) (hs2 : span ≤ 10000000) :
    ∃ r b', M_Ltake [b, .int span] = .ok false (.int r) [b'] ∧ 0 ≤ r ∧ r < span ∧ Box (n + 1) b' := take_small (k := 3) hb hn2 hs hs2
theorem mtake_big {b : D} {span : Int} {n : Int} (hb : Box n b) (hn2 : n ≤ 10000000) (hs : 0 < span) (hs2 : span ≤ 1000000000) :
    ∃ r b', M_Ltake [b, .int span] = .ok false (.int r) [b'] ∧ 0 ≤ r ∧ r < span ∧ Box (n + 2) b' := by
  by_cases hsm : span ≤ 10000000
  · obtain ⟨r, b', h1, h2, h3, h4⟩ := mtake hb (by omega) hs hsm
    exact ⟨r, b', h1, h2, h3, h4.mono (by omega)⟩
  · have hb0 := hb
    obtain ⟨x, y, c, rfl, h1, h2, h3, h4, h5⟩ := hb
    by_cases hx : 0 < x
    · exact ⟨_, _, take_pos (k := 3) hx hs (by omega), Int.emod_nonneg _ (by omega), Int.emod_lt_of_pos _ hs, _, _, _, rfl, Int.ediv_nonneg h1 (by omega), h2, h3, h4, by omega⟩
    · have : x = 0 := by omega
      subst this
      obtain ⟨r1, b1, k1, k2, k3, k4⟩ := take_small (k := 2) (span := 10000000) hb0 (by omega) (by omega) (by omega)
      obtain ⟨r2, b2, j1, j2, j3, j4⟩ := take_small (k := 2) (span := span / 10000000 + 1) k4 (by omega) (by omega) (by omega)
      refine ⟨(r1 + 10000000 * r2) % span, b2, ?_, Int.emod_nonneg _ (by omega), Int.emod_lt_of_pos _ hs, by rw [show n + 2 = n + 1 + 1 by omega]; exact j4⟩
      have e1 : mulOk 10000000 r2 = true := mulOk_l (by decide)
      have e6 : ∀ i, posOk i span = true := fun _ => posOk_of hs
      have e7 : divOk span 10000000 = true := divOk_of (by decide) (by decide)
      have e10 : powOk 10 7 = true := by decide
      have h1 : 10000000 < span := by omega
      have h2 : ¬ (0 : Int) < 0 := by omega
      generalize hm : R_Ltake (2 + 1) = m at k1 j1
      have em : R_Ltake 3 = m := hm
      show noExc (runF [.io, .val] 4 (g_Ltake (R_Ltake 3))) _ = _
      clear hm
      unfold g_Ltake
      walk_at "dh"
theorem at_ex {α : Type} {xs : List α} {r : Int} (h0 : 0 ≤ r) (h : r < xs.length) : ∃ d, L2.atI xs r = some d ∧ d ∈ xs := by
  rw [atI_at h0 h]
  have hn : r.toNat < xs.length := by omega
  exact ⟨xs[r.toNat], by rw [List.getElem?_eq_getElem hn], List.getElem_mem hn⟩
theorem mpick {b : D} {ds : List D} {n : Int} (hb : Box n b) (hn2 : n ≤ 100000000) (hs : 0 < ds.length) (hs2 : ds.length ≤ 1000000) :
    ∃ d b', M_Lpick [b, .lst ds] = .ok false d [b'] ∧ d ∈ ds ∧ Box (n + 1) b' := by
  obtain ⟨r, b', h1, h2, h3, h4⟩ := mtake (span := (ds.length : Int)) hb hn2 (by omega) (by omega)
  obtain ⟨d, h5, h6⟩ := at_ex h2 h3
  refine ⟨d, b', ?_, h6, h4⟩
  show noExc (runF [.io, .val] 2 g_Lpick) _ = _
  unfold g_Lpick
  walk_at "dh"
theorem cons_erase : ∀ (l : List Int) (k : Nat) (h : k < l.length), (l[k] :: l.eraseIdx k).Perm l
  | [], k, h => by simp at h
  | x :: l, 0, h => by simp
  | x :: l, k + 1, h => by
    simp only [List.getElem_cons_succ, List.eraseIdx_cons_succ]
    exact (List.Perm.swap _ _ _).trans ((cons_erase l k (by simpa using h)).cons x)
theorem eraseIdx_dInts (l : List Int) (k : Nat) : (dInts l).eraseIdx k = dInts (l.eraseIdx k) := by
  induction l generalizing k with
  | nil => rfl
  | cons x l ih =>
    cases k with
    | zero => rfl
    | succ k => simp only [dInts, List.map_cons, List.eraseIdx_cons_succ] at ih ⊢; rw [ih]
theorem shuf_loop : ∀ (n : Nat) (l f : List Int) (b s : D) (m : Int), l.length < n → Box m b → m + l.length ≤ 100000000 → f.length + l.length ≤ 1000 →
    ∃ b' f', whL (dTest (dOp gNe (dVar 2) (dLst dFNil))) (dDrop (dMut "list" gApp (dVar 3) (dFCons (dMut "list" gPopAt (dVar 2) (dFCons (dFn [.io, .val] M_Ltake (dACons (dVar 0) (dAFCons (dCall gLen (dACons (dVar 2) dANil)) dANil))) dFNil)) dFNil))) n
      [.obj (.io 0) b, .val s, .obj .own (.lst (dInts l)), .obj .own (.lst (dInts f))] = .nx [.obj (.io 0) b', .val s, .obj .own (.lst []), .obj .own (.lst (dInts f'))] ∧ f'.Perm (f ++ l) ∧ Box (m + l.length) b'
  | 0, l, f, b, s, m, h, _, _, _ => by omega
  | n + 1, [], f, b, s, m, h, hb, _, _ => by
    refine ⟨b, f, ?_, by simp, by simpa using hb⟩
    have e0 : lenOk 0 = true := rfl
    have e1 : gNe (.lst []) (.lst []) = some (.v (.bl false)) := by rw [ne_sm (n := 1) (m := 1) (.lst (by simp)) (.lst (by simp)) (by omega) (by omega), dq_self]; rfl
    show whL _ _ (n + 1) [_, _, .obj .own (.lst []), _] = _
    walk_at "dh"
  | n + 1, x :: l, f, b, s, m, h, hb, hm, hf => by
    simp only [List.length_cons] at h hm hf
    obtain ⟨r, b', h1, h2, h3, h4⟩ := mtake (span := ((dInts (x :: l)).length : Int)) hb (by omega) (by simp only [dInts, List.length_map, List.length_cons]; omega) (by simp only [dInts, List.length_map, List.length_cons]; omega)
    have hk : r.toNat < (x :: l).length := by simp only [dInts, List.length_map, List.length_cons] at h3 ⊢; omega
    have e0 : lenOk 0 = true := rfl
    have e1 : gNe (.lst (dInts (x :: l))) (.lst []) = some (.v (.bl true)) := by
      rw [ne_sm (n := 1) (m := 1) (sm_lints _) (.lst (by simp)) (by omega) (by omega), dq_ne (by simp [dInts])]; rfl
    have e2 : (dInts (x :: l))[r.toNat]? = some (.int (x :: l)[r.toNat]) := by
      simp only [dInts, List.getElem?_map, List.getElem?_eq_getElem hk]; rfl
    have e3 : lenOk (dInts (x :: l)).length = true := lenOk_of (by simp only [dInts, List.length_map, List.length_cons]; omega)
    have e4 : lenOk (dInts f).length = true := lenOk_of (by simp only [dInts, List.length_map]; omega)
    have e5 : dInts f ++ [.int (x :: l)[r.toNat]] = dInts (f ++ [(x :: l)[r.toNat]]) := by simp [dInts]
    have e6 := eraseIdx_dInts (x :: l) r.toNat
    have el : ((x :: l).eraseIdx r.toNat).length = l.length := by rw [List.length_eraseIdx]; simp only [List.length_cons]; rw [if_pos (by simpa using hk)]; omega
    obtain ⟨b2, f2, k1, k2, k3⟩ := shuf_loop n ((x :: l).eraseIdx r.toNat) (f ++ [(x :: l)[r.toNat]]) b' s (m + 1) (by rw [el]; omega) h4 (by rw [el]; omega) (by rw [el]; simp; omega)
    refine ⟨b2, f2, ?_, ?_, k3.mono (by rw [el]; simp; omega)⟩
    · rw [← k1]
      generalize dInts (x :: l) = L0 at *
      generalize hv : (x :: l)[r.toNat] = v at *
      rw [← e6, ← e5]
      generalize dInts f = F0 at *
      clear k1 k2 k3 e5 e6 el
      walk_at "dh"
    · refine k2.trans ?_
      have := cons_erase (x :: l) r.toNat hk
      rw [List.append_assoc]
      exact List.Perm.append_left _ this
theorem mshuf {b : D} {l : List Int} {m : Int} (hb : Box m b) (hm : m ≤ 10000000) (hl : l.length ≤ 500) :
    ∃ b' f, M_Lshuffled [b, .lst (dInts l)] = .ok true (.lst (dInts f)) [b'] ∧ f.Perm l ∧ Box (m + l.length) b' := by
  obtain ⟨b', f, k1, k2, k3⟩ := shuf_loop 100000 l [] b (.lst (dInts l)) m (by omega) hb (by omega) (by simp; omega)
  refine ⟨b', f, ?_, by simpa using k2, k3⟩
  show noExc (runF [.io, .val] 4 g_Lshuffled) _ = _
  unfold g_Lshuffled
  have e0 : lenOk 0 = true := rfl
  simp only [dInts, List.map_nil] at k1 ⊢
  generalize hw : whL _ _ 100000 = W at k1 ⊢
  walk_at "dh"
theorem d_int {xs : List Int} {d : D} (h : d ∈ dInts xs) : ∃ i, d = .int i ∧ i ∈ xs := by
  simp only [dInts, List.mem_map] at h
  obtain ⟨i, h1, h2⟩ := h
  exact ⟨i, h2.symm, h1⟩
/-- different positive numbers, not too many, not too large -/
def Row (most : Nat) (ns : List Int) : Prop := ns.Nodup ∧ (∀ x ∈ ns, 0 < x ∧ x ≤ 2000000000) ∧ 1 ≤ ns.length ∧ ns.length ≤ most
theorem Row.perm {most : Nat} {ns ms : List Int} (h : Row most ns) (p : ms.Perm ns) : Row most ms := by
  obtain ⟨h1, h2, h3, h4⟩ := h
  exact ⟨p.nodup_iff.mpr h1, fun x hx => h2 x (p.mem_iff.mp hx), by rw [p.length_eq]; exact h3, by rw [p.length_eq]; exact h4⟩
theorem mcrack {b : D} {n : Int} (hb : Box n b) (hn2 : n ≤ 100000000) : ∃ c b', M_Lpick [b, .lst [.int 1, .int 1, .int 3, .int 80000000]] = .ok false (.int c) [b'] ∧ (0 < c ∧ c ≤ 80000000) ∧ Box (n + 1) b' := by
  obtain ⟨d, b', h1, h2, h3⟩ := mpick (ds := [.int 1, .int 1, .int 3, .int 80000000]) hb hn2 (by simp) (by simp)
  simp only [List.mem_cons, List.not_mem_nil, or_false] at h2
  rcases h2 with rfl | rfl | rfl | rfl <;> exact ⟨_, _, h1, by omega, h3⟩
def SzI (most count crack m : Int) (k : Nat) (L : LS) : Prop := ∃ (s6 : Sl) (b : D) (t : Int) (f : List Int),
  L = [.obj (.io 0) b, .val (.int most), .val (.int count), .val (.int crack), .val (.int t), .obj .own (.lst (dInts f)), s6, .un] ∧ Box (m + 2 * k) b ∧
  f.length = k ∧ f.Nodup ∧ (∀ x ∈ f, 0 < x ∧ x ≤ t) ∧ 0 ≤ t ∧ t ≤ k * 80000001
theorem size_loop {most count crack m : Int} {b : D} (hb : Box m b) (hm : m ≤ 2000000) (hc : 0 < crack) (hc2 : crack ≤ 80000000) {n : Nat} (hn : n ≤ 12) :
    ∃ L', forL (.one 6) (dSeq (dAsg 4 (dOp gAdd (dOp gAdd (dVar 4) (dC (.int 1))) (dFn [.io, .val] M_Ltake (dACons (dVar 0) (dAFCons (dVar 3) dANil))))) (dDrop (dMut "list" gApp (dVar 5) (dFCons (dVar 4) dFNil)))) (rgD 0 1 n)
      [.obj (.io 0) b, .val (.int most), .val (.int count), .val (.int crack), .val (.int 0), .obj .own (.lst []), .un, .un] = .nx L' ∧ SzI most count crack m n L' := by
  have := for_inv (t := .one 6) (g := dSeq (dAsg 4 (dOp gAdd (dOp gAdd (dVar 4) (dC (.int 1))) (dFn [.io, .val] M_Ltake (dACons (dVar 0) (dAFCons (dVar 3) dANil))))) (dDrop (dMut "list" gApp (dVar 5) (dFCons (dVar 4) dFNil)))) (I := SzI most count crack m)
    (rgD 0 1 n) 0 [.obj (.io 0) b, .val (.int most), .val (.int count), .val (.int crack), .val (.int 0), .obj .own (.lst []), .un, .un] ⟨.un, b, 0, [], rfl, by simpa using hb, rfl, by simp, by simp, by omega, by simp⟩ ?_
  · simpa [rgD_len] using this
  · intro j d L hd hI
    obtain ⟨rfl, hj⟩ := rg0_at hd
    obtain ⟨s6, b, t, f, rfl, hb, h1, h2, h3, h4, h5⟩ := hI
    obtain ⟨r, b', k1, k2, k3, k4⟩ := mtake_big (span := crack) hb (by omega) hc (by omega)
    refine ⟨_, [.obj (.io 0) b', .val (.int most), .val (.int count), .val (.int crack), .val (.int (t + 1 + r)), .obj .own (.lst (dInts (f ++ [t + 1 + r]))), .val (.int j), .un], S0.s_tg1 .., .inl ?_, _, b', t + 1 + r, f ++ [t + 1 + r], rfl, k4.mono (by omega), by simp; omega, ?_, ?_, by omega, by omega⟩
    · have e1 : lenOk (dInts f).length = true := lenOk_of (by simp only [dInts, List.length_map]; omega)
      have e2 : dInts (f ++ [t + 1 + r]) = dInts f ++ [.int (t + 1 + r)] := by simp [dInts]
      rw [e2]
      generalize dInts f = F at *
      walk_at "dh"
    · rw [List.nodup_append]
      refine ⟨h2, by simp, ?_⟩
      intro x hx y hy
      simp only [List.mem_singleton] at hy
      have := h3 x hx
      omega
    · intro x hx
      simp only [List.mem_append, List.mem_singleton] at hx
      rcases hx with hx | rfl
      · have := h3 x hx; omega
      · omega
theorem msizes {b : D} {most m : Int} (hb : Box m b) (hm : m ≤ 1000000) (h1 : 1 ≤ most) (h2 : most ≤ 12) :
    ∃ b' ns, M_Lsizes [b, .int most] = .ok false (.tup (dInts ns)) [b'] ∧ Row most.toNat ns ∧ Box (m + 50) b' := by
  obtain ⟨r1, b1, k1, k2, k3, k4⟩ := mtake (span := most) hb (by omega) (by omega) (by omega)
  obtain ⟨cr, b2, j1, j2, j3⟩ := mcrack k4 (by omega)
  have hr : r1.toNat = r1 := by omega
  obtain ⟨L', l1, s6, b3, t, f, rfl, l2, l3, l4, l5, l6, l7⟩ := size_loop (most := most) (count := 1 + r1) (n := (1 + r1).toNat) j3 (by omega) j2.1 j2.2 (by omega)
  obtain ⟨w, b4, i1, i2, i3, i4⟩ := mtake (span := 6) l2 (by omega) (by omega) (by omega)
  have hf : Row most.toNat f := ⟨l4, fun x hx => by have := l5 x hx; omega, by omega, by omega⟩
  have hfl : (dInts f).length = f.length := by simp [dInts]
  have hf12 : (dInts f).length ≤ 12 := by omega
  have e1 : mulOk 8 10000000 = true := by decide
  have e2 : powOk 10 7 = true := by decide
  have e3 : rgOk (1 + r1) = true := rgOk_of (by omega) (by omega)
  have e5 : lenOk 4 = true := rfl
  have e6 : lenOk 0 = true := rfl
  have key : ∀ (ds : List D) (b' : D), ds.Perm (dInts f) → Box (m + 50) b' → M_Lsizes [b, .int most] = .ok false (.tup ds) [b'] → ∃ b' ns, M_Lsizes [b, .int most] = .ok false (.tup (dInts ns)) [b'] ∧ Row most.toNat ns ∧ Box (m + 50) b' := by
    intro ds b' hp hb' e
    obtain ⟨ms, rfl, hp2⟩ := ints_of_perm hp
    exact ⟨b', ms, e, hf.perm hp2, hb'⟩
  have goal : ∀ (ds : List D) (b' : D), noExc (runF [.io, .val] 8 g_Lsizes) [b, .int most] = .ok false (.tup ds) [b'] → M_Lsizes [b, .int most] = .ok false (.tup ds) [b'] := fun _ _ h => h
  have hB4 : Box (m + 50) b4 := i4.mono (by omega)
  by_cases w0 : w = 0
  · refine key (dInts f) b4 (.refl _) hB4 (goal _ _ ?_)
    clear key goal
    subst w0
    unfold g_Lsizes
    generalize dInts f = F at *
    walk_at "dh"
  by_cases w1 : w = 1
  · have p1 := pk_rev hf12
    refine key (pickG (dInts f) none none (some (-1))) b4 (by rw [p1]; exact List.reverse_perm _) hB4 (goal _ _ ?_)
    clear key goal p1
    subst w1
    unfold g_Lsizes
    generalize dInts f = F at *
    walk_at "dh"
  by_cases w2 : w = 2
  · have p1 := pickG_len (some 1) none (some 2) hf12 (by decide +kernel)
    have p2 := pickG_len none none (some 2) hf12 (by decide +kernel)
    have p3 := pickG_len none none (some (-1)) p1 (by decide +kernel)
    have p4 : lenOk ((pickG (dInts f) none none (some 2)).length + (pickG (pickG (dInts f) (some 1) none (some 2)) none none (some (-1))).length) = true := lenOk_of (by omega)
    refine key (pickG (dInts f) none none (some 2) ++ pickG (pickG (dInts f) (some 1) none (some 2)) none none (some (-1))) b4 (zig_perm hf12) hB4 (goal _ _ ?_)
    clear key goal p1 p2 p3
    subst w2
    unfold g_Lsizes
    generalize dInts f = F at *
    walk_at "dh"
  · obtain ⟨b5, f5, q1, q2, q3⟩ := mshuf i4 (by omega) (show f.length ≤ 500 by omega)
    refine key (dInts f5) b5 (by simpa [dInts] using q2.map D.int) (q3.mono (by omega)) (goal _ _ ?_)
    clear key goal
    unfold g_Lsizes
    generalize dInts f = F at *
    generalize dInts f5 = F5 at *
    walk_at "dh"
theorem mbox {ns : List Int} {k : Int} (hk : 0 ≤ k) (hk2 : k ≤ 100) : ∃ b, M_Lbox [.scr ns, .int k] = .ok true b [] ∧ Box 0 b := by
  have main : ∀ cell : Int, Box 0 (.lst [.int ((if cell < 0 then -cell else cell) * (if 1000000000000000000 ≤ (if cell < 0 then -cell else cell) then 1 else 0)), .int ((cell % 2147483629 + 17417 * k + 37) * 40277 % 2147483549), .int 0]) := by
    intro cell
    refine ⟨_, _, _, rfl, ?_, Int.emod_nonneg _ (by omega), Int.emod_lt_of_pos _ (by omega), by omega, by omega⟩
    refine Int.mul_nonneg ?_ ?_ <;> split <;> omega
  have e1 : powOk 10 18 = true := by decide
  have e2 : ∀ (i : Int) (p : Prop) [Decidable p], mulOk i (if p then 1 else 0) = true := fun i p _ => mulOk_r (by split <;> decide)
  have e20 : mulOk 0 0 = true := by decide
  have e3 : ∀ i, posOk i 2147483629 = true := fun _ => posOk_of (by decide)
  have e4 : ∀ i, posOk i 2147483549 = true := fun _ => posOk_of (by decide)
  have e5 : ∀ i, mulOk 17417 i = true := fun i => mulOk_l (by decide)
  have e6 : ∀ i, mulOk i 40277 = true := fun i => mulOk_r (by decide)
  have e7 : lenOk 3 = true := rfl
  by_cases h : k < (ns.length : Int)
  · obtain ⟨cell, h1, _⟩ := at_ex hk h
    refine ⟨_, ?_, main cell⟩
    show noExc (runF [.val, .val] 3 g_Lbox) _ = _
    unfold g_Lbox
    clear main
    walk_at "dh"
  · refine ⟨.lst [.int 0, .int ((0 % 2147483629 + 17417 * k + 37) * 40277 % 2147483549), .int 0], ?_, _, _, _, rfl, by omega, Int.emod_nonneg _ (by omega), Int.emod_lt_of_pos _ (by omega), by omega, by omega⟩
    show noExc (runF [.val, .val] 3 g_Lbox) _ = _
    unfold g_Lbox
    clear main
    walk_at "dh"
/-! ### equal with kinds -/
inductive Pl : Nat → D → Prop
  | int {n} (i : Int) : Pl n (.int i)
  | bl {n} (i : Bool) : Pl n (.bl i)
  | non {n} : Pl n .non
  | lst {n ds} : ds.length ≤ 1000000 → (∀ d ∈ ds, Pl n d) → Pl (n + 1) (.lst ds)
  | tup {n ds} : ds.length ≤ 1000000 → (∀ d ∈ ds, Pl n d) → Pl (n + 1) (.tup ds)
theorem same_lc {m : Mir} {d : D} {ds : List D} (hl : ds.length ≤ 1000000) (h : ∀ x ∈ ds, m [x, x] = .ok false (.bl true) []) :
    ∃ ys, lcL [2, 3] (.many [2, 3]) dYes (dFn [.val, .val] m (dAFCons (dVar 2) (dAFCons (dVar 3) dANil))) (zipD ds ds) [] [.val d, .val d, .un, .un] = .ok ys [.val d, .val d, .un, .un] ∧ gAll [.lst ys] = some (.v (.bl true)) := by
  have hl := lc_inv (vs := [2, 3]) (t := .many [2, 3]) (c := dYes) (e := dFn [.val, .val] m (dAFCons (dVar 2) (dAFCons (dVar 3) dANil))) (I := fun _ L => L = [.val d, .val d, .un, .un]) (F := fun _ y => y = .bl true)
    (zipD ds ds) 0 [] [.val d, .val d, .un, .un] rfl (by simp [zipD]; omega) ?_
  · obtain ⟨ys, L', h1, h2, h3, h4⟩ := hl
    subst h4
    exact ⟨ys, by simpa using h1, all_true (fun j y hy => h3 j y hy)⟩
  · intro j x L hx hL
    subst hL
    obtain ⟨a, b, ha, hb, rfl⟩ := zipD_get hx
    rw [ha] at hb
    cases hb
    have hm := h a (List.mem_of_getElem? ha)
    refine ⟨[.val d, .val d, .val a, .val a], _, .v (.bl true), [.val d, .val d, .val a, .val a], .bl true, [.val d, .val d, .val a, .val a], rfl, rfl, ?_, rfl, rfl, rfl⟩
    walk_at "dh"
theorem same_self : ∀ (n : Nat) (d : D), Pl n d → ∀ k, R_Lsame (k + n + 1) [d, d] = .ok false (.bl true) []
  | n, _, .int i, k => by
    show noExc (runF [.val, .val] 4 (g_Lsame (R_Lsame (k + n)))) _ = _
    generalize R_Lsame (k + n) = m
    unfold g_Lsame
    have e : lenOk 2 = true := rfl
    walk_at "dh"
  | n, _, .bl i, k => by
    show noExc (runF [.val, .val] 4 (g_Lsame (R_Lsame (k + n)))) _ = _
    generalize R_Lsame (k + n) = m
    unfold g_Lsame
    have e : lenOk 2 = true := rfl
    have e2 : (i == i) = true := by simp
    walk_at "dh"
  | n, _, .non, k => by
    show noExc (runF [.val, .val] 4 (g_Lsame (R_Lsame (k + n)))) _ = _
    generalize R_Lsame (k + n) = m
    unfold g_Lsame
    have e : lenOk 2 = true := rfl
    walk_at "dh"
  | n + 1, .lst ds, .lst hl h, k => by
    obtain ⟨ys, h1, h2⟩ := same_lc (m := R_Lsame (k + n + 1)) (d := .lst ds) hl fun x hx => same_self n x (h x hx) k
    show noExc (runF [.val, .val] 4 (g_Lsame (R_Lsame (k + n + 1)))) _ = _
    generalize R_Lsame (k + n + 1) = m at *
    unfold g_Lsame
    have e : lenOk 2 = true := rfl
    walk_at "dh"
  | n + 1, .tup ds, .tup hl h, k => by
    obtain ⟨ys, h1, h2⟩ := same_lc (m := R_Lsame (k + n + 1)) (d := .tup ds) hl fun x hx => same_self n x (h x hx) k
    show noExc (runF [.val, .val] 4 (g_Lsame (R_Lsame (k + n + 1)))) _ = _
    generalize R_Lsame (k + n + 1) = m at *
    unfold g_Lsame
    have e : lenOk 2 = true := rfl
    walk_at "dh"
theorem msame {n : Nat} {d : D} (h : Pl n d) (hn : n ≤ 7) : M_Lsame [d, d] = .ok false (.bl true) [] := by
  have := same_self n d h (7 - n)
  rw [show 7 - n + n + 1 = 8 by omega] at this
  exact this
/-! ### fractions -/
theorem eu_half {a b : Nat} (h : a % b ≠ 0) (hb : b ≠ 0) : 2 * (b % (a % b)) < b := by
  have h1 : a % b < b := Nat.mod_lt _ (by omega)
  have h2 : b % (a % b) < a % b := Nat.mod_lt _ (by omega)
  have h3 : b % (a % b) ≤ b - a % b := by
    rw [Nat.mod_eq_sub_mod (by omega)]
    exact Nat.mod_le _ _
  omega
theorem eu_gcd (a b : Nat) : Nat.gcd b (a % b) = Nat.gcd a b := by
  rw [Nat.gcd_comm a b, Nat.gcd_comm b, ← Nat.gcd_rec]
theorem pos_nat {a b : Nat} (hb : b ≠ 0) : posOk (a : Int) (b : Int) = true := posOk_of (by omega)
theorem gcd_loop : ∀ (n m a b : Nat), b < 2 ^ n → whL (dTest (dOp gGt (dVar 1) (dC (.int 0)))) (dTupAsg [0, 1] (dACons (dVar 1) (dACons (dOp gMod (dVar 0) (dVar 1)) dANil))) (m + (2 * n + 1)) [.val (.int a), .val (.int b)] = .nx [.val (.int (Nat.gcd a b)), .val (.int 0)] := by
  have z : ∀ (m a : Nat), whL (dTest (dOp gGt (dVar 1) (dC (.int 0)))) (dTupAsg [0, 1] (dACons (dVar 1) (dACons (dOp gMod (dVar 0) (dVar 1)) dANil))) (m + 1) [.val (.int a), .val (.int 0)] = .nx [.val (.int a), .val (.int 0)] := by
    intro m a
    have h : ¬ (0 : Int) < 0 := by omega
    walk_at "dh"
  have st : ∀ (m a b : Nat), b ≠ 0 → whL (dTest (dOp gGt (dVar 1) (dC (.int 0)))) (dTupAsg [0, 1] (dACons (dVar 1) (dACons (dOp gMod (dVar 0) (dVar 1)) dANil))) (m + 1) [.val (.int a), .val (.int b)] = whL (dTest (dOp gGt (dVar 1) (dC (.int 0)))) (dTupAsg [0, 1] (dACons (dVar 1) (dACons (dOp gMod (dVar 0) (dVar 1)) dANil))) m [.val (.int b), .val (.int ((a % b : Nat) : Int))] := by
    intro m a b hb
    have h : (0 : Int) < b := by omega
    have h2 := pos_nat (a := a) hb
    rw [Int.natCast_emod]
    walk_at "dh"
  intro n
  induction n with
  | zero =>
    intro m a b h
    have : b = 0 := by simp at h; exact h
    subst this
    have := z m a
    simpa using this
  | succ n ih =>
    intro m a b h
    rw [show m + (2 * (n + 1) + 1) = m + (2 * n + 1) + 1 + 1 by omega]
    by_cases hb : b = 0
    · subst hb; have := z (m + (2 * n + 1) + 1) a; simpa using this
    rw [st _ a b hb]
    by_cases hr : a % b = 0
    · have := z (m + (2 * n + 1)) b
      rw [hr]
      have e : Nat.gcd a b = b := by rw [← eu_gcd, hr, Nat.gcd_zero_right]
      rw [e]; exact this
    · rw [st _ b _ hr, ih m _ _ (by have := eu_half hr hb; rw [Nat.pow_succ] at h; omega), eu_gcd, eu_gcd]
theorem mgcd {a b : Nat} (h : b < 2 ^ 200) : M_gcd [.int a, .int b] = .ok false (.int (Nat.gcd a b)) [] := by
  have := gcd_loop 200 99599 a b h
  show noExc (runF [.val, .val] 2 g_gcd) _ = _
  unfold g_gcd
  simp only [Nat.reduceMul, Nat.reduceAdd] at this
  generalize hw : whL _ _ 100000 = W at this ⊢
  walk_at "dh"
theorem mreduced {a b : Nat} (h : 0 < b) (h2 : b < 2 ^ 60) : M_reduced [.int a, .int b] = .ok false (.tup [.int ((a / Nat.gcd a b : Nat) : Int), .int ((b / Nat.gcd a b : Nat) : Int)]) [] := by
  have h3 := mgcd (a := a) (b := b) (Nat.lt_of_lt_of_le h2 (Nat.pow_le_pow_right (by omega) (by omega)))
  have h4 : 0 < Nat.gcd a b := Nat.gcd_pos_of_pos_right _ h
  have h5 : Nat.gcd a b ≤ b := Nat.gcd_le_right _ h
  have h6 : ∀ i, divOk i (Nat.gcd a b : Int) = true := fun i => divOk_of (by omega) (by omega)
  have e : lenOk 2 = true := rfl
  show noExc (runF [.val, .val] 3 g_reduced) _ = _
  unfold g_reduced
  rw [Int.natCast_ediv, Int.natCast_ediv]
  walk_at "dh"
theorem mlook {ds : List D} {f : Int} (h0 : 0 ≤ f) (h : f < (ds.length : Int)) : M_look_place [.tup ds, .int f] = .ok false .non [] := by
  show noExc (runF [.val, .val] 2 g_look_place) _ = _
  unfold g_look_place
  walk_at "dh"
theorem mlookb {ds : List D} {f l : Int} (h0 : 0 ≤ f) (h : f < (ds.length : Int)) (k0 : 0 ≤ l) (k : l < (ds.length : Int)) : M_look_both [.tup ds, .int f, .int l] = .ok false .non [] := by
  have h1 := mlook h0 h
  have h2 := mlook k0 k
  show noExc (runF [.val, .val, .val] 3 g_look_both) _ = _
  unfold g_look_both
  walk_at "dh"
theorem part_loop : ∀ (n m a b : Nat) (A B : D), b < 2 ^ n → whL (dTest (dOp gGt (dVar 3) (dC (.int 0)))) (dTupAsg [2, 3] (dACons (dVar 3) (dACons (dOp gMod (dVar 2) (dVar 3)) dANil))) (m + (2 * n + 1)) [.val A, .val B, .val (.int a), .val (.int b)] = .nx [.val A, .val B, .val (.int (Nat.gcd a b)), .val (.int 0)] := by
  have z : ∀ (m a : Nat) (A B : D), whL (dTest (dOp gGt (dVar 3) (dC (.int 0)))) (dTupAsg [2, 3] (dACons (dVar 3) (dACons (dOp gMod (dVar 2) (dVar 3)) dANil))) (m + 1) [.val A, .val B, .val (.int a), .val (.int 0)] = .nx [.val A, .val B, .val (.int a), .val (.int 0)] := by
    intro m a A B
    have h : ¬ (0 : Int) < 0 := by omega
    walk_at "dh"
  have st : ∀ (m a b : Nat) (A B : D), b ≠ 0 → whL (dTest (dOp gGt (dVar 3) (dC (.int 0)))) (dTupAsg [2, 3] (dACons (dVar 3) (dACons (dOp gMod (dVar 2) (dVar 3)) dANil))) (m + 1) [.val A, .val B, .val (.int a), .val (.int b)] = whL (dTest (dOp gGt (dVar 3) (dC (.int 0)))) (dTupAsg [2, 3] (dACons (dVar 3) (dACons (dOp gMod (dVar 2) (dVar 3)) dANil))) m [.val A, .val B, .val (.int b), .val (.int ((a % b : Nat) : Int))] := by
    intro m a b A B hb
    have h : (0 : Int) < b := by omega
    have h2 := pos_nat (a := a) hb
    rw [Int.natCast_emod]
    walk_at "dh"
  intro n
  induction n with
  | zero =>
    intro m a b A B h
    have : b = 0 := by simp at h; exact h
    subst this
    have := z m a A B
    simpa using this
  | succ n ih =>
    intro m a b A B h
    rw [show m + (2 * (n + 1) + 1) = m + (2 * n + 1) + 1 + 1 by omega]
    by_cases hb : b = 0
    · subst hb; have := z (m + (2 * n + 1) + 1) a A B; simpa using this
    rw [st _ a b A B hb]
    by_cases hr : a % b = 0
    · have := z (m + (2 * n + 1)) b A B
      rw [hr]
      have e : Nat.gcd a b = b := by rw [← eu_gcd, hr, Nat.gcd_zero_right]
      rw [e]; exact this
    · rw [st _ b _ A B hr, ih m _ _ A B (by have := eu_half hr hb; rw [Nat.pow_succ] at h; omega), eu_gcd, eu_gcd]
theorem mpart {a b : Nat} (h : 0 < b) (h2 : b < 2 ^ 60) : M_Lpart [.int a, .int b] = .ok false (.tup [.int ((a / Nat.gcd a b : Nat) : Int), .int ((b / Nat.gcd a b : Nat) : Int)]) [] := by
  have h3 := part_loop 60 99879 a b (.int a) (.int b) h2
  simp only [Nat.reduceMul, Nat.reduceAdd] at h3
  have h4 : 0 < Nat.gcd a b := Nat.gcd_pos_of_pos_right _ h
  have h5 : Nat.gcd a b ≤ b := Nat.gcd_le_right _ h
  have h6 : ∀ i, divOk i (Nat.gcd a b : Int) = true := fun i => divOk_of (by omega) (by omega)
  have e : lenOk 2 = true := rfl
  show noExc (runF [.val, .val] 4 g_Lpart) _ = _
  unfold g_Lpart
  rw [Int.natCast_ediv, Int.natCast_ediv]
  generalize hw : whL _ _ 100000 = W at h3 ⊢
  walk_at "dh"
def dPair (a b : Nat) : D := .tup [.int ((a / Nat.gcd a b : Nat) : Int), .int ((b / Nat.gcd a b : Nat) : Int)]

end K79
end
section
set_option Elab.async false
set_option linter.all false
set_option maxRecDepth 100000
set_option maxHeartbeats 4000000
namespace K79
open PySem PySem.Spec PyProof.Rows L2 DV
local macro_rules | `(tactic| walk_at "ds") => `(tactic| simp only [
  DV.n_s_op, DV.n_s_test, DV.n_s_notT, DV.n_s_andT, DV.n_s_orT, DV.n_s_andV, DV.n_s_orV, DV.n_s_notV, DV.n_s_if, DV.n_s_onC, DV.n_s_chLeLt, DV.n_s_chLeLe, DV.n_s_chLtLe, DV.n_s_un, DV.n_s_ACons, DV.n_s_FCons, DV.n_s_AFCons, DV.n_s_lst, DV.n_s_tup, DV.n_s_call, DV.n_s_seq, DV.n_s_drop, DV.n_s_ret, DV.n_s_ifS, DV.n_s_asg, DV.n_s_augS, DV.n_s_tupAsg, DV.n_s_for, DV.n_whL_succ, DV.n_s_iseq, DV.n_s_irg, DV.n_s_izip, DV.n_s_lc, DV.n_lcL_cons, DV.n_s_fn, DV.n_s_mut, DV.n_s_store, DV.n_s_oSome, DV.n_s_sl, DV.n_s_sl3, DV.n_s_lrg1, DV.n_s_lrg2, DV.S0.loop_nx, DV.S0.loop_ct, DV.S0.loop_brk, DV.S0.loop_ret, DV.S0.loop_exc, DV.S0.loop_stuck, DV.S0.s_onG, DV.S0.s_onG0, DV.S0.s_onB, DV.S0.s_onI, DV.S0.s_onN, DV.S0.s_pkv, DV.S0.s_pkt, DV.S0.s_pks, DV.S0.s_pkS1, DV.S0.s_pkS2, DV.S0.s_pkS3, DV.S0.s_var, DV.S0.s_vr1, DV.S0.s_vr2, DV.S0.s_vr3, DV.S0.s_C, DV.S0.s_on, DV.S0.s_onV, DV.S0.s_onU, DV.S0.s_neg, DV.S0.s_II, DV.S0.s_IC, DV.S0.s_addI, DV.S0.s_addL, DV.S0.s_addT, DV.S0.s_addS, DV.S0.s_mulI, DV.S0.s_mulL, DV.S0.s_ixL, DV.S0.s_ixT, DV.S0.s_ixC, DV.S0.s_ANil, DV.S0.s_FNil, DV.S0.s_onF, DV.S0.s_fzv, DV.S0.s_fzt, DV.S0.s_fzs, DV.S0.s_fzS1, DV.S0.s_fzS2, DV.S0.s_peeks0, DV.S0.s_cons2, DV.S0.s_peeks, DV.S0.s_onLs, DV.S0.s_onL, DV.S0.s_lenL, DV.S0.s_lenT, DV.S0.s_lenC, DV.S0.s_listL, DV.S0.s_listT, DV.S0.s_tupleL, DV.S0.s_tupleT, DV.S0.s_intI, DV.S0.s_intB, DV.S0.s_abs, DV.S0.s_max2, DV.S0.s_min2, DV.S0.s_all, DV.S0.s_any, DV.S0.s_sum, DV.S0.s_asgv, DV.S0.s_asgt, DV.S0.s_asgs, DV.S0.s_asgS1, DV.S0.s_asgS2, DV.S0.s_asgS3, DV.S0.s_aug, DV.S0.s_onT, DV.S0.s_fzS0, DV.S0.s_fzSv, DV.S0.s_fzSt, DV.S0.s_fzSs, DV.S0.s_fzSk, DV.S0.s_many0, DV.S0.s_manyv, DV.S0.s_manyt, DV.S0.forL_nil, DV.S0.s_tg1, DV.S0.s_tgm, DV.S0.s_vals0, DV.S0.s_vals, DV.S0.s_itL, DV.S0.s_itT, DV.S0.s_rs1, DV.S0.s_rs2, DV.S0.s_onZL, DV.S0.s_onZT, DV.S0.lcL_nil, DV.S0.s_yes, DV.S0.s_onA, DV.S0.s_arg0, DV.S0.s_argV, DV.S0.s_argv, DV.S0.s_argB, DV.S0.s_argb, DV.S0.s_argi, DV.S0.s_setIo0, DV.S0.s_out0, DV.S0.s_out1, DV.S0.s_out1o, DV.S0.s_muO, DV.S0.s_onMut, DV.S0.s_onRc, DV.S0.s_rc, DV.S0.s_rcL, DV.S0.s_app, DV.S0.s_ext, DV.S0.s_popO, DV.S0.s_popAt, DV.S0.s_onFf, DV.S0.s_onSt, DV.S0.s_stO, DV.S0.s_gSt, DV.S0.s_stSo, DV.S0.s_stSi, DV.S0.s_onMuo, DV.S0.s_onMui, DV.S0.s_argIo, DV.S0.s_argIi, DV.S0.s_oNone, DV.S0.s_slL, DV.S0.s_slT, DV.S0.s_sl3L, DV.S0.s_run, DV.S0.s_endN, DV.S0.s_endR, DV.S0.s_endRp, DV.S0.s_endO, DV.S0.s_noExc, DV.S0.s_noX, DV.S0.s_resv, DV.S0.s_rest, DV.S0.s_ress, DV.S0.s_resS1, DV.S0.s_resS2, DV.S0.s_outs0, DV.S0.s_outC, DV.S0.s_outs, DV.S0.s_outAt, DV.S0.s_outS, DV.S0.s_ioIx0, DV.S0.s_ioIxv, DV.S0.s_ioIxb, DV.S0.s_ioIxi, DV.S0.s_init0, DV.S0.s_initv, DV.S0.s_initb, DV.S0.s_initi, DV.S0.s_wipe0, DV.S0.s_wipe, DV.S0.s_ap0, DV.S0.s_apv, DV.S0.s_api, DV.S0.s_apbv, DV.S0.s_apbt, DV.S0.s_apbs, DV.kOp2, DV.kOp, DV.kTest, DV.kNotT, DV.kAndT, DV.kOrT, DV.kBl, DV.kAndV, DV.kOrV, DV.kNotV, DV.kIf, DV.kCh2, DV.kCh, DV.kUn, DV.kAC2, DV.kAC, DV.kFC3, DV.kFC2, DV.kFC, DV.kAFC3, DV.kAFC2, DV.kAFC, DV.kLst, DV.kTup, DV.kCall, DV.kDrop, DV.kRet, DV.kIfS, DV.kAsg, DV.kAug, DV.kT, DV.kFor, DV.kWh, DV.kISeq, DV.kIRg, DV.kLC2, DV.kLC, DV.kL3, DV.kL2, DV.kL1, DV.kFn, DV.kMut3, DV.kMut2, DV.kMut, DV.kSt4, DV.kSt3, DV.kSt2, DV.kSt, DV.kOS, DV.kSl2, DV.kSl1, DV.kSl, DV.kSl33, DV.kSl32, DV.kSl31, DV.kSl3, DV.kLRg1, DV.kLRg22, DV.kLRg2, DV.kC2, DV.kC,
  Rs.bind_ok, Rs.bind_stuck, Rs.bind_exc, Rs.fl_ok, Rs.fl_stuck, Rs.fl_exc, Rs.wp_ok, Fl.seq_nx, Fl.seq_ret, Fl.seq_brk, Fl.seq_ct, Fl.seq_stuck, Fl.seq_exc,
  List.getElem?_cons_zero, List.getElem?_cons_succ, List.getElem?_nil, List.set_cons_zero, List.set_cons_succ, List.set_nil, List.cons_append, List.nil_append, List.append_nil, List.replicate, List.length_cons, List.length_nil, Nat.reduceAdd, Nat.reduceSub, Nat.zero_add, List.contains_nil, List.contains_cons, startL,
  Bool.and_true, Bool.true_and, Bool.and_false, Bool.false_and, Bool.or_true, Bool.true_or, Bool.or_false, Bool.false_or, Bool.not_true, Bool.not_false, if_true, if_false, reduceIte, reduceCtorEq, decide_true, decide_false, decide_eq_true_eq, Option.map_some, Option.map_none, Option.some_or, Option.none_or, Option.bind_some, Option.bind_none, Bool.false_eq_true, Nat.reduceLeDiff, Nat.reduceEqDiff, beq_iff_eq, Nat.reduceBEq, ne_eq, not_true_eq_false, not_false_eq_true, Option.some.injEq, Bool.not_eq_true', decide_eq_false_iff_not, Bool.not_not, L2.ixN, DV.atI_0, DV.atI_1, DV.atI_2, DV.atI_3, DV.atI_4, DV.atI_5, DV.atI_6, DV.atI_7, DV.atI_8, DV.atI_9, DV.atI_10, DV.atI_11, DV.atI_12, DV.atI_13, DV.atI_14, DV.atI_15, DV.atI_m1, DV.s_eqI, DV.s_neI, DV.s_eqB, DV.s_neB, Int.reduceLE, Int.reduceLT, Int.reduceNeg, Int.reduceToNat, Int.reduceAdd, Int.reduceMul, Int.reduceSub, Int.le_refl, Int.cast_ofNat_Int, Int.toNat_zero, Int.toNat_one, Int.reducePow, true_and, and_true, DV.isi_non_int, DV.isi_non_bool, DV.isi_non_str, DV.isi_non_list, DV.isi_non_tuple, DV.isi_non_seq, DV.isN_non, DV.isi_bl_int, DV.isi_bl_bool, DV.isi_bl_str, DV.isi_bl_list, DV.isi_bl_tuple, DV.isi_bl_seq, DV.isN_bl, DV.isi_int_int, DV.isi_int_bool, DV.isi_int_str, DV.isi_int_list, DV.isi_int_tuple, DV.isi_int_seq, DV.isN_int, DV.isi_str_int, DV.isi_str_bool, DV.isi_str_str, DV.isi_str_list, DV.isi_str_tuple, DV.isi_str_seq, DV.isN_str, DV.isi_lst_int, DV.isi_lst_bool, DV.isi_lst_str, DV.isi_lst_list, DV.isi_lst_tuple, DV.isi_lst_seq, DV.isN_lst, DV.isi_tup_int, DV.isi_tup_bool, DV.isi_tup_str, DV.isi_tup_list, DV.isi_tup_tuple, DV.isi_tup_seq, DV.isN_tup, DV.s_eqN, DV.s_neN, DV.b_tt, DV.b_tf, DV.b_ft, DV.b_ff, DV.n_s_unp, DV.kUnp, DV.s_unpT, DV.s_maxL, DV.s_minL, DV.s_onMM, DV.s_inL, DV.s_inT, DV.s_onIn, DV.s_onNotIn, DV.s_LRg2, DV.D.ints_ints])
local macro_rules | `(tactic| walk_at "dh") => `(tactic| simp only [
  DV.n_s_op, DV.n_s_test, DV.n_s_notT, DV.n_s_andT, DV.n_s_orT, DV.n_s_andV, DV.n_s_orV, DV.n_s_notV, DV.n_s_if, DV.n_s_onC, DV.n_s_chLeLt, DV.n_s_chLeLe, DV.n_s_chLtLe, DV.n_s_un, DV.n_s_ACons, DV.n_s_FCons, DV.n_s_AFCons, DV.n_s_lst, DV.n_s_tup, DV.n_s_call, DV.n_s_seq, DV.n_s_drop, DV.n_s_ret, DV.n_s_ifS, DV.n_s_asg, DV.n_s_augS, DV.n_s_tupAsg, DV.n_s_for, DV.n_whL_succ, DV.n_s_iseq, DV.n_s_irg, DV.n_s_izip, DV.n_s_lc, DV.n_lcL_cons, DV.n_s_fn, DV.n_s_mut, DV.n_s_store, DV.n_s_oSome, DV.n_s_sl, DV.n_s_sl3, DV.n_s_lrg1, DV.n_s_lrg2, DV.S0.loop_nx, DV.S0.loop_ct, DV.S0.loop_brk, DV.S0.loop_ret, DV.S0.loop_exc, DV.S0.loop_stuck, DV.S0.s_onG, DV.S0.s_onG0, DV.S0.s_onB, DV.S0.s_onI, DV.S0.s_onN, DV.S0.s_pkv, DV.S0.s_pkt, DV.S0.s_pks, DV.S0.s_pkS1, DV.S0.s_pkS2, DV.S0.s_pkS3, DV.S0.s_var, DV.S0.s_vr1, DV.S0.s_vr2, DV.S0.s_vr3, DV.S0.s_C, DV.S0.s_on, DV.S0.s_onV, DV.S0.s_onU, DV.S0.s_neg, DV.S0.s_II, DV.S0.s_IC, DV.S0.s_addI, DV.S0.s_addL, DV.S0.s_addT, DV.S0.s_addS, DV.S0.s_mulI, DV.S0.s_mulL, DV.S0.s_ixL, DV.S0.s_ixT, DV.S0.s_ixC, DV.S0.s_ANil, DV.S0.s_FNil, DV.S0.s_onF, DV.S0.s_fzv, DV.S0.s_fzt, DV.S0.s_fzs, DV.S0.s_fzS1, DV.S0.s_fzS2, DV.S0.s_peeks0, DV.S0.s_cons2, DV.S0.s_peeks, DV.S0.s_onLs, DV.S0.s_onL, DV.S0.s_lenL, DV.S0.s_lenT, DV.S0.s_lenC, DV.S0.s_listL, DV.S0.s_listT, DV.S0.s_tupleL, DV.S0.s_tupleT, DV.S0.s_intI, DV.S0.s_intB, DV.S0.s_abs, DV.S0.s_max2, DV.S0.s_min2, DV.S0.s_all, DV.S0.s_any, DV.S0.s_sum, DV.S0.s_asgv, DV.S0.s_asgt, DV.S0.s_asgs, DV.S0.s_asgS1, DV.S0.s_asgS2, DV.S0.s_asgS3, DV.S0.s_aug, DV.S0.s_onT, DV.S0.s_fzS0, DV.S0.s_fzSv, DV.S0.s_fzSt, DV.S0.s_fzSs, DV.S0.s_fzSk, DV.S0.s_many0, DV.S0.s_manyv, DV.S0.s_manyt, DV.S0.forL_nil, DV.S0.s_tg1, DV.S0.s_tgm, DV.S0.s_vals0, DV.S0.s_vals, DV.S0.s_itL, DV.S0.s_itT, DV.S0.s_rs1, DV.S0.s_rs2, DV.S0.s_onZL, DV.S0.s_onZT, DV.S0.lcL_nil, DV.S0.s_yes, DV.S0.s_onA, DV.S0.s_arg0, DV.S0.s_argV, DV.S0.s_argv, DV.S0.s_argB, DV.S0.s_argb, DV.S0.s_argi, DV.S0.s_setIo0, DV.S0.s_out0, DV.S0.s_out1, DV.S0.s_out1o, DV.S0.s_muO, DV.S0.s_onMut, DV.S0.s_onRc, DV.S0.s_rc, DV.S0.s_rcL, DV.S0.s_app, DV.S0.s_ext, DV.S0.s_popO, DV.S0.s_popAt, DV.S0.s_onFf, DV.S0.s_onSt, DV.S0.s_stO, DV.S0.s_gSt, DV.S0.s_stSo, DV.S0.s_stSi, DV.S0.s_onMuo, DV.S0.s_onMui, DV.S0.s_argIo, DV.S0.s_argIi, DV.S0.s_oNone, DV.S0.s_slL, DV.S0.s_slT, DV.S0.s_sl3L, DV.S0.s_run, DV.S0.s_endN, DV.S0.s_endR, DV.S0.s_endRp, DV.S0.s_endO, DV.S0.s_noExc, DV.S0.s_noX, DV.S0.s_resv, DV.S0.s_rest, DV.S0.s_ress, DV.S0.s_resS1, DV.S0.s_resS2, DV.S0.s_outs0, DV.S0.s_outC, DV.S0.s_outs, DV.S0.s_outAt, DV.S0.s_outS, DV.S0.s_ioIx0, DV.S0.s_ioIxv, DV.S0.s_ioIxb, DV.S0.s_ioIxi, DV.S0.s_init0, DV.S0.s_initv, DV.S0.s_initb, DV.S0.s_initi, DV.S0.s_wipe0, DV.S0.s_wipe, DV.S0.s_ap0, DV.S0.s_apv, DV.S0.s_api, DV.S0.s_apbv, DV.S0.s_apbt, DV.S0.s_apbs, DV.kOp2, DV.kOp, DV.kTest, DV.kNotT, DV.kAndT, DV.kOrT, DV.kBl, DV.kAndV, DV.kOrV, DV.kNotV, DV.kIf, DV.kCh2, DV.kCh, DV.kUn, DV.kAC2, DV.kAC, DV.kFC3, DV.kFC2, DV.kFC, DV.kAFC3, DV.kAFC2, DV.kAFC, DV.kLst, DV.kTup, DV.kCall, DV.kDrop, DV.kRet, DV.kIfS, DV.kAsg, DV.kAug, DV.kT, DV.kFor, DV.kWh, DV.kISeq, DV.kIRg, DV.kLC2, DV.kLC, DV.kL3, DV.kL2, DV.kL1, DV.kFn, DV.kMut3, DV.kMut2, DV.kMut, DV.kSt4, DV.kSt3, DV.kSt2, DV.kSt, DV.kOS, DV.kSl2, DV.kSl1, DV.kSl, DV.kSl33, DV.kSl32, DV.kSl31, DV.kSl3, DV.kLRg1, DV.kLRg22, DV.kLRg2, DV.kC2, DV.kC,
  Rs.bind_ok, Rs.bind_stuck, Rs.bind_exc, Rs.fl_ok, Rs.fl_stuck, Rs.fl_exc, Rs.wp_ok, Fl.seq_nx, Fl.seq_ret, Fl.seq_brk, Fl.seq_ct, Fl.seq_stuck, Fl.seq_exc,
  List.getElem?_cons_zero, List.getElem?_cons_succ, List.getElem?_nil, List.set_cons_zero, List.set_cons_succ, List.set_nil, List.cons_append, List.nil_append, List.append_nil, List.replicate, List.length_cons, List.length_nil, Nat.reduceAdd, Nat.reduceSub, Nat.zero_add, List.contains_nil, List.contains_cons, startL,
  Bool.and_true, Bool.true_and, Bool.and_false, Bool.false_and, Bool.or_true, Bool.true_or, Bool.or_false, Bool.false_or, Bool.not_true, Bool.not_false, if_true, if_false, reduceIte, reduceCtorEq, decide_true, decide_false, decide_eq_true_eq, Option.map_some, Option.map_none, Option.some_or, Option.none_or, Option.bind_some, Option.bind_none, Bool.false_eq_true, Nat.reduceLeDiff, Nat.reduceEqDiff, beq_iff_eq, Nat.reduceBEq, ne_eq, not_true_eq_false, not_false_eq_true, Option.some.injEq, Bool.not_eq_true', decide_eq_false_iff_not, Bool.not_not, L2.ixN, DV.atI_0, DV.atI_1, DV.atI_2, DV.atI_3, DV.atI_4, DV.atI_5, DV.atI_6, DV.atI_7, DV.atI_8, DV.atI_9, DV.atI_10, DV.atI_11, DV.atI_12, DV.atI_13, DV.atI_14, DV.atI_15, DV.atI_m1, DV.s_eqI, DV.s_neI, DV.s_eqB, DV.s_neB, Int.reduceLE, Int.reduceLT, Int.reduceNeg, Int.reduceToNat, Int.reduceAdd, Int.reduceMul, Int.reduceSub, Int.le_refl, Int.cast_ofNat_Int, Int.toNat_zero, Int.toNat_one, Int.reducePow, true_and, and_true, DV.isi_non_int, DV.isi_non_bool, DV.isi_non_str, DV.isi_non_list, DV.isi_non_tuple, DV.isi_non_seq, DV.isN_non, DV.isi_bl_int, DV.isi_bl_bool, DV.isi_bl_str, DV.isi_bl_list, DV.isi_bl_tuple, DV.isi_bl_seq, DV.isN_bl, DV.isi_int_int, DV.isi_int_bool, DV.isi_int_str, DV.isi_int_list, DV.isi_int_tuple, DV.isi_int_seq, DV.isN_int, DV.isi_str_int, DV.isi_str_bool, DV.isi_str_str, DV.isi_str_list, DV.isi_str_tuple, DV.isi_str_seq, DV.isN_str, DV.isi_lst_int, DV.isi_lst_bool, DV.isi_lst_str, DV.isi_lst_list, DV.isi_lst_tuple, DV.isi_lst_seq, DV.isN_lst, DV.isi_tup_int, DV.isi_tup_bool, DV.isi_tup_str, DV.isi_tup_list, DV.isi_tup_tuple, DV.isi_tup_seq, DV.isN_tup, DV.s_eqN, DV.s_neN, DV.b_tt, DV.b_tf, DV.b_ft, DV.b_ff, DV.n_s_unp, DV.kUnp, DV.s_unpT, DV.s_maxL, DV.s_minL, DV.s_onMM, DV.s_inL, DV.s_inT, DV.s_onIn, DV.s_onNotIn, DV.s_LRg2, DV.D.ints_ints, *])
/-! ### sums of fractions -/
def MM : Nat := 21300003648000
def FOk (p : Nat × Nat) : Prop := 0 < p.2 ∧ p.2 ∣ MM ∧ p.1 ≤ 5000 ∧ p.2 ≤ 5000
def addF (s p : Nat × Nat) : Nat × Nat := ((s.1 * p.2 + p.1 * s.2) / Nat.gcd (s.1 * p.2 + p.1 * s.2) (s.2 * p.2), (s.2 * p.2) / Nat.gcd (s.1 * p.2 + p.1 * s.2) (s.2 * p.2))
def sumF (ps : List (Nat × Nat)) : Nat × Nat := ps.foldl addF (0, 1)
def dP (p : Nat × Nat) : D := .tup [.int (p.1 : Int), .int (p.2 : Int)]
theorem s_ixP0 (p : Nat × Nat) : gIx (dP p) (.int 0) = some (.v (.int p.1)) := rfl
theorem s_ixP1 (p : Nat × Nat) : gIx (dP p) (.int 1) = some (.v (.int p.2)) := rfl
theorem addF_ok {s p : Nat × Nat} (h1 : 0 < s.2) (h2 : s.2 ∣ MM) (h3 : 0 < p.2) (h4 : p.2 ∣ MM) : 0 < (addF s p).2 ∧ (addF s p).2 ∣ MM := by
  unfold addF
  generalize hN : s.1 * p.2 + p.1 * s.2 = N
  have hD : 0 < s.2 * p.2 := Nat.mul_pos h1 h3
  have hg : 0 < Nat.gcd N (s.2 * p.2) := Nat.gcd_pos_of_pos_right _ hD
  have hgd : Nat.gcd N (s.2 * p.2) ∣ s.2 * p.2 := Nat.gcd_dvd_right _ _
  refine ⟨Nat.div_pos (Nat.le_of_dvd hD hgd) hg, ?_⟩
  have a1 : s.2 * p.2 ∣ MM * N := by
    obtain ⟨k1, e1⟩ := h2
    obtain ⟨k2, e2⟩ := h4
    refine ⟨k1 * s.1 + k2 * p.1, ?_⟩
    rw [← hN, Nat.mul_add, Nat.mul_add]
    congr 1
    · rw [e1]; simp only [Nat.mul_comm, Nat.mul_left_comm, Nat.mul_assoc]
    · rw [e2]; simp only [Nat.mul_comm, Nat.mul_left_comm, Nat.mul_assoc]
  have a2 : s.2 * p.2 ∣ MM * Nat.gcd N (s.2 * p.2) := by
    rw [← Nat.gcd_mul_left]
    exact Nat.dvd_gcd a1 (Nat.dvd_mul_left _ _)
  have a3 : (s.2 * p.2) / Nat.gcd N (s.2 * p.2) * Nat.gcd N (s.2 * p.2) ∣ MM * Nat.gcd N (s.2 * p.2) := by
    rw [Nat.div_mul_cancel hgd]; exact a2
  exact Nat.dvd_of_mul_dvd_mul_right hg a3
theorem sumF_ok : ∀ (ps : List (Nat × Nat)) (s : Nat × Nat), 0 < s.2 → s.2 ∣ MM → (∀ p ∈ ps, FOk p) → 0 < (ps.foldl addF s).2 ∧ (ps.foldl addF s).2 ∣ MM
  | [], s, h1, h2, _ => ⟨h1, h2⟩
  | p :: ps, s, h1, h2, h => by
    obtain ⟨k1, k2, _⟩ := h p (by simp)
    obtain ⟨j1, j2⟩ := addF_ok h1 h2 k1 k2
    exact sumF_ok ps (addF s p) j1 j2 fun q hq => h q (by simp [hq])
theorem sumF_take {ps : List (Nat × Nat)} {j : Nat} {p : Nat × Nat} (h : ps[j]? = some p) : sumF (ps.take (j + 1)) = addF (sumF (ps.take j)) p := by
  unfold sumF
  rw [List.take_add_one, h, List.foldl_append]
  rfl
theorem sumF_pre {ps : List (Nat × Nat)} (h : ∀ p ∈ ps, FOk p) (j : Nat) : 0 < (sumF (ps.take j)).2 ∧ (sumF (ps.take j)).2 ∣ MM :=
  sumF_ok _ _ (by decide) (Nat.one_dvd _) fun p hp => h p (List.mem_of_mem_take hp)
theorem mm_le {n : Nat} (h : n ∣ MM) : n ≤ 21300003648000 := Nat.le_of_dvd (by decide) h
theorem frac_red {s p : Nat × Nat} (h1 : 0 < s.2) (h2 : s.2 ∣ MM) (h : FOk p) : M_reduced [.int ((s.1 : Int) * (p.2 : Int) + (p.1 : Int) * (s.2 : Int)), .int ((s.2 : Int) * (p.2 : Int))] = .ok false (dP (addF s p)) [] := by
  obtain ⟨k1, k2, k3, k4⟩ := h
  have hm := mm_le h2
  have hb : s.2 * p.2 ≤ 21300003648000 * 5000 := Nat.mul_le_mul hm k4
  have := mreduced (a := s.1 * p.2 + p.1 * s.2) (b := s.2 * p.2) (Nat.mul_pos h1 k1) (by omega)
  rw [Int.natCast_add, Int.natCast_mul, Int.natCast_mul, Int.natCast_mul] at this
  exact this
theorem frac_part {s p : Nat × Nat} (h1 : 0 < s.2) (h2 : s.2 ∣ MM) (h : FOk p) : M_Lpart [.int ((s.1 : Int) * (p.2 : Int) + (p.1 : Int) * (s.2 : Int)), .int ((s.2 : Int) * (p.2 : Int))] = .ok false (dP (addF s p)) [] := by
  obtain ⟨k1, k2, k3, k4⟩ := h
  have hm := mm_le h2
  have hb : s.2 * p.2 ≤ 21300003648000 * 5000 := Nat.mul_le_mul hm k4
  have := mpart (a := s.1 * p.2 + p.1 * s.2) (b := s.2 * p.2) (Nat.mul_pos h1 k1) (by omega)
  rw [Int.natCast_add, Int.natCast_mul, Int.natCast_mul, Int.natCast_mul] at this
  exact this
def addB : DS := (dAsg 1 (dFn [.val, .val] M_reduced (dAFCons (dOp gAdd (dOp gMul (dOp gIx (dVar 1) (dC (.int 0))) (dVar 3)) (dOp gMul (dVar 2) (dOp gIx (dVar 1) (dC (.int 1))))) (dAFCons (dOp gMul (dOp gIx (dVar 1) (dC (.int 1))) (dVar 3)) dANil))))
theorem add_step {F S T : D} {x y a b : Int} (x0 : gIx S (.int 0) = some (.v (.int x))) (x1 : gIx S (.int 1) = some (.v (.int y))) (m1 : mulOk x b = true) (m2 : mulOk a y = true) (m3 : mulOk y b = true)
    (h : M_reduced [.int (x * b + a * y), .int (y * b)] = .ok false T []) : addB [.val F, .val S, .val (.int a), .val (.int b)] = .nx [.val F, .val T, .val (.int a), .val (.int b)] := by
  unfold addB
  generalize M_reduced = m at *
  walk_at "dh"
def sumB : DS := (dSeq (dAsg 1 (dOp gAdd (dOp gMul (dVar 1) (dOp gIx (dVar 3) (dC (.int 1)))) (dOp gMul (dOp gIx (dVar 3) (dC (.int 0))) (dVar 2)))) (dSeq (dAsg 4 (dFn [.val, .val] M_Lpart (dAFCons (dVar 1) (dAFCons (dOp gMul (dVar 2) (dOp gIx (dVar 3) (dC (.int 1)))) dANil)))) (dTupAsg [1, 2] (dACons (dOp gIx (dVar 4) (dC (.int 0))) (dACons (dOp gIx (dVar 4) (dC (.int 1))) dANil)))))
theorem sum_step {F S T : D} {s4 : Sl} {x y a b u v : Int} (x0 : gIx S (.int 0) = some (.v (.int a))) (x1 : gIx S (.int 1) = some (.v (.int b))) (x2 : gIx T (.int 0) = some (.v (.int u))) (x3 : gIx T (.int 1) = some (.v (.int v))) (m1 : mulOk x b = true) (m2 : mulOk a y = true) (m3 : mulOk y b = true)
    (h : M_Lpart [.int (x * b + a * y), .int (y * b)] = .ok false T []) : sumB [.val F, .val (.int x), .val (.int y), .val S, s4] = .nx [.val F, .val (.int u), .val (.int v), .val S, .val T] := by
  unfold sumB
  generalize M_Lpart = m at *
  walk_at "dh"
theorem madded {ps : List (Nat × Nat)} (h : ∀ p ∈ ps, FOk p) : M_added [.lst (ps.map dP)] = .ok false (dP (sumF ps)) [] := by
  have hl := for_inv (t := .many [2, 3]) (g := addB) (I := fun k L => ∃ s2 s3, L = [.val (.lst (ps.map dP)), .val (dP (sumF (ps.take k))), s2, s3]) (ps.map dP) 0 [.val (.lst (ps.map dP)), .val (.tup [.int 0, .int 1]), .un, .un] ⟨.un, .un, rfl⟩ ?_
  · obtain ⟨L', k1, s2, s3, rfl⟩ := hl
    rw [Nat.zero_add, List.length_map, List.take_length] at k1
    have e : lenOk 2 = true := rfl
    show noExc (runF [.val] 4 g_added) _ = _
    unfold g_added
    unfold addB at k1
    generalize dP (sumF ps) = S at *
    generalize dAsg 1 (dFn _ _ _) = W at *
    generalize ps.map dP = Ps at *
    walk_at "dh"
  · intro j d L hd hI
    obtain ⟨s2, s3, rfl⟩ := hI
    rw [Nat.zero_add] at *
    rw [List.getElem?_map] at hd
    cases hp : ps[j]? with
    | none => rw [hp] at hd; cases hd
    | some p =>
      rw [hp] at hd
      cases hd
      have fp := h p (List.mem_of_getElem? hp)
      obtain ⟨y1, y2⟩ := sumF_pre h j
      refine ⟨[.val (.lst (ps.map dP)), .val (dP (sumF (ps.take j))), .val (.int p.1), .val (.int p.2)], _, rfl, .inl (add_step (s_ixP0 _) (s_ixP1 _) (mulOk_r ?_) (mulOk_l ?_) (mulOk_r ?_) (frac_red y1 y2 fp)), .val (.int p.1), .val (.int p.2), ?_⟩
      · have := fp.2.2.2; omega
      · have := fp.2.2.1; omega
      · have := fp.2.2.2; omega
      · rw [sumF_take hp]
theorem msum {ps : List (Nat × Nat)} (h : ∀ p ∈ ps, FOk p) : M_Lsum_of [.lst (ps.map dP)] = .ok false (dP (sumF ps)) [] := by
  have hl := for_inv (t := .one 3) (g := sumB) (I := fun k L => ∃ s3 s4, L = [.val (.lst (ps.map dP)), .val (.int (sumF (ps.take k)).1), .val (.int (sumF (ps.take k)).2), s3, s4]) (ps.map dP) 0 [.val (.lst (ps.map dP)), .val (.int 0), .val (.int 1), .un, .un] ⟨.un, .un, rfl⟩ ?_
  · obtain ⟨L', k1, s2, s3, rfl⟩ := hl
    rw [Nat.zero_add, List.length_map, List.take_length] at k1
    have e : lenOk 2 = true := rfl
    show noExc (runF [.val] 5 g_Lsum_of) _ = .ok false (.tup [.int ((sumF ps).1 : Int), .int ((sumF ps).2 : Int)]) []
    unfold g_Lsum_of
    unfold sumB at k1
    generalize ((sumF ps).1 : Int) = S at *
    generalize ((sumF ps).2 : Int) = S2 at *
    generalize dSeq (dAsg 1 _) _ = W at *
    generalize ps.map dP = Ps at *
    walk_at "dh"
  · intro j d L hd hI
    obtain ⟨s3, s4, rfl⟩ := hI
    rw [Nat.zero_add] at *
    rw [List.getElem?_map] at hd
    cases hp : ps[j]? with
    | none => rw [hp] at hd; cases hd
    | some p =>
      rw [hp] at hd
      cases hd
      have fp := h p (List.mem_of_getElem? hp)
      obtain ⟨y1, y2⟩ := sumF_pre h j
      refine ⟨_, _, S0.s_tg1 .., .inl (sum_step (s_ixP0 _) (s_ixP1 _) (s_ixP0 _) (s_ixP1 _) (mulOk_r ?_) (mulOk_l ?_) (mulOk_r ?_) (frac_part y1 y2 fp)), .val (dP p), .val (dP (addF (sumF (ps.take j)) p)), ?_⟩
      · have := fp.2.2.2; omega
      · have := fp.2.2.1; omega
      · have := fp.2.2.2; omega
      · rw [sumF_take hp]

end K79
end
section
set_option Elab.async false
set_option linter.all false
set_option maxRecDepth 100000
set_option maxHeartbeats 4000000
namespace K79
open PySem PySem.Spec PyProof.Rows L2 DV
local macro_rules | `(tactic| walk_at "ds") => `(tactic| simp only [
  DV.n_s_op, DV.n_s_test, DV.n_s_notT, DV.n_s_andT, DV.n_s_orT, DV.n_s_andV, DV.n_s_orV, DV.n_s_notV, DV.n_s_if, DV.n_s_onC, DV.n_s_chLeLt, DV.n_s_chLeLe, DV.n_s_chLtLe, DV.n_s_un, DV.n_s_ACons, DV.n_s_FCons, DV.n_s_AFCons, DV.n_s_lst, DV.n_s_tup, DV.n_s_call, DV.n_s_seq, DV.n_s_drop, DV.n_s_ret, DV.n_s_ifS, DV.n_s_asg, DV.n_s_augS, DV.n_s_tupAsg, DV.n_s_for, DV.n_whL_succ, DV.n_s_iseq, DV.n_s_irg, DV.n_s_izip, DV.n_s_lc, DV.n_lcL_cons, DV.n_s_fn, DV.n_s_mut, DV.n_s_store, DV.n_s_oSome, DV.n_s_sl, DV.n_s_sl3, DV.n_s_lrg1, DV.n_s_lrg2, DV.S0.loop_nx, DV.S0.loop_ct, DV.S0.loop_brk, DV.S0.loop_ret, DV.S0.loop_exc, DV.S0.loop_stuck, DV.S0.s_onG, DV.S0.s_onG0, DV.S0.s_onB, DV.S0.s_onI, DV.S0.s_onN, DV.S0.s_pkv, DV.S0.s_pkt, DV.S0.s_pks, DV.S0.s_pkS1, DV.S0.s_pkS2, DV.S0.s_pkS3, DV.S0.s_var, DV.S0.s_vr1, DV.S0.s_vr2, DV.S0.s_vr3, DV.S0.s_C, DV.S0.s_on, DV.S0.s_onV, DV.S0.s_onU, DV.S0.s_neg, DV.S0.s_II, DV.S0.s_IC, DV.S0.s_addI, DV.S0.s_addL, DV.S0.s_addT, DV.S0.s_addS, DV.S0.s_mulI, DV.S0.s_mulL, DV.S0.s_ixL, DV.S0.s_ixT, DV.S0.s_ixC, DV.S0.s_ANil, DV.S0.s_FNil, DV.S0.s_onF, DV.S0.s_fzv, DV.S0.s_fzt, DV.S0.s_fzs, DV.S0.s_fzS1, DV.S0.s_fzS2, DV.S0.s_peeks0, DV.S0.s_cons2, DV.S0.s_peeks, DV.S0.s_onLs, DV.S0.s_onL, DV.S0.s_lenL, DV.S0.s_lenT, DV.S0.s_lenC, DV.S0.s_listL, DV.S0.s_listT, DV.S0.s_tupleL, DV.S0.s_tupleT, DV.S0.s_intI, DV.S0.s_intB, DV.S0.s_abs, DV.S0.s_max2, DV.S0.s_min2, DV.S0.s_all, DV.S0.s_any, DV.S0.s_sum, DV.S0.s_asgv, DV.S0.s_asgt, DV.S0.s_asgs, DV.S0.s_asgS1, DV.S0.s_asgS2, DV.S0.s_asgS3, DV.S0.s_aug, DV.S0.s_onT, DV.S0.s_fzS0, DV.S0.s_fzSv, DV.S0.s_fzSt, DV.S0.s_fzSs, DV.S0.s_fzSk, DV.S0.s_many0, DV.S0.s_manyv, DV.S0.s_manyt, DV.S0.forL_nil, DV.S0.s_tg1, DV.S0.s_tgm, DV.S0.s_vals0, DV.S0.s_vals, DV.S0.s_itL, DV.S0.s_itT, DV.S0.s_rs1, DV.S0.s_rs2, DV.S0.s_onZL, DV.S0.s_onZT, DV.S0.lcL_nil, DV.S0.s_yes, DV.S0.s_onA, DV.S0.s_arg0, DV.S0.s_argV, DV.S0.s_argv, DV.S0.s_argB, DV.S0.s_argb, DV.S0.s_argi, DV.S0.s_setIo0, DV.S0.s_out0, DV.S0.s_out1, DV.S0.s_out1o, DV.S0.s_muO, DV.S0.s_onMut, DV.S0.s_onRc, DV.S0.s_rc, DV.S0.s_rcL, DV.S0.s_app, DV.S0.s_ext, DV.S0.s_popO, DV.S0.s_popAt, DV.S0.s_onFf, DV.S0.s_onSt, DV.S0.s_stO, DV.S0.s_gSt, DV.S0.s_stSo, DV.S0.s_stSi, DV.S0.s_onMuo, DV.S0.s_onMui, DV.S0.s_argIo, DV.S0.s_argIi, DV.S0.s_oNone, DV.S0.s_slL, DV.S0.s_slT, DV.S0.s_sl3L, DV.S0.s_run, DV.S0.s_endN, DV.S0.s_endR, DV.S0.s_endRp, DV.S0.s_endO, DV.S0.s_noExc, DV.S0.s_noX, DV.S0.s_resv, DV.S0.s_rest, DV.S0.s_ress, DV.S0.s_resS1, DV.S0.s_resS2, DV.S0.s_outs0, DV.S0.s_outC, DV.S0.s_outs, DV.S0.s_outAt, DV.S0.s_outS, DV.S0.s_ioIx0, DV.S0.s_ioIxv, DV.S0.s_ioIxb, DV.S0.s_ioIxi, DV.S0.s_init0, DV.S0.s_initv, DV.S0.s_initb, DV.S0.s_initi, DV.S0.s_wipe0, DV.S0.s_wipe, DV.S0.s_ap0, DV.S0.s_apv, DV.S0.s_api, DV.S0.s_apbv, DV.S0.s_apbt, DV.S0.s_apbs, DV.kOp2, DV.kOp, DV.kTest, DV.kNotT, DV.kAndT, DV.kOrT, DV.kBl, DV.kAndV, DV.kOrV, DV.kNotV, DV.kIf, DV.kCh2, DV.kCh, DV.kUn, DV.kAC2, DV.kAC, DV.kFC3, DV.kFC2, DV.kFC, DV.kAFC3, DV.kAFC2, DV.kAFC, DV.kLst, DV.kTup, DV.kCall, DV.kDrop, DV.kRet, DV.kIfS, DV.kAsg, DV.kAug, DV.kT, DV.kFor, DV.kWh, DV.kISeq, DV.kIRg, DV.kLC2, DV.kLC, DV.kL3, DV.kL2, DV.kL1, DV.kFn, DV.kMut3, DV.kMut2, DV.kMut, DV.kSt4, DV.kSt3, DV.kSt2, DV.kSt, DV.kOS, DV.kSl2, DV.kSl1, DV.kSl, DV.kSl33, DV.kSl32, DV.kSl31, DV.kSl3, DV.kLRg1, DV.kLRg22, DV.kLRg2, DV.kC2, DV.kC,
  Rs.bind_ok, Rs.bind_stuck, Rs.bind_exc, Rs.fl_ok, Rs.fl_stuck, Rs.fl_exc, Rs.wp_ok, Fl.seq_nx, Fl.seq_ret, Fl.seq_brk, Fl.seq_ct, Fl.seq_stuck, Fl.seq_exc,
  List.getElem?_cons_zero, List.getElem?_cons_succ, List.getElem?_nil, List.set_cons_zero, List.set_cons_succ, List.set_nil, List.cons_append, List.nil_append, List.append_nil, List.replicate, List.length_cons, List.length_nil, Nat.reduceAdd, Nat.reduceSub, Nat.zero_add, List.contains_nil, List.contains_cons, startL,
  Bool.and_true, Bool.true_and, Bool.and_false, Bool.false_and, Bool.or_true, Bool.true_or, Bool.or_false, Bool.false_or, Bool.not_true, Bool.not_false, if_true, if_false, reduceIte, reduceCtorEq, decide_true, decide_false, decide_eq_true_eq, Option.map_some, Option.map_none, Option.some_or, Option.none_or, Option.bind_some, Option.bind_none, Bool.false_eq_true, Nat.reduceLeDiff, Nat.reduceEqDiff, beq_iff_eq, Nat.reduceBEq, ne_eq, not_true_eq_false, not_false_eq_true, Option.some.injEq, Bool.not_eq_true', decide_eq_false_iff_not, Bool.not_not, L2.ixN, DV.atI_0, DV.atI_1, DV.atI_2, DV.atI_3, DV.atI_4, DV.atI_5, DV.atI_6, DV.atI_7, DV.atI_8, DV.atI_9, DV.atI_10, DV.atI_11, DV.atI_12, DV.atI_13, DV.atI_14, DV.atI_15, DV.atI_m1, DV.s_eqI, DV.s_neI, DV.s_eqB, DV.s_neB, Int.reduceLE, Int.reduceLT, Int.reduceNeg, Int.reduceToNat, Int.reduceAdd, Int.reduceMul, Int.reduceSub, Int.le_refl, Int.cast_ofNat_Int, Int.toNat_zero, Int.toNat_one, Int.reducePow, true_and, and_true, DV.isi_non_int, DV.isi_non_bool, DV.isi_non_str, DV.isi_non_list, DV.isi_non_tuple, DV.isi_non_seq, DV.isN_non, DV.isi_bl_int, DV.isi_bl_bool, DV.isi_bl_str, DV.isi_bl_list, DV.isi_bl_tuple, DV.isi_bl_seq, DV.isN_bl, DV.isi_int_int, DV.isi_int_bool, DV.isi_int_str, DV.isi_int_list, DV.isi_int_tuple, DV.isi_int_seq, DV.isN_int, DV.isi_str_int, DV.isi_str_bool, DV.isi_str_str, DV.isi_str_list, DV.isi_str_tuple, DV.isi_str_seq, DV.isN_str, DV.isi_lst_int, DV.isi_lst_bool, DV.isi_lst_str, DV.isi_lst_list, DV.isi_lst_tuple, DV.isi_lst_seq, DV.isN_lst, DV.isi_tup_int, DV.isi_tup_bool, DV.isi_tup_str, DV.isi_tup_list, DV.isi_tup_tuple, DV.isi_tup_seq, DV.isN_tup, DV.s_eqN, DV.s_neN, DV.b_tt, DV.b_tf, DV.b_ft, DV.b_ff, DV.n_s_unp, DV.kUnp, DV.s_unpT, DV.s_maxL, DV.s_minL, DV.s_onMM, DV.s_inL, DV.s_inT, DV.s_onIn, DV.s_onNotIn, DV.s_LRg2, DV.D.ints_ints])
local macro_rules | `(tactic| walk_at "dh") => `(tactic| simp only [
  DV.n_s_op, DV.n_s_test, DV.n_s_notT, DV.n_s_andT, DV.n_s_orT, DV.n_s_andV, DV.n_s_orV, DV.n_s_notV, DV.n_s_if, DV.n_s_onC, DV.n_s_chLeLt, DV.n_s_chLeLe, DV.n_s_chLtLe, DV.n_s_un, DV.n_s_ACons, DV.n_s_FCons, DV.n_s_AFCons, DV.n_s_lst, DV.n_s_tup, DV.n_s_call, DV.n_s_seq, DV.n_s_drop, DV.n_s_ret, DV.n_s_ifS, DV.n_s_asg, DV.n_s_augS, DV.n_s_tupAsg, DV.n_s_for, DV.n_whL_succ, DV.n_s_iseq, DV.n_s_irg, DV.n_s_izip, DV.n_s_lc, DV.n_lcL_cons, DV.n_s_fn, DV.n_s_mut, DV.n_s_store, DV.n_s_oSome, DV.n_s_sl, DV.n_s_sl3, DV.n_s_lrg1, DV.n_s_lrg2, DV.S0.loop_nx, DV.S0.loop_ct, DV.S0.loop_brk, DV.S0.loop_ret, DV.S0.loop_exc, DV.S0.loop_stuck, DV.S0.s_onG, DV.S0.s_onG0, DV.S0.s_onB, DV.S0.s_onI, DV.S0.s_onN, DV.S0.s_pkv, DV.S0.s_pkt, DV.S0.s_pks, DV.S0.s_pkS1, DV.S0.s_pkS2, DV.S0.s_pkS3, DV.S0.s_var, DV.S0.s_vr1, DV.S0.s_vr2, DV.S0.s_vr3, DV.S0.s_C, DV.S0.s_on, DV.S0.s_onV, DV.S0.s_onU, DV.S0.s_neg, DV.S0.s_II, DV.S0.s_IC, DV.S0.s_addI, DV.S0.s_addL, DV.S0.s_addT, DV.S0.s_addS, DV.S0.s_mulI, DV.S0.s_mulL, DV.S0.s_ixL, DV.S0.s_ixT, DV.S0.s_ixC, DV.S0.s_ANil, DV.S0.s_FNil, DV.S0.s_onF, DV.S0.s_fzv, DV.S0.s_fzt, DV.S0.s_fzs, DV.S0.s_fzS1, DV.S0.s_fzS2, DV.S0.s_peeks0, DV.S0.s_cons2, DV.S0.s_peeks, DV.S0.s_onLs, DV.S0.s_onL, DV.S0.s_lenL, DV.S0.s_lenT, DV.S0.s_lenC, DV.S0.s_listL, DV.S0.s_listT, DV.S0.s_tupleL, DV.S0.s_tupleT, DV.S0.s_intI, DV.S0.s_intB, DV.S0.s_abs, DV.S0.s_max2, DV.S0.s_min2, DV.S0.s_all, DV.S0.s_any, DV.S0.s_sum, DV.S0.s_asgv, DV.S0.s_asgt, DV.S0.s_asgs, DV.S0.s_asgS1, DV.S0.s_asgS2, DV.S0.s_asgS3, DV.S0.s_aug, DV.S0.s_onT, DV.S0.s_fzS0, DV.S0.s_fzSv, DV.S0.s_fzSt, DV.S0.s_fzSs, DV.S0.s_fzSk, DV.S0.s_many0, DV.S0.s_manyv, DV.S0.s_manyt, DV.S0.forL_nil, DV.S0.s_tg1, DV.S0.s_tgm, DV.S0.s_vals0, DV.S0.s_vals, DV.S0.s_itL, DV.S0.s_itT, DV.S0.s_rs1, DV.S0.s_rs2, DV.S0.s_onZL, DV.S0.s_onZT, DV.S0.lcL_nil, DV.S0.s_yes, DV.S0.s_onA, DV.S0.s_arg0, DV.S0.s_argV, DV.S0.s_argv, DV.S0.s_argB, DV.S0.s_argb, DV.S0.s_argi, DV.S0.s_setIo0, DV.S0.s_out0, DV.S0.s_out1, DV.S0.s_out1o, DV.S0.s_muO, DV.S0.s_onMut, DV.S0.s_onRc, DV.S0.s_rc, DV.S0.s_rcL, DV.S0.s_app, DV.S0.s_ext, DV.S0.s_popO, DV.S0.s_popAt, DV.S0.s_onFf, DV.S0.s_onSt, DV.S0.s_stO, DV.S0.s_gSt, DV.S0.s_stSo, DV.S0.s_stSi, DV.S0.s_onMuo, DV.S0.s_onMui, DV.S0.s_argIo, DV.S0.s_argIi, DV.S0.s_oNone, DV.S0.s_slL, DV.S0.s_slT, DV.S0.s_sl3L, DV.S0.s_run, DV.S0.s_endN, DV.S0.s_endR, DV.S0.s_endRp, DV.S0.s_endO, DV.S0.s_noExc, DV.S0.s_noX, DV.S0.s_resv, DV.S0.s_rest, DV.S0.s_ress, DV.S0.s_resS1, DV.S0.s_resS2, DV.S0.s_outs0, DV.S0.s_outC, DV.S0.s_outs, DV.S0.s_outAt, DV.S0.s_outS, DV.S0.s_ioIx0, DV.S0.s_ioIxv, DV.S0.s_ioIxb, DV.S0.s_ioIxi, DV.S0.s_init0, DV.S0.s_initv, DV.S0.s_initb, DV.S0.s_initi, DV.S0.s_wipe0, DV.S0.s_wipe, DV.S0.s_ap0, DV.S0.s_apv, DV.S0.s_api, DV.S0.s_apbv, DV.S0.s_apbt, DV.S0.s_apbs, DV.kOp2, DV.kOp, DV.kTest, DV.kNotT, DV.kAndT, DV.kOrT, DV.kBl, DV.kAndV, DV.kOrV, DV.kNotV, DV.kIf, DV.kCh2, DV.kCh, DV.kUn, DV.kAC2, DV.kAC, DV.kFC3, DV.kFC2, DV.kFC, DV.kAFC3, DV.kAFC2, DV.kAFC, DV.kLst, DV.kTup, DV.kCall, DV.kDrop, DV.kRet, DV.kIfS, DV.kAsg, DV.kAug, DV.kT, DV.kFor, DV.kWh, DV.kISeq, DV.kIRg, DV.kLC2, DV.kLC, DV.kL3, DV.kL2, DV.kL1, DV.kFn, DV.kMut3, DV.kMut2, DV.kMut, DV.kSt4, DV.kSt3, DV.kSt2, DV.kSt, DV.kOS, DV.kSl2, DV.kSl1, DV.kSl, DV.kSl33, DV.kSl32, DV.kSl31, DV.kSl3, DV.kLRg1, DV.kLRg22, DV.kLRg2, DV.kC2, DV.kC,
  Rs.bind_ok, Rs.bind_stuck, Rs.bind_exc, Rs.fl_ok, Rs.fl_stuck, Rs.fl_exc, Rs.wp_ok, Fl.seq_nx, Fl.seq_ret, Fl.seq_brk, Fl.seq_ct, Fl.seq_stuck, Fl.seq_exc,
  List.getElem?_cons_zero, List.getElem?_cons_succ, List.getElem?_nil, List.set_cons_zero, List.set_cons_succ, List.set_nil, List.cons_append, List.nil_append, List.append_nil, List.replicate, List.length_cons, List.length_nil, Nat.reduceAdd, Nat.reduceSub, Nat.zero_add, List.contains_nil, List.contains_cons, startL,
  Bool.and_true, Bool.true_and, Bool.and_false, Bool.false_and, Bool.or_true, Bool.true_or, Bool.or_false, Bool.false_or, Bool.not_true, Bool.not_false, if_true, if_false, reduceIte, reduceCtorEq, decide_true, decide_false, decide_eq_true_eq, Option.map_some, Option.map_none, Option.some_or, Option.none_or, Option.bind_some, Option.bind_none, Bool.false_eq_true, Nat.reduceLeDiff, Nat.reduceEqDiff, beq_iff_eq, Nat.reduceBEq, ne_eq, not_true_eq_false, not_false_eq_true, Option.some.injEq, Bool.not_eq_true', decide_eq_false_iff_not, Bool.not_not, L2.ixN, DV.atI_0, DV.atI_1, DV.atI_2, DV.atI_3, DV.atI_4, DV.atI_5, DV.atI_6, DV.atI_7, DV.atI_8, DV.atI_9, DV.atI_10, DV.atI_11, DV.atI_12, DV.atI_13, DV.atI_14, DV.atI_15, DV.atI_m1, DV.s_eqI, DV.s_neI, DV.s_eqB, DV.s_neB, Int.reduceLE, Int.reduceLT, Int.reduceNeg, Int.reduceToNat, Int.reduceAdd, Int.reduceMul, Int.reduceSub, Int.le_refl, Int.cast_ofNat_Int, Int.toNat_zero, Int.toNat_one, Int.reducePow, true_and, and_true, DV.isi_non_int, DV.isi_non_bool, DV.isi_non_str, DV.isi_non_list, DV.isi_non_tuple, DV.isi_non_seq, DV.isN_non, DV.isi_bl_int, DV.isi_bl_bool, DV.isi_bl_str, DV.isi_bl_list, DV.isi_bl_tuple, DV.isi_bl_seq, DV.isN_bl, DV.isi_int_int, DV.isi_int_bool, DV.isi_int_str, DV.isi_int_list, DV.isi_int_tuple, DV.isi_int_seq, DV.isN_int, DV.isi_str_int, DV.isi_str_bool, DV.isi_str_str, DV.isi_str_list, DV.isi_str_tuple, DV.isi_str_seq, DV.isN_str, DV.isi_lst_int, DV.isi_lst_bool, DV.isi_lst_str, DV.isi_lst_list, DV.isi_lst_tuple, DV.isi_lst_seq, DV.isN_lst, DV.isi_tup_int, DV.isi_tup_bool, DV.isi_tup_str, DV.isi_tup_list, DV.isi_tup_tuple, DV.isi_tup_seq, DV.isN_tup, DV.s_eqN, DV.s_neN, DV.b_tt, DV.b_tf, DV.b_ft, DV.b_ff, DV.n_s_unp, DV.kUnp, DV.s_unpT, DV.s_maxL, DV.s_minL, DV.s_onMM, DV.s_inL, DV.s_inT, DV.s_onIn, DV.s_onNotIn, DV.s_LRg2, DV.D.ints_ints, *])
/-! ### distances to bigger boxes -/
structure RowV (Ns : List D) (n : Int) (v : Int → Int) : Prop where
  len : (Ns.length : Int) = n
  at_ : ∀ i, 0 ≤ i → i < n → L2.atI Ns i = some (.int (v i))
def dst (n : Int) (v : Int → Int) (b s sz : Int) : Nat → Int → Option Int
  | 0, _ => none
  | f + 1, k => if 0 ≤ b + s * k ∧ b + s * k < n then (if sz < v (b + s * k) then some k else dst n v b s sz f (k + 1)) else none
def dO : Option Int → D
  | none => .non
  | some k => .int k
def loopR (o : Option Int) (L : LS) : Fl := match o with
  | none => .nx L
  | some k => .ret (.v (.int k)) L
def bigC : DT := (dTest (dChain gLe gLt (dC (.int 0)) (dOp gAdd (dVar 1) (dOp gMul (dVar 2) (dVar 4))) (dCall gLen (dACons (dVar 0) dANil))))
def bigB : DS := (dSeq (dIfS (dTest (dOp gGt (dOp gIx (dVar 0) (dOp gAdd (dVar 1) (dOp gMul (dVar 2) (dVar 4)))) (dVar 3))) (dRet (dVar 4)) dNop) (dAsg 4 (dOp gAdd (dVar 4) (dC (.int 1)))))
theorem big_step {Ns : List D} {n : Int} {v : Int → Int} (R : RowV Ns n v) {b s sz k : Int} (m : Nat) (hm : mulOk s k = true) :
    whL bigC bigB (m + 1) [.val (.tup Ns), .val (.int b), .val (.int s), .val (.int sz), .val (.int k)] =
      if 0 ≤ b + s * k ∧ b + s * k < n then (if sz < v (b + s * k) then .ret (.v (.int k)) [.val (.tup Ns), .val (.int b), .val (.int s), .val (.int sz), .val (.int k)] else whL bigC bigB m [.val (.tup Ns), .val (.int b), .val (.int s), .val (.int sz), .val (.int (k + 1))])
      else .nx [.val (.tup Ns), .val (.int b), .val (.int s), .val (.int sz), .val (.int k)] := by
  have hl := R.len
  generalize hW : whL bigC bigB m = W
  have hs : whL bigC bigB (m + 1) [.val (.tup Ns), .val (.int b), .val (.int s), .val (.int sz), .val (.int k)] = (bigC [.val (.tup Ns), .val (.int b), .val (.int s), .val (.int sz), .val (.int k)]).fl fun t L => if t = true then (bigB L).loop W else .nx L := by
    rw [← hW]; exact S0.whL_succ ..
  rw [hs]
  clear hs hW
  unfold bigC bigB
  by_cases h1 : 0 ≤ b + s * k
  · by_cases h2 : b + s * k < n
    · have ha := R.at_ _ h1 h2
      rw [if_pos ⟨h1, h2⟩]
      by_cases h3 : sz < v (b + s * k)
      · walk_at "dh"
      · walk_at "dh"
    · rw [if_neg (fun h => h2 h.2)]
      walk_at "dh"
  · rw [if_neg (fun h => h1 h.1)]
    walk_at "dh"
theorem big_loop {Ns : List D} {n : Int} {v : Int → Int} (R : RowV Ns n v) {b s sz : Int} (hs : s = 1 ∨ s = -1) (hb : 0 ≤ b ∧ b < n) : ∀ (f m : Nat) (k : Int), n ≤ k + f → 1 ≤ k →
    ∃ k', whL bigC bigB (m + f + 1) [.val (.tup Ns), .val (.int b), .val (.int s), .val (.int sz), .val (.int k)] = loopR (dst n v b s sz f k) [.val (.tup Ns), .val (.int b), .val (.int s), .val (.int sz), .val (.int k')]
  | 0, m, k, hk, h1 => by
    refine ⟨k, ?_⟩
    rw [big_step R _ (mulOk_l (by rcases hs with rfl | rfl <;> decide)), if_neg (by rcases hs with rfl | rfl <;> omega)]
    rfl
  | f + 1, m, k, hk, h1 => by
    rw [show m + (f + 1) + 1 = m + f + 1 + 1 by omega, big_step R _ (mulOk_l (by rcases hs with rfl | rfl <;> decide))]
    unfold dst
    by_cases c : 0 ≤ b + s * k ∧ b + s * k < n
    · rw [if_pos c, if_pos c]
      by_cases c2 : sz < v (b + s * k)
      · exact ⟨k, by rw [if_pos c2, if_pos c2]; rfl⟩
      · obtain ⟨k', e⟩ := big_loop R hs hb f m (k + 1) (by omega) (by omega)
        exact ⟨k', by rw [if_neg c2, if_neg c2]; exact e⟩
    · exact ⟨k, by rw [if_neg c, if_neg c]; rfl⟩
theorem mbigger {Ns : List D} {n : Int} {v : Int → Int} (R : RowV Ns n v) {b s sz : Int} (hs : s = 1 ∨ s = -1) (hb : 0 ≤ b ∧ b < n) (hn : n ≤ 20) : M_Lbigger [.tup Ns, .int b, .int s, .int sz] = .ok false (dO (dst n v b s sz 20 1)) [] := by
  obtain ⟨k', e⟩ := big_loop R (sz := sz) hs hb 20 99979 1 (by omega) (by omega)
  show noExc (runF [.val, .val, .val, .val] 5 g_Lbigger) _ = _
  unfold g_Lbigger
  unfold bigC bigB at e
  generalize hW : whL _ _ 100000 = W at *
  cases ho : dst n v b s sz 20 1 with
  | none => rw [ho] at e; unfold loopR at e; unfold dO; clear hW ho; walk_at "dh"
  | some k => rw [ho] at e; unfold loopR at e; unfold dO; clear hW ho; walk_at "dh"
def disC : DT := (dTest (dChain gLe gLt (dC (.int 0)) (dVar 4) (dCall gLen (dACons (dVar 0) dANil))))
def disB : DS := (dSeq (dIfS (dTest (dOp gGt (dOp gIx (dVar 0) (dVar 4)) (dVar 3))) (dRet (dCall gAbs (dACons (dOp gSub (dVar 4) (dVar 1)) dANil))) dNop) (dAug 4 gAddI (dVar 2)))
theorem dis_step {Ns : List D} {n : Int} {v : Int → Int} (R : RowV Ns n v) {b s sz k : Int} (m : Nat) :
    whL disC disB (m + 1) [.val (.tup Ns), .val (.int b), .val (.int s), .val (.int sz), .val (.int k)] =
      if 0 ≤ k ∧ k < n then (if sz < v k then .ret (.v (.int (if k - b < 0 then -(k - b) else k - b))) [.val (.tup Ns), .val (.int b), .val (.int s), .val (.int sz), .val (.int k)] else whL disC disB m [.val (.tup Ns), .val (.int b), .val (.int s), .val (.int sz), .val (.int (k + s))])
      else .nx [.val (.tup Ns), .val (.int b), .val (.int s), .val (.int sz), .val (.int k)] := by
  have hl := R.len
  generalize hW : whL disC disB m = W
  have hs : whL disC disB (m + 1) [.val (.tup Ns), .val (.int b), .val (.int s), .val (.int sz), .val (.int k)] = (disC [.val (.tup Ns), .val (.int b), .val (.int s), .val (.int sz), .val (.int k)]).fl fun t L => if t = true then (disB L).loop W else .nx L := by
    rw [← hW]; exact S0.whL_succ ..
  rw [hs]
  clear hs hW
  unfold disC disB
  by_cases h1 : 0 ≤ k
  · by_cases h2 : k < n
    · have ha := R.at_ _ h1 h2
      rw [if_pos ⟨h1, h2⟩]
      by_cases h3 : sz < v k
      · walk_at "dh"
      · walk_at "dh"
    · rw [if_neg (fun h => h2 h.2)]
      walk_at "dh"
  · rw [if_neg (fun h => h1 h.1)]
    walk_at "dh"
theorem dis_loop {Ns : List D} {n : Int} {v : Int → Int} (R : RowV Ns n v) {b s sz : Int} (hs : s = 1 ∨ s = -1) (hb : 0 ≤ b ∧ b < n) : ∀ (f m : Nat) (k : Int), n ≤ k + f → 1 ≤ k →
    ∃ k', whL disC disB (m + f + 1) [.val (.tup Ns), .val (.int b), .val (.int s), .val (.int sz), .val (.int (b + s * k))] = loopR (dst n v b s sz f k) [.val (.tup Ns), .val (.int b), .val (.int s), .val (.int sz), .val (.int k')]
  | 0, m, k, hk, h1 => by
    refine ⟨b + s * k, ?_⟩
    rw [dis_step R, if_neg (by rcases hs with rfl | rfl <;> omega)]
    rfl
  | f + 1, m, k, hk, h1 => by
    rw [show m + (f + 1) + 1 = m + f + 1 + 1 by omega, dis_step R]
    unfold dst
    by_cases c : 0 ≤ b + s * k ∧ b + s * k < n
    · rw [if_pos c, if_pos c]
      by_cases c2 : sz < v (b + s * k)
      · refine ⟨b + s * k, ?_⟩
        rw [if_pos c2, if_pos c2]
        have : (if b + s * k - b < 0 then -(b + s * k - b) else b + s * k - b) = k := by rcases hs with rfl | rfl <;> split <;> omega
        rw [this]
        rfl
      · obtain ⟨k', e⟩ := dis_loop R hs hb f m (k + 1) (by omega) (by omega)
        rw [show b + s * (k + 1) = b + s * k + s by rcases hs with rfl | rfl <;> omega] at e
        exact ⟨k', by rw [if_neg c2, if_neg c2]; exact e⟩
    · exact ⟨b + s * k, by rw [if_neg c, if_neg c]; rfl⟩
theorem mdist {Ns : List D} {n : Int} {v : Int → Int} (R : RowV Ns n v) {b s sz : Int} (hs : s = 1 ∨ s = -1) (hb : 0 ≤ b ∧ b < n) (hn : n ≤ 20) : M_distance_to_bigger [.tup Ns, .int b, .int s, .int sz] = .ok false (dO (dst n v b s sz 20 1)) [] := by
  obtain ⟨k', e⟩ := dis_loop R (sz := sz) hs hb 20 99979 1 (by omega) (by omega)
  show noExc (runF [.val, .val, .val, .val] 5 g_distance_to_bigger) _ = _
  unfold g_distance_to_bigger
  unfold disC disB at e
  rw [Int.mul_one] at e
  generalize hW : whL _ _ 100000 = W at *
  cases ho : dst n v b s sz 20 1 with
  | none => rw [ho] at e; unfold loopR at e; unfold dO; clear hW ho; walk_at "dh"
  | some k => rw [ho] at e; unfold loopR at e; unfold dO; clear hW ho; walk_at "dh"

end K79
end
section
set_option Elab.async false
set_option linter.all false
set_option maxRecDepth 100000
set_option maxHeartbeats 4000000
namespace K79
open PySem PySem.Spec PyProof.Rows L2 DV
local macro_rules | `(tactic| walk_at "ds") => `(tactic| simp -implicitDefEqProofs only [
  DV.n_s_op, DV.n_s_test, DV.n_s_notT, DV.n_s_andT, DV.n_s_orT, DV.n_s_andV, DV.n_s_orV, DV.n_s_notV, DV.n_s_if, DV.n_s_onC, DV.n_s_chLeLt, DV.n_s_chLeLe, DV.n_s_chLtLe, DV.n_s_un, DV.n_s_ACons, DV.n_s_FCons, DV.n_s_AFCons, DV.n_s_lst, DV.n_s_tup, DV.n_s_call, DV.n_s_seq, DV.n_s_drop, DV.n_s_ret, DV.n_s_ifS, DV.n_s_asg, DV.n_s_augS, DV.n_s_tupAsg, DV.n_s_for, DV.n_whL_succ, DV.n_s_iseq, DV.n_s_irg, DV.n_s_izip, DV.n_s_lc, DV.n_lcL_cons, DV.n_s_fn, DV.n_s_mut, DV.n_s_store, DV.n_s_oSome, DV.n_s_sl, DV.n_s_sl3, DV.n_s_lrg1, DV.n_s_lrg2, DV.S0.loop_nx, DV.S0.loop_ct, DV.S0.loop_brk, DV.S0.loop_ret, DV.S0.loop_exc, DV.S0.loop_stuck, DV.S0.s_onG, DV.S0.s_onG0, DV.S0.s_onB, DV.S0.s_onI, DV.S0.s_onN, DV.S0.s_pkv, DV.S0.s_pkt, DV.S0.s_pks, DV.S0.s_pkS1, DV.S0.s_pkS2, DV.S0.s_pkS3, DV.S0.s_var, DV.S0.s_vr1, DV.S0.s_vr2, DV.S0.s_vr3, DV.S0.s_C, DV.S0.s_on, DV.S0.s_onV, DV.S0.s_onU, DV.S0.s_neg, DV.S0.s_II, DV.S0.s_IC, DV.S0.s_addI, DV.S0.s_addL, DV.S0.s_addT, DV.S0.s_addS, DV.S0.s_mulI, DV.S0.s_mulL, DV.S0.s_ixL, DV.S0.s_ixT, DV.S0.s_ixC, DV.S0.s_ANil, DV.S0.s_FNil, DV.S0.s_onF, DV.S0.s_fzv, DV.S0.s_fzt, DV.S0.s_fzs, DV.S0.s_fzS1, DV.S0.s_fzS2, DV.S0.s_peeks0, DV.S0.s_cons2, DV.S0.s_peeks, DV.S0.s_onLs, DV.S0.s_onL, DV.S0.s_lenL, DV.S0.s_lenT, DV.S0.s_lenC, DV.S0.s_listL, DV.S0.s_listT, DV.S0.s_tupleL, DV.S0.s_tupleT, DV.S0.s_intI, DV.S0.s_intB, DV.S0.s_abs, DV.S0.s_max2, DV.S0.s_min2, DV.S0.s_all, DV.S0.s_any, DV.S0.s_sum, DV.S0.s_asgv, DV.S0.s_asgt, DV.S0.s_asgs, DV.S0.s_asgS1, DV.S0.s_asgS2, DV.S0.s_asgS3, DV.S0.s_aug, DV.S0.s_onT, DV.S0.s_fzS0, DV.S0.s_fzSv, DV.S0.s_fzSt, DV.S0.s_fzSs, DV.S0.s_fzSk, DV.S0.s_many0, DV.S0.s_manyv, DV.S0.s_manyt, DV.S0.forL_nil, DV.S0.s_tg1, DV.S0.s_tgm, DV.S0.s_vals0, DV.S0.s_vals, DV.S0.s_itL, DV.S0.s_itT, DV.S0.s_rs1, DV.S0.s_rs2, DV.S0.s_onZL, DV.S0.s_onZT, DV.S0.lcL_nil, DV.S0.s_yes, DV.S0.s_onA, DV.S0.s_arg0, DV.S0.s_argV, DV.S0.s_argv, DV.S0.s_argB, DV.S0.s_argb, DV.S0.s_argi, DV.S0.s_setIo0, DV.S0.s_out0, DV.S0.s_out1, DV.S0.s_out1o, DV.S0.s_muO, DV.S0.s_onMut, DV.S0.s_onRc, DV.S0.s_rc, DV.S0.s_rcL, DV.S0.s_app, DV.S0.s_ext, DV.S0.s_popO, DV.S0.s_popAt, DV.S0.s_onFf, DV.S0.s_onSt, DV.S0.s_stO, DV.S0.s_gSt, DV.S0.s_stSo, DV.S0.s_stSi, DV.S0.s_onMuo, DV.S0.s_onMui, DV.S0.s_argIo, DV.S0.s_argIi, DV.S0.s_oNone, DV.S0.s_slL, DV.S0.s_slT, DV.S0.s_sl3L, DV.S0.s_run, DV.S0.s_endN, DV.S0.s_endR, DV.S0.s_endRp, DV.S0.s_endO, DV.S0.s_noExc, DV.S0.s_noX, DV.S0.s_resv, DV.S0.s_rest, DV.S0.s_ress, DV.S0.s_resS1, DV.S0.s_resS2, DV.S0.s_outs0, DV.S0.s_outC, DV.S0.s_outs, DV.S0.s_outAt, DV.S0.s_outS, DV.S0.s_ioIx0, DV.S0.s_ioIxv, DV.S0.s_ioIxb, DV.S0.s_ioIxi, DV.S0.s_init0, DV.S0.s_initv, DV.S0.s_initb, DV.S0.s_initi, DV.S0.s_wipe0, DV.S0.s_wipe, DV.S0.s_ap0, DV.S0.s_apv, DV.S0.s_api, DV.S0.s_apbv, DV.S0.s_apbt, DV.S0.s_apbs, DV.kOp2, DV.kOp, DV.kTest, DV.kNotT, DV.kAndT, DV.kOrT, DV.kBl, DV.kAndV, DV.kOrV, DV.kNotV, DV.kIf, DV.kCh2, DV.kCh, DV.kUn, DV.kAC2, DV.kAC, DV.kFC3, DV.kFC2, DV.kFC, DV.kAFC3, DV.kAFC2, DV.kAFC, DV.kLst, DV.kTup, DV.kCall, DV.kDrop, DV.kRet, DV.kIfS, DV.kAsg, DV.kAug, DV.kT, DV.kFor, DV.kWh, DV.kISeq, DV.kIRg, DV.kLC2, DV.kLC, DV.kL3, DV.kL2, DV.kL1, DV.kFn, DV.kMut3, DV.kMut2, DV.kMut, DV.kSt4, DV.kSt3, DV.kSt2, DV.kSt, DV.kOS, DV.kSl2, DV.kSl1, DV.kSl, DV.kSl33, DV.kSl32, DV.kSl31, DV.kSl3, DV.kLRg1, DV.kLRg22, DV.kLRg2, DV.kC2, DV.kC,
  Rs.bind_ok, Rs.bind_stuck, Rs.bind_exc, Rs.fl_ok, Rs.fl_stuck, Rs.fl_exc, Rs.wp_ok, Fl.seq_nx, Fl.seq_ret, Fl.seq_brk, Fl.seq_ct, Fl.seq_stuck, Fl.seq_exc,
  List.getElem?_cons_zero, List.getElem?_cons_succ, List.getElem?_nil, List.set_cons_zero, List.set_cons_succ, List.set_nil, List.cons_append, List.nil_append, List.append_nil, List.replicate, List.length_cons, List.length_nil, Nat.reduceAdd, Nat.reduceSub, Nat.zero_add, List.contains_nil, List.contains_cons, startL,
  Bool.and_true, Bool.true_and, Bool.and_false, Bool.false_and, Bool.or_true, Bool.true_or, Bool.or_false, Bool.false_or, Bool.not_true, Bool.not_false, if_true, if_false, reduceIte, reduceCtorEq, decide_true, decide_false, decide_eq_true_eq, Option.map_some, Option.map_none, Option.some_or, Option.none_or, Option.bind_some, Option.bind_none, Bool.false_eq_true, Nat.reduceLeDiff, Nat.reduceEqDiff, beq_iff_eq, Nat.reduceBEq, ne_eq, not_true_eq_false, not_false_eq_true, Option.some.injEq, Bool.not_eq_true', decide_eq_false_iff_not, Bool.not_not, L2.ixN, DV.atI_0, DV.atI_1, DV.atI_2, DV.atI_3, DV.atI_4, DV.atI_5, DV.atI_6, DV.atI_7, DV.atI_8, DV.atI_9, DV.atI_10, DV.atI_11, DV.atI_12, DV.atI_13, DV.atI_14, DV.atI_15, DV.atI_m1, DV.s_eqI, DV.s_neI, DV.s_eqB, DV.s_neB, Int.reduceLE, Int.reduceLT, Int.reduceNeg, Int.reduceToNat, Int.reduceAdd, Int.reduceMul, Int.reduceSub, Int.le_refl, Int.cast_ofNat_Int, Int.toNat_zero, Int.toNat_one, Int.reducePow, true_and, and_true, DV.isi_non_int, DV.isi_non_bool, DV.isi_non_str, DV.isi_non_list, DV.isi_non_tuple, DV.isi_non_seq, DV.isN_non, DV.isi_bl_int, DV.isi_bl_bool, DV.isi_bl_str, DV.isi_bl_list, DV.isi_bl_tuple, DV.isi_bl_seq, DV.isN_bl, DV.isi_int_int, DV.isi_int_bool, DV.isi_int_str, DV.isi_int_list, DV.isi_int_tuple, DV.isi_int_seq, DV.isN_int, DV.isi_str_int, DV.isi_str_bool, DV.isi_str_str, DV.isi_str_list, DV.isi_str_tuple, DV.isi_str_seq, DV.isN_str, DV.isi_lst_int, DV.isi_lst_bool, DV.isi_lst_str, DV.isi_lst_list, DV.isi_lst_tuple, DV.isi_lst_seq, DV.isN_lst, DV.isi_tup_int, DV.isi_tup_bool, DV.isi_tup_str, DV.isi_tup_list, DV.isi_tup_tuple, DV.isi_tup_seq, DV.isN_tup, DV.s_eqN, DV.s_neN, DV.b_tt, DV.b_tf, DV.b_ft, DV.b_ff, DV.n_s_unp, DV.kUnp, DV.s_unpT, DV.s_maxL, DV.s_minL, DV.s_onMM, DV.s_inL, DV.s_inT, DV.s_onIn, DV.s_onNotIn, DV.s_LRg2, DV.D.ints_ints])
local macro_rules | `(tactic| walk_at "dh") => `(tactic| simp -implicitDefEqProofs only [
  DV.n_s_op, DV.n_s_test, DV.n_s_notT, DV.n_s_andT, DV.n_s_orT, DV.n_s_andV, DV.n_s_orV, DV.n_s_notV, DV.n_s_if, DV.n_s_onC, DV.n_s_chLeLt, DV.n_s_chLeLe, DV.n_s_chLtLe, DV.n_s_un, DV.n_s_ACons, DV.n_s_FCons, DV.n_s_AFCons, DV.n_s_lst, DV.n_s_tup, DV.n_s_call, DV.n_s_seq, DV.n_s_drop, DV.n_s_ret, DV.n_s_ifS, DV.n_s_asg, DV.n_s_augS, DV.n_s_tupAsg, DV.n_s_for, DV.n_whL_succ, DV.n_s_iseq, DV.n_s_irg, DV.n_s_izip, DV.n_s_lc, DV.n_lcL_cons, DV.n_s_fn, DV.n_s_mut, DV.n_s_store, DV.n_s_oSome, DV.n_s_sl, DV.n_s_sl3, DV.n_s_lrg1, DV.n_s_lrg2, DV.S0.loop_nx, DV.S0.loop_ct, DV.S0.loop_brk, DV.S0.loop_ret, DV.S0.loop_exc, DV.S0.loop_stuck, DV.S0.s_onG, DV.S0.s_onG0, DV.S0.s_onB, DV.S0.s_onI, DV.S0.s_onN, DV.S0.s_pkv, DV.S0.s_pkt, DV.S0.s_pks, DV.S0.s_pkS1, DV.S0.s_pkS2, DV.S0.s_pkS3, DV.S0.s_var, DV.S0.s_vr1, DV.S0.s_vr2, DV.S0.s_vr3, DV.S0.s_C, DV.S0.s_on, DV.S0.s_onV, DV.S0.s_onU, DV.S0.s_neg, DV.S0.s_II, DV.S0.s_IC, DV.S0.s_addI, DV.S0.s_addL, DV.S0.s_addT, DV.S0.s_addS, DV.S0.s_mulI, DV.S0.s_mulL, DV.S0.s_ixL, DV.S0.s_ixT, DV.S0.s_ixC, DV.S0.s_ANil, DV.S0.s_FNil, DV.S0.s_onF, DV.S0.s_fzv, DV.S0.s_fzt, DV.S0.s_fzs, DV.S0.s_fzS1, DV.S0.s_fzS2, DV.S0.s_peeks0, DV.S0.s_cons2, DV.S0.s_peeks, DV.S0.s_onLs, DV.S0.s_onL, DV.S0.s_lenL, DV.S0.s_lenT, DV.S0.s_lenC, DV.S0.s_listL, DV.S0.s_listT, DV.S0.s_tupleL, DV.S0.s_tupleT, DV.S0.s_intI, DV.S0.s_intB, DV.S0.s_abs, DV.S0.s_max2, DV.S0.s_min2, DV.S0.s_all, DV.S0.s_any, DV.S0.s_sum, DV.S0.s_asgv, DV.S0.s_asgt, DV.S0.s_asgs, DV.S0.s_asgS1, DV.S0.s_asgS2, DV.S0.s_asgS3, DV.S0.s_aug, DV.S0.s_onT, DV.S0.s_fzS0, DV.S0.s_fzSv, DV.S0.s_fzSt, DV.S0.s_fzSs, DV.S0.s_fzSk, DV.S0.s_many0, DV.S0.s_manyv, DV.S0.s_manyt, DV.S0.forL_nil, DV.S0.s_tg1, DV.S0.s_tgm, DV.S0.s_vals0, DV.S0.s_vals, DV.S0.s_itL, DV.S0.s_itT, DV.S0.s_rs1, DV.S0.s_rs2, DV.S0.s_onZL, DV.S0.s_onZT, DV.S0.lcL_nil, DV.S0.s_yes, DV.S0.s_onA, DV.S0.s_arg0, DV.S0.s_argV, DV.S0.s_argv, DV.S0.s_argB, DV.S0.s_argb, DV.S0.s_argi, DV.S0.s_setIo0, DV.S0.s_out0, DV.S0.s_out1, DV.S0.s_out1o, DV.S0.s_muO, DV.S0.s_onMut, DV.S0.s_onRc, DV.S0.s_rc, DV.S0.s_rcL, DV.S0.s_app, DV.S0.s_ext, DV.S0.s_popO, DV.S0.s_popAt, DV.S0.s_onFf, DV.S0.s_onSt, DV.S0.s_stO, DV.S0.s_gSt, DV.S0.s_stSo, DV.S0.s_stSi, DV.S0.s_onMuo, DV.S0.s_onMui, DV.S0.s_argIo, DV.S0.s_argIi, DV.S0.s_oNone, DV.S0.s_slL, DV.S0.s_slT, DV.S0.s_sl3L, DV.S0.s_run, DV.S0.s_endN, DV.S0.s_endR, DV.S0.s_endRp, DV.S0.s_endO, DV.S0.s_noExc, DV.S0.s_noX, DV.S0.s_resv, DV.S0.s_rest, DV.S0.s_ress, DV.S0.s_resS1, DV.S0.s_resS2, DV.S0.s_outs0, DV.S0.s_outC, DV.S0.s_outs, DV.S0.s_outAt, DV.S0.s_outS, DV.S0.s_ioIx0, DV.S0.s_ioIxv, DV.S0.s_ioIxb, DV.S0.s_ioIxi, DV.S0.s_init0, DV.S0.s_initv, DV.S0.s_initb, DV.S0.s_initi, DV.S0.s_wipe0, DV.S0.s_wipe, DV.S0.s_ap0, DV.S0.s_apv, DV.S0.s_api, DV.S0.s_apbv, DV.S0.s_apbt, DV.S0.s_apbs, DV.kOp2, DV.kOp, DV.kTest, DV.kNotT, DV.kAndT, DV.kOrT, DV.kBl, DV.kAndV, DV.kOrV, DV.kNotV, DV.kIf, DV.kCh2, DV.kCh, DV.kUn, DV.kAC2, DV.kAC, DV.kFC3, DV.kFC2, DV.kFC, DV.kAFC3, DV.kAFC2, DV.kAFC, DV.kLst, DV.kTup, DV.kCall, DV.kDrop, DV.kRet, DV.kIfS, DV.kAsg, DV.kAug, DV.kT, DV.kFor, DV.kWh, DV.kISeq, DV.kIRg, DV.kLC2, DV.kLC, DV.kL3, DV.kL2, DV.kL1, DV.kFn, DV.kMut3, DV.kMut2, DV.kMut, DV.kSt4, DV.kSt3, DV.kSt2, DV.kSt, DV.kOS, DV.kSl2, DV.kSl1, DV.kSl, DV.kSl33, DV.kSl32, DV.kSl31, DV.kSl3, DV.kLRg1, DV.kLRg22, DV.kLRg2, DV.kC2, DV.kC,
  Rs.bind_ok, Rs.bind_stuck, Rs.bind_exc, Rs.fl_ok, Rs.fl_stuck, Rs.fl_exc, Rs.wp_ok, Fl.seq_nx, Fl.seq_ret, Fl.seq_brk, Fl.seq_ct, Fl.seq_stuck, Fl.seq_exc,
  List.getElem?_cons_zero, List.getElem?_cons_succ, List.getElem?_nil, List.set_cons_zero, List.set_cons_succ, List.set_nil, List.cons_append, List.nil_append, List.append_nil, List.replicate, List.length_cons, List.length_nil, Nat.reduceAdd, Nat.reduceSub, Nat.zero_add, List.contains_nil, List.contains_cons, startL,
  Bool.and_true, Bool.true_and, Bool.and_false, Bool.false_and, Bool.or_true, Bool.true_or, Bool.or_false, Bool.false_or, Bool.not_true, Bool.not_false, if_true, if_false, reduceIte, reduceCtorEq, decide_true, decide_false, decide_eq_true_eq, Option.map_some, Option.map_none, Option.some_or, Option.none_or, Option.bind_some, Option.bind_none, Bool.false_eq_true, Nat.reduceLeDiff, Nat.reduceEqDiff, beq_iff_eq, Nat.reduceBEq, ne_eq, not_true_eq_false, not_false_eq_true, Option.some.injEq, Bool.not_eq_true', decide_eq_false_iff_not, Bool.not_not, L2.ixN, DV.atI_0, DV.atI_1, DV.atI_2, DV.atI_3, DV.atI_4, DV.atI_5, DV.atI_6, DV.atI_7, DV.atI_8, DV.atI_9, DV.atI_10, DV.atI_11, DV.atI_12, DV.atI_13, DV.atI_14, DV.atI_15, DV.atI_m1, DV.s_eqI, DV.s_neI, DV.s_eqB, DV.s_neB, Int.reduceLE, Int.reduceLT, Int.reduceNeg, Int.reduceToNat, Int.reduceAdd, Int.reduceMul, Int.reduceSub, Int.le_refl, Int.cast_ofNat_Int, Int.toNat_zero, Int.toNat_one, Int.reducePow, true_and, and_true, DV.isi_non_int, DV.isi_non_bool, DV.isi_non_str, DV.isi_non_list, DV.isi_non_tuple, DV.isi_non_seq, DV.isN_non, DV.isi_bl_int, DV.isi_bl_bool, DV.isi_bl_str, DV.isi_bl_list, DV.isi_bl_tuple, DV.isi_bl_seq, DV.isN_bl, DV.isi_int_int, DV.isi_int_bool, DV.isi_int_str, DV.isi_int_list, DV.isi_int_tuple, DV.isi_int_seq, DV.isN_int, DV.isi_str_int, DV.isi_str_bool, DV.isi_str_str, DV.isi_str_list, DV.isi_str_tuple, DV.isi_str_seq, DV.isN_str, DV.isi_lst_int, DV.isi_lst_bool, DV.isi_lst_str, DV.isi_lst_list, DV.isi_lst_tuple, DV.isi_lst_seq, DV.isN_lst, DV.isi_tup_int, DV.isi_tup_bool, DV.isi_tup_str, DV.isi_tup_list, DV.isi_tup_tuple, DV.isi_tup_seq, DV.isN_tup, DV.s_eqN, DV.s_neN, DV.b_tt, DV.b_tf, DV.b_ft, DV.b_ff, DV.n_s_unp, DV.kUnp, DV.s_unpT, DV.s_maxL, DV.s_minL, DV.s_onMM, DV.s_inL, DV.s_inT, DV.s_onIn, DV.s_onNotIn, DV.s_LRg2, DV.D.ints_ints, *])
/-! ### the first of three lots -/
def fotN (m : Nat) : Option Nat → Option Nat → Nat × Nat
  | none, none => (1, 1)
  | none, some r => (r, m + r)
  | some l, none => (l, m + l)
  | some l, some r => ((m + l) * (m + r) * (m + l + r) - m * ((m + r) * (m + l + r) + (m + l) * (m + l + r) - (m + l) * (m + r)), (m + l) * (m + r) * (m + l + r))
def rdN (p : Nat × Nat) : Nat × Nat := (p.1 / Nat.gcd p.1 p.2, p.2 / Nat.gcd p.1 p.2)
def behN (m : Nat) : Option Nat → Option Nat → Nat × Nat
  | none, none => (1, 1)
  | none, some r => rdN (r, m + r)
  | some l, none => rdN (l, m + l)
  | some l, some r => sumF [(l * r, (m + l + r) * (m + r)), (r * l, (m + l + r) * (m + l))]
def oN : Option Nat → Option Int
  | none => none
  | some k => some (k : Int)
def fotOk (m l r : Nat) : Bool := (decide (m * ((m + r) * (m + l + r) + (m + l) * (m + l + r) - (m + l) * (m + r)) ≤ (m + l) * (m + r) * (m + l + r)) && decide ((m + l) * (m + r) ≤ (m + r) * (m + l + r) + (m + l) * (m + l + r)))
theorem fin_a : ∀ m : Nat, m < 12 → ∀ l : Nat, l < 12 → ∀ r : Nat, r < 12 → fotOk m l r = true := by decide +kernel
def g2 (m l r : Nat) : Bool := decide (m + l + r < 12) && decide (0 < m) && decide (0 < l) && decide (0 < r)
def okP (p : Nat × Nat) : Bool := decide (0 < p.2) && decide (MM % p.2 = 0) && decide (p.1 ≤ 5000) && decide (p.2 ≤ 5000)
theorem okP_ok {p : Nat × Nat} (h : okP p = true) : FOk p := by
  unfold okP at h
  simp only [Bool.and_eq_true, decide_eq_true_eq] at h
  exact ⟨h.1.1.1, Nat.dvd_of_mod_eq_zero h.1.1.2, h.1.2, h.2⟩
def chk (m : Nat) (a b : Option Nat) : Bool := decide (rdN (fotN m a b) = behN m a b) && okP (behN m a b) && okP (fotN m a b)
def chk2 (m : Nat) (a b : Option Nat) (w : Nat) : Bool := decide (rdN (w * (fotN m a b).1, m * (fotN m a b).2) = rdN (w * (behN m a b).1, m * (behN m a b).2)) && okP (rdN (w * (fotN m a b).1, m * (fotN m a b).2))
theorem fin_b1 : ∀ m : Nat, m < 12 → ∀ l : Nat, l < 12 → ∀ r : Nat, r < 12 → (!g2 m l r || (chk m (some l) (some r) && okP (l * r, (m + l + r) * (m + r)) && okP (r * l, (m + l + r) * (m + l)))) = true := by decide +kernel
theorem fin_b2 : ∀ m : Nat, m < 12 → ∀ l : Nat, l < 12 → (!decide (0 < m) || !decide (0 < l) || !decide (m + l < 12) || (chk m (some l) none && chk m none (some l))) = true := by decide +kernel
theorem fin_b3 : ∀ m : Nat, m < 12 → (!decide (0 < m) || chk m none none) = true := by decide +kernel
theorem fin_c1 : ∀ m : Nat, m < 12 → ∀ l : Nat, l < 12 → ∀ r : Nat, r < 12 → ∀ w : Nat, w < 12 → (!g2 m l r || !decide (0 < w) || !decide (w ≤ m) || chk2 m (some l) (some r) w) = true := by decide +kernel
theorem fin_c2 : ∀ m : Nat, m < 12 → ∀ l : Nat, l < 12 → ∀ w : Nat, w < 12 → (!decide (0 < m) || !decide (0 < l) || !decide (m + l < 12) || !decide (0 < w) || !decide (w ≤ m) || (chk2 m (some l) none w && chk2 m none (some l) w)) = true := by decide +kernel
theorem fin_c3 : ∀ m : Nat, m < 12 → ∀ w : Nat, w < 12 → (!decide (0 < m) || !decide (0 < w) || !decide (w ≤ m) || chk2 m none none w) = true := by decide +kernel
theorem red_dP {a b : Nat} (h : 0 < b) (h2 : b < 2 ^ 60) : M_reduced [.int a, .int b] = .ok false (dP (rdN (a, b))) [] := mreduced h h2
theorem part_dP {a b : Nat} (h : 0 < b) (h2 : b < 2 ^ 60) : M_Lpart [.int a, .int b] = .ok false (dP (rdN (a, b))) [] := mpart h h2
theorem fot_cast {m l r : Nat} (hm : m < 12) (hl : l < 12) (hr : r < 12) : ((fotN m (some l) (some r)).1 : Int) = ((m : Int) + l) * ((m : Int) + r) * ((m : Int) + l + r) - (m : Int) * (((m : Int) + r) * ((m : Int) + l + r) + ((m : Int) + l) * ((m : Int) + l + r) - ((m : Int) + l) * ((m : Int) + r)) := by
  have h := fin_a m hm l hl r hr
  unfold fotOk at h
  simp only [Bool.and_eq_true, decide_eq_true_eq] at h
  show (((m + l) * (m + r) * (m + l + r) - m * ((m + r) * (m + l + r) + (m + l) * (m + l + r) - (m + l) * (m + r)) : Nat) : Int) = _
  rw [Int.natCast_sub h.1, Int.natCast_mul m, Int.natCast_sub h.2]
  simp only [Int.natCast_add, Int.natCast_mul]
theorem mfot {m : Nat} {a b : Option Nat} (hm : m < 12) (ha : ∀ l, a = some l → l < 12) (hb : ∀ l, b = some l → l < 12) : M_first_of_three [.int m, dO (oN a), dO (oN b)] = .ok false (dP (fotN m a b)) [] := by
  show noExc (runF [.val, .val, .val] 7 g_first_of_three) _ = _
  have e2 : lenOk 2 = true := rfl
  cases a with
  | none =>
    cases b with
    | none =>
      show noExc (runF [.val, .val, .val] 7 g_first_of_three) [.int m, .non, .non] = .ok false (.tup [.int 1, .int 1]) []
      unfold g_first_of_three
      walk_at "dh"
    | some r =>
      show noExc (runF [.val, .val, .val] 7 g_first_of_three) [.int m, .non, .int r] = .ok false (.tup [.int r, .int ((m + r : Nat) : Int)]) []
      rw [Int.natCast_add]
      unfold g_first_of_three
      clear ha hb
      walk_at "dh"
  | some l =>
    cases b with
    | none =>
      show noExc (runF [.val, .val, .val] 7 g_first_of_three) [.int m, .int l, .non] = .ok false (.tup [.int l, .int ((m + l : Nat) : Int)]) []
      rw [Int.natCast_add]
      unfold g_first_of_three
      clear ha hb
      walk_at "dh"
    | some r =>
      have hl := ha l rfl
      have hr := hb r rfl
      show noExc (runF [.val, .val, .val] 7 g_first_of_three) [.int m, .int l, .int r] = .ok false (.tup [.int ((fotN m (some l) (some r)).1 : Int), .int (((m + l) * (m + r) * (m + l + r) : Nat) : Int)]) []
      rw [fot_cast hm hl hr]
      simp only [Int.natCast_add, Int.natCast_mul]
      have m1 : ∀ i, mulOk ((m : Int) + l) i = true := fun i => mulOk_l (by omega)
      have m2 : ∀ i, mulOk i ((m : Int) + l + r) = true := fun i => mulOk_r (by omega)
      have m3 : ∀ i, mulOk (m : Int) i = true := fun i => mulOk_l (by omega)
      unfold g_first_of_three
      clear ha hb
      walk_at "dh"
theorem mbeh {m : Nat} {a b : Option Nat} (hm : 0 < m ∧ m < 12) (ha : ∀ l, a = some l → l < 12) (hb : ∀ l, b = some l → l < 12)
    (hf : ∀ l r, a = some l → b = some r → FOk (l * r, (m + l + r) * (m + r)) ∧ FOk (r * l, (m + l + r) * (m + l))) : M_Lbehind [.int m, dO (oN a), dO (oN b)] = .ok false (dP (behN m a b)) [] := by
  have e2 : lenOk 2 = true := rfl
  cases a with
  | none =>
    cases b with
    | none =>
      show noExc (runF [.val, .val, .val] 6 g_Lbehind) [.int m, .non, .non] = .ok false (.tup [.int 1, .int 1]) []
      unfold g_Lbehind
      clear ha hb hf
      walk_at "dh"
    | some r =>
      have h1 := part_dP (a := r) (b := m + r) (by omega) (by have := hb r rfl; omega)
      rw [Int.natCast_add] at h1
      show noExc (runF [.val, .val, .val] 6 g_Lbehind) [.int m, .non, .int r] = .ok false (dP (rdN (r, m + r))) []
      generalize dP (rdN (r, m + r)) = T at *
      unfold g_Lbehind
      clear ha hb hf
      generalize M_Lpart = mm at *
      walk_at "dh"
  | some l =>
    cases b with
    | none =>
      have h1 := part_dP (a := l) (b := m + l) (by omega) (by have := ha l rfl; omega)
      rw [Int.natCast_add] at h1
      show noExc (runF [.val, .val, .val] 6 g_Lbehind) [.int m, .int l, .non] = .ok false (dP (rdN (l, m + l))) []
      generalize dP (rdN (l, m + l)) = T at *
      unfold g_Lbehind
      clear ha hb hf
      generalize M_Lpart = mm at *
      walk_at "dh"
    | some r =>
      have hl := ha l rfl
      have hr := hb r rfl
      obtain ⟨f1, f2⟩ := hf l r rfl rfl
      have h1 := msum (ps := [(l * r, (m + l + r) * (m + r)), (r * l, (m + l + r) * (m + l))]) (by simp; exact ⟨f1, f2⟩)
      have h2 : M_Lsum_of [.lst [.tup [.int ((l : Int) * r), .int (((m : Int) + l + r) * ((m : Int) + r))], .tup [.int ((r : Int) * l), .int (((m : Int) + l + r) * ((m : Int) + l))]]] = .ok false (dP (behN m (some l) (some r))) [] := by
        rw [← Int.natCast_add, ← Int.natCast_add, ← Int.natCast_add, ← Int.natCast_mul, ← Int.natCast_mul, ← Int.natCast_mul, ← Int.natCast_mul]
        exact h1
      show noExc (runF [.val, .val, .val] 6 g_Lbehind) [.int m, .int l, .int r] = _
      have m1 : ∀ i, mulOk (l : Int) i = true := fun i => mulOk_l (by omega)
      have m2 : ∀ i, mulOk (r : Int) i = true := fun i => mulOk_l (by omega)
      have m3 : ∀ i, mulOk ((m : Int) + l + r) i = true := fun i => mulOk_l (by omega)
      generalize dP (behN m (some l) (some r)) = T at *
      unfold g_Lbehind
      clear ha hb hf h1 f1 f2
      generalize M_Lsum_of = mm at *
      walk_at "dh"

end K79
end
section
set_option Elab.async false
set_option linter.all false
set_option maxRecDepth 100000
set_option maxHeartbeats 4000000
namespace K79
open PySem PySem.Spec PyProof.Rows L2 DV
local macro_rules | `(tactic| walk_at "ds") => `(tactic| simp -implicitDefEqProofs only [
  DV.n_s_op, DV.n_s_test, DV.n_s_notT, DV.n_s_andT, DV.n_s_orT, DV.n_s_andV, DV.n_s_orV, DV.n_s_notV, DV.n_s_if, DV.n_s_onC, DV.n_s_chLeLt, DV.n_s_chLeLe, DV.n_s_chLtLe, DV.n_s_un, DV.n_s_ACons, DV.n_s_FCons, DV.n_s_AFCons, DV.n_s_lst, DV.n_s_tup, DV.n_s_call, DV.n_s_seq, DV.n_s_drop, DV.n_s_ret, DV.n_s_ifS, DV.n_s_asg, DV.n_s_augS, DV.n_s_tupAsg, DV.n_s_for, DV.n_whL_succ, DV.n_s_iseq, DV.n_s_irg, DV.n_s_izip, DV.n_s_lc, DV.n_lcL_cons, DV.n_s_fn, DV.n_s_mut, DV.n_s_store, DV.n_s_oSome, DV.n_s_sl, DV.n_s_sl3, DV.n_s_lrg1, DV.n_s_lrg2, DV.S0.loop_nx, DV.S0.loop_ct, DV.S0.loop_brk, DV.S0.loop_ret, DV.S0.loop_exc, DV.S0.loop_stuck, DV.S0.s_onG, DV.S0.s_onG0, DV.S0.s_onB, DV.S0.s_onI, DV.S0.s_onN, DV.S0.s_pkv, DV.S0.s_pkt, DV.S0.s_pks, DV.S0.s_pkS1, DV.S0.s_pkS2, DV.S0.s_pkS3, DV.S0.s_var, DV.S0.s_vr1, DV.S0.s_vr2, DV.S0.s_vr3, DV.S0.s_C, DV.S0.s_on, DV.S0.s_onV, DV.S0.s_onU, DV.S0.s_neg, DV.S0.s_II, DV.S0.s_IC, DV.S0.s_addI, DV.S0.s_addL, DV.S0.s_addT, DV.S0.s_addS, DV.S0.s_mulI, DV.S0.s_mulL, DV.S0.s_ixL, DV.S0.s_ixT, DV.S0.s_ixC, DV.S0.s_ANil, DV.S0.s_FNil, DV.S0.s_onF, DV.S0.s_fzv, DV.S0.s_fzt, DV.S0.s_fzs, DV.S0.s_fzS1, DV.S0.s_fzS2, DV.S0.s_peeks0, DV.S0.s_cons2, DV.S0.s_peeks, DV.S0.s_onLs, DV.S0.s_onL, DV.S0.s_lenL, DV.S0.s_lenT, DV.S0.s_lenC, DV.S0.s_listL, DV.S0.s_listT, DV.S0.s_tupleL, DV.S0.s_tupleT, DV.S0.s_intI, DV.S0.s_intB, DV.S0.s_abs, DV.S0.s_max2, DV.S0.s_min2, DV.S0.s_all, DV.S0.s_any, DV.S0.s_sum, DV.S0.s_asgv, DV.S0.s_asgt, DV.S0.s_asgs, DV.S0.s_asgS1, DV.S0.s_asgS2, DV.S0.s_asgS3, DV.S0.s_aug, DV.S0.s_onT, DV.S0.s_fzS0, DV.S0.s_fzSv, DV.S0.s_fzSt, DV.S0.s_fzSs, DV.S0.s_fzSk, DV.S0.s_many0, DV.S0.s_manyv, DV.S0.s_manyt, DV.S0.forL_nil, DV.S0.s_tg1, DV.S0.s_tgm, DV.S0.s_vals0, DV.S0.s_vals, DV.S0.s_itL, DV.S0.s_itT, DV.S0.s_rs1, DV.S0.s_rs2, DV.S0.s_onZL, DV.S0.s_onZT, DV.S0.lcL_nil, DV.S0.s_yes, DV.S0.s_onA, DV.S0.s_arg0, DV.S0.s_argV, DV.S0.s_argv, DV.S0.s_argB, DV.S0.s_argb, DV.S0.s_argi, DV.S0.s_setIo0, DV.S0.s_out0, DV.S0.s_out1, DV.S0.s_out1o, DV.S0.s_muO, DV.S0.s_onMut, DV.S0.s_onRc, DV.S0.s_rc, DV.S0.s_rcL, DV.S0.s_app, DV.S0.s_ext, DV.S0.s_popO, DV.S0.s_popAt, DV.S0.s_onFf, DV.S0.s_onSt, DV.S0.s_stO, DV.S0.s_gSt, DV.S0.s_stSo, DV.S0.s_stSi, DV.S0.s_onMuo, DV.S0.s_onMui, DV.S0.s_argIo, DV.S0.s_argIi, DV.S0.s_oNone, DV.S0.s_slL, DV.S0.s_slT, DV.S0.s_sl3L, DV.S0.s_run, DV.S0.s_endN, DV.S0.s_endR, DV.S0.s_endRp, DV.S0.s_endO, DV.S0.s_noExc, DV.S0.s_noX, DV.S0.s_resv, DV.S0.s_rest, DV.S0.s_ress, DV.S0.s_resS1, DV.S0.s_resS2, DV.S0.s_outs0, DV.S0.s_outC, DV.S0.s_outs, DV.S0.s_outAt, DV.S0.s_outS, DV.S0.s_ioIx0, DV.S0.s_ioIxv, DV.S0.s_ioIxb, DV.S0.s_ioIxi, DV.S0.s_init0, DV.S0.s_initv, DV.S0.s_initb, DV.S0.s_initi, DV.S0.s_wipe0, DV.S0.s_wipe, DV.S0.s_ap0, DV.S0.s_apv, DV.S0.s_api, DV.S0.s_apbv, DV.S0.s_apbt, DV.S0.s_apbs, DV.kOp2, DV.kOp, DV.kTest, DV.kNotT, DV.kAndT, DV.kOrT, DV.kBl, DV.kAndV, DV.kOrV, DV.kNotV, DV.kIf, DV.kCh2, DV.kCh, DV.kUn, DV.kAC2, DV.kAC, DV.kFC3, DV.kFC2, DV.kFC, DV.kAFC3, DV.kAFC2, DV.kAFC, DV.kLst, DV.kTup, DV.kCall, DV.kDrop, DV.kRet, DV.kIfS, DV.kAsg, DV.kAug, DV.kT, DV.kFor, DV.kWh, DV.kISeq, DV.kIRg, DV.kLC2, DV.kLC, DV.kL3, DV.kL2, DV.kL1, DV.kFn, DV.kMut3, DV.kMut2, DV.kMut, DV.kSt4, DV.kSt3, DV.kSt2, DV.kSt, DV.kOS, DV.kSl2, DV.kSl1, DV.kSl, DV.kSl33, DV.kSl32, DV.kSl31, DV.kSl3, DV.kLRg1, DV.kLRg22, DV.kLRg2, DV.kC2, DV.kC,
  Rs.bind_ok, Rs.bind_stuck, Rs.bind_exc, Rs.fl_ok, Rs.fl_stuck, Rs.fl_exc, Rs.wp_ok, Fl.seq_nx, Fl.seq_ret, Fl.seq_brk, Fl.seq_ct, Fl.seq_stuck, Fl.seq_exc,
  List.getElem?_cons_zero, List.getElem?_cons_succ, List.getElem?_nil, List.set_cons_zero, List.set_cons_succ, List.set_nil, List.cons_append, List.nil_append, List.append_nil, List.replicate, List.length_cons, List.length_nil, Nat.reduceAdd, Nat.reduceSub, Nat.zero_add, List.contains_nil, List.contains_cons, startL,
  Bool.and_true, Bool.true_and, Bool.and_false, Bool.false_and, Bool.or_true, Bool.true_or, Bool.or_false, Bool.false_or, Bool.not_true, Bool.not_false, if_true, if_false, reduceIte, reduceCtorEq, decide_true, decide_false, decide_eq_true_eq, Option.map_some, Option.map_none, Option.some_or, Option.none_or, Option.bind_some, Option.bind_none, Bool.false_eq_true, Nat.reduceLeDiff, Nat.reduceEqDiff, beq_iff_eq, Nat.reduceBEq, ne_eq, not_true_eq_false, not_false_eq_true, Option.some.injEq, Bool.not_eq_true', decide_eq_false_iff_not, Bool.not_not, L2.ixN, DV.atI_0, DV.atI_1, DV.atI_2, DV.atI_3, DV.atI_4, DV.atI_5, DV.atI_6, DV.atI_7, DV.atI_8, DV.atI_9, DV.atI_10, DV.atI_11, DV.atI_12, DV.atI_13, DV.atI_14, DV.atI_15, DV.atI_m1, DV.s_eqI, DV.s_neI, DV.s_eqB, DV.s_neB, Int.reduceLE, Int.reduceLT, Int.reduceNeg, Int.reduceToNat, Int.reduceAdd, Int.reduceMul, Int.reduceSub, Int.le_refl, Int.cast_ofNat_Int, Int.toNat_zero, Int.toNat_one, Int.reducePow, true_and, and_true, DV.isi_non_int, DV.isi_non_bool, DV.isi_non_str, DV.isi_non_list, DV.isi_non_tuple, DV.isi_non_seq, DV.isN_non, DV.isi_bl_int, DV.isi_bl_bool, DV.isi_bl_str, DV.isi_bl_list, DV.isi_bl_tuple, DV.isi_bl_seq, DV.isN_bl, DV.isi_int_int, DV.isi_int_bool, DV.isi_int_str, DV.isi_int_list, DV.isi_int_tuple, DV.isi_int_seq, DV.isN_int, DV.isi_str_int, DV.isi_str_bool, DV.isi_str_str, DV.isi_str_list, DV.isi_str_tuple, DV.isi_str_seq, DV.isN_str, DV.isi_lst_int, DV.isi_lst_bool, DV.isi_lst_str, DV.isi_lst_list, DV.isi_lst_tuple, DV.isi_lst_seq, DV.isN_lst, DV.isi_tup_int, DV.isi_tup_bool, DV.isi_tup_str, DV.isi_tup_list, DV.isi_tup_tuple, DV.isi_tup_seq, DV.isN_tup, DV.s_eqN, DV.s_neN, DV.b_tt, DV.b_tf, DV.b_ft, DV.b_ff, DV.n_s_unp, DV.kUnp, DV.s_unpT, DV.s_maxL, DV.s_minL, DV.s_onMM, DV.s_inL, DV.s_inT, DV.s_onIn, DV.s_onNotIn, DV.s_LRg2, DV.D.ints_ints])
local macro_rules | `(tactic| walk_at "dh") => `(tactic| simp -implicitDefEqProofs only [
  DV.n_s_op, DV.n_s_test, DV.n_s_notT, DV.n_s_andT, DV.n_s_orT, DV.n_s_andV, DV.n_s_orV, DV.n_s_notV, DV.n_s_if, DV.n_s_onC, DV.n_s_chLeLt, DV.n_s_chLeLe, DV.n_s_chLtLe, DV.n_s_un, DV.n_s_ACons, DV.n_s_FCons, DV.n_s_AFCons, DV.n_s_lst, DV.n_s_tup, DV.n_s_call, DV.n_s_seq, DV.n_s_drop, DV.n_s_ret, DV.n_s_ifS, DV.n_s_asg, DV.n_s_augS, DV.n_s_tupAsg, DV.n_s_for, DV.n_whL_succ, DV.n_s_iseq, DV.n_s_irg, DV.n_s_izip, DV.n_s_lc, DV.n_lcL_cons, DV.n_s_fn, DV.n_s_mut, DV.n_s_store, DV.n_s_oSome, DV.n_s_sl, DV.n_s_sl3, DV.n_s_lrg1, DV.n_s_lrg2, DV.S0.loop_nx, DV.S0.loop_ct, DV.S0.loop_brk, DV.S0.loop_ret, DV.S0.loop_exc, DV.S0.loop_stuck, DV.S0.s_onG, DV.S0.s_onG0, DV.S0.s_onB, DV.S0.s_onI, DV.S0.s_onN, DV.S0.s_pkv, DV.S0.s_pkt, DV.S0.s_pks, DV.S0.s_pkS1, DV.S0.s_pkS2, DV.S0.s_pkS3, DV.S0.s_var, DV.S0.s_vr1, DV.S0.s_vr2, DV.S0.s_vr3, DV.S0.s_C, DV.S0.s_on, DV.S0.s_onV, DV.S0.s_onU, DV.S0.s_neg, DV.S0.s_II, DV.S0.s_IC, DV.S0.s_addI, DV.S0.s_addL, DV.S0.s_addT, DV.S0.s_addS, DV.S0.s_mulI, DV.S0.s_mulL, DV.S0.s_ixL, DV.S0.s_ixT, DV.S0.s_ixC, DV.S0.s_ANil, DV.S0.s_FNil, DV.S0.s_onF, DV.S0.s_fzv, DV.S0.s_fzt, DV.S0.s_fzs, DV.S0.s_fzS1, DV.S0.s_fzS2, DV.S0.s_peeks0, DV.S0.s_cons2, DV.S0.s_peeks, DV.S0.s_onLs, DV.S0.s_onL, DV.S0.s_lenL, DV.S0.s_lenT, DV.S0.s_lenC, DV.S0.s_listL, DV.S0.s_listT, DV.S0.s_tupleL, DV.S0.s_tupleT, DV.S0.s_intI, DV.S0.s_intB, DV.S0.s_abs, DV.S0.s_max2, DV.S0.s_min2, DV.S0.s_all, DV.S0.s_any, DV.S0.s_sum, DV.S0.s_asgv, DV.S0.s_asgt, DV.S0.s_asgs, DV.S0.s_asgS1, DV.S0.s_asgS2, DV.S0.s_asgS3, DV.S0.s_aug, DV.S0.s_onT, DV.S0.s_fzS0, DV.S0.s_fzSv, DV.S0.s_fzSt, DV.S0.s_fzSs, DV.S0.s_fzSk, DV.S0.s_many0, DV.S0.s_manyv, DV.S0.s_manyt, DV.S0.forL_nil, DV.S0.s_tg1, DV.S0.s_tgm, DV.S0.s_vals0, DV.S0.s_vals, DV.S0.s_itL, DV.S0.s_itT, DV.S0.s_rs1, DV.S0.s_rs2, DV.S0.s_onZL, DV.S0.s_onZT, DV.S0.lcL_nil, DV.S0.s_yes, DV.S0.s_onA, DV.S0.s_arg0, DV.S0.s_argV, DV.S0.s_argv, DV.S0.s_argB, DV.S0.s_argb, DV.S0.s_argi, DV.S0.s_setIo0, DV.S0.s_out0, DV.S0.s_out1, DV.S0.s_out1o, DV.S0.s_muO, DV.S0.s_onMut, DV.S0.s_onRc, DV.S0.s_rc, DV.S0.s_rcL, DV.S0.s_app, DV.S0.s_ext, DV.S0.s_popO, DV.S0.s_popAt, DV.S0.s_onFf, DV.S0.s_onSt, DV.S0.s_stO, DV.S0.s_gSt, DV.S0.s_stSo, DV.S0.s_stSi, DV.S0.s_onMuo, DV.S0.s_onMui, DV.S0.s_argIo, DV.S0.s_argIi, DV.S0.s_oNone, DV.S0.s_slL, DV.S0.s_slT, DV.S0.s_sl3L, DV.S0.s_run, DV.S0.s_endN, DV.S0.s_endR, DV.S0.s_endRp, DV.S0.s_endO, DV.S0.s_noExc, DV.S0.s_noX, DV.S0.s_resv, DV.S0.s_rest, DV.S0.s_ress, DV.S0.s_resS1, DV.S0.s_resS2, DV.S0.s_outs0, DV.S0.s_outC, DV.S0.s_outs, DV.S0.s_outAt, DV.S0.s_outS, DV.S0.s_ioIx0, DV.S0.s_ioIxv, DV.S0.s_ioIxb, DV.S0.s_ioIxi, DV.S0.s_init0, DV.S0.s_initv, DV.S0.s_initb, DV.S0.s_initi, DV.S0.s_wipe0, DV.S0.s_wipe, DV.S0.s_ap0, DV.S0.s_apv, DV.S0.s_api, DV.S0.s_apbv, DV.S0.s_apbt, DV.S0.s_apbs, DV.kOp2, DV.kOp, DV.kTest, DV.kNotT, DV.kAndT, DV.kOrT, DV.kBl, DV.kAndV, DV.kOrV, DV.kNotV, DV.kIf, DV.kCh2, DV.kCh, DV.kUn, DV.kAC2, DV.kAC, DV.kFC3, DV.kFC2, DV.kFC, DV.kAFC3, DV.kAFC2, DV.kAFC, DV.kLst, DV.kTup, DV.kCall, DV.kDrop, DV.kRet, DV.kIfS, DV.kAsg, DV.kAug, DV.kT, DV.kFor, DV.kWh, DV.kISeq, DV.kIRg, DV.kLC2, DV.kLC, DV.kL3, DV.kL2, DV.kL1, DV.kFn, DV.kMut3, DV.kMut2, DV.kMut, DV.kSt4, DV.kSt3, DV.kSt2, DV.kSt, DV.kOS, DV.kSl2, DV.kSl1, DV.kSl, DV.kSl33, DV.kSl32, DV.kSl31, DV.kSl3, DV.kLRg1, DV.kLRg22, DV.kLRg2, DV.kC2, DV.kC,
  Rs.bind_ok, Rs.bind_stuck, Rs.bind_exc, Rs.fl_ok, Rs.fl_stuck, Rs.fl_exc, Rs.wp_ok, Fl.seq_nx, Fl.seq_ret, Fl.seq_brk, Fl.seq_ct, Fl.seq_stuck, Fl.seq_exc,
  List.getElem?_cons_zero, List.getElem?_cons_succ, List.getElem?_nil, List.set_cons_zero, List.set_cons_succ, List.set_nil, List.cons_append, List.nil_append, List.append_nil, List.replicate, List.length_cons, List.length_nil, Nat.reduceAdd, Nat.reduceSub, Nat.zero_add, List.contains_nil, List.contains_cons, startL,
  Bool.and_true, Bool.true_and, Bool.and_false, Bool.false_and, Bool.or_true, Bool.true_or, Bool.or_false, Bool.false_or, Bool.not_true, Bool.not_false, if_true, if_false, reduceIte, reduceCtorEq, decide_true, decide_false, decide_eq_true_eq, Option.map_some, Option.map_none, Option.some_or, Option.none_or, Option.bind_some, Option.bind_none, Bool.false_eq_true, Nat.reduceLeDiff, Nat.reduceEqDiff, beq_iff_eq, Nat.reduceBEq, ne_eq, not_true_eq_false, not_false_eq_true, Option.some.injEq, Bool.not_eq_true', decide_eq_false_iff_not, Bool.not_not, L2.ixN, DV.atI_0, DV.atI_1, DV.atI_2, DV.atI_3, DV.atI_4, DV.atI_5, DV.atI_6, DV.atI_7, DV.atI_8, DV.atI_9, DV.atI_10, DV.atI_11, DV.atI_12, DV.atI_13, DV.atI_14, DV.atI_15, DV.atI_m1, DV.s_eqI, DV.s_neI, DV.s_eqB, DV.s_neB, Int.reduceLE, Int.reduceLT, Int.reduceNeg, Int.reduceToNat, Int.reduceAdd, Int.reduceMul, Int.reduceSub, Int.le_refl, Int.cast_ofNat_Int, Int.toNat_zero, Int.toNat_one, Int.reducePow, true_and, and_true, DV.isi_non_int, DV.isi_non_bool, DV.isi_non_str, DV.isi_non_list, DV.isi_non_tuple, DV.isi_non_seq, DV.isN_non, DV.isi_bl_int, DV.isi_bl_bool, DV.isi_bl_str, DV.isi_bl_list, DV.isi_bl_tuple, DV.isi_bl_seq, DV.isN_bl, DV.isi_int_int, DV.isi_int_bool, DV.isi_int_str, DV.isi_int_list, DV.isi_int_tuple, DV.isi_int_seq, DV.isN_int, DV.isi_str_int, DV.isi_str_bool, DV.isi_str_str, DV.isi_str_list, DV.isi_str_tuple, DV.isi_str_seq, DV.isN_str, DV.isi_lst_int, DV.isi_lst_bool, DV.isi_lst_str, DV.isi_lst_list, DV.isi_lst_tuple, DV.isi_lst_seq, DV.isN_lst, DV.isi_tup_int, DV.isi_tup_bool, DV.isi_tup_str, DV.isi_tup_list, DV.isi_tup_tuple, DV.isi_tup_seq, DV.isN_tup, DV.s_eqN, DV.s_neN, DV.b_tt, DV.b_tf, DV.b_ft, DV.b_ff, DV.n_s_unp, DV.kUnp, DV.s_unpT, DV.s_maxL, DV.s_minL, DV.s_onMM, DV.s_inL, DV.s_inT, DV.s_onIn, DV.s_onNotIn, DV.s_LRg2, DV.D.ints_ints, *])
/-! ### bigger than all up to a box -/
def rgI (a b : Int) : List Int := (List.range (b - a).toNat).map fun i => a + (i : Nat)
theorem rgE_rgI (a b : Int) : rgE a b = dInts (rgI a b) := by unfold rgE rgI dInts; rw [List.map_map]; rfl
theorem rgI_mem {a b p : Int} : p ∈ rgI a b ↔ a ≤ p ∧ p < b := by
  unfold rgI
  simp only [List.mem_map, List.mem_range]
  constructor
  · rintro ⟨i, h, rfl⟩; omega
  · intro h; exact ⟨(p - a).toNat, by omega, by omega⟩
theorem rgI_len (a b : Int) : (rgI a b).length = (b - a).toNat := by simp [rgI]
def mn (i j : Int) : Int := if j < i then j else i
def mx (i j : Int) : Int := if j > i then j else i
theorem all_dec {ps : List Int} {ys : List D} {f : Int → Bool} (hl : ys.length = ps.length) (h : ∀ (j : Nat) (y : D), ys[j]? = some y → ∀ p, ps[j]? = some p → y = .bl (f p)) : gAll [.lst ys] = some (.v (.bl (ps.all f))) := by
  have e : ys = (ps.map f).map D.bl := by
    apply List.ext_getElem?
    intro j
    by_cases hj : j < ys.length
    · rw [List.getElem?_eq_getElem hj, h j _ (List.getElem?_eq_getElem hj) (ps[j]'(by omega)) (List.getElem?_eq_getElem (by omega))]
      simp [show j < ps.length by omega]
    · rw [List.getElem?_eq_none (by omega), List.getElem?_eq_none (by simp; omega)]
  rw [S0.s_all, e, D.bls_map]
  simp [List.all_map]
def btw (u a : Int) : List Int := rgI (mn u a + 1) (mx u a) ++ [a]
def aboveB (v : Int → Int) (u a : Int) : Bool := (btw u a).all fun p => decide (v p < v u)
theorem mbetween {u a n : Int} (hu : 0 ≤ u ∧ u < n) (ha : 0 ≤ a ∧ a < n) (hn : n ≤ 20) : M_between [.int u, .int a] = .ok true (.lst (dInts (rgI (mn u a + 1) (mx u a)))) [] := by
  have e1 : rgEok (mn u a + 1) (mx u a) = true := by
    unfold rgEok mn mx
    rw [rgOk_of (by split <;> omega) (by split <;> omega), rgOk_of (by split <;> omega) (by split <;> omega)]
    simp
    split <;> split <;> omega
  rw [← rgE_rgI]
  unfold mn mx at *
  show noExc (runF [.val, .val] 2 g_between) _ = _
  unfold g_between
  walk_at "dh"
theorem above_lc {Ns : List D} {n : Int} {v : Int → Int} (R : RowV Ns n v) {u a : Int} (hu : 0 ≤ u ∧ u < n) : ∀ ps : List Int, ps.length ≤ 1000 → (∀ p ∈ ps, 0 ≤ p ∧ p < n) →
    ∃ ys L', lcL [3] (.one 3) dYes (dOp gLt (dOp gIx (dVar 0) (dVar 3)) (dOp gIx (dVar 0) (dVar 1))) (dInts ps) [] [.val (.tup Ns), .val (.int u), .val (.int a), .un] = .ok ys L' ∧ gAll [.lst ys] = some (.v (.bl (ps.all fun p => decide (v p < v u)))) := by
  intro ps hl hp
  have h := lc_inv (vs := [3]) (t := .one 3) (c := dYes) (e := dOp gLt (dOp gIx (dVar 0) (dVar 3)) (dOp gIx (dVar 0) (dVar 1))) (I := fun _ L => L = [.val (.tup Ns), .val (.int u), .val (.int a), .un]) (F := fun j y => ∀ p, ps[j]? = some p → y = .bl (decide (v p < v u)))
    (dInts ps) 0 [] [.val (.tup Ns), .val (.int u), .val (.int a), .un] rfl (by simp [dInts]; omega) ?_
  · obtain ⟨ys, L', h1, h2, h3, _⟩ := h
    refine ⟨ys, L', by simpa using h1, all_dec (by simpa [dInts] using h2) fun j y hy p hpj => h3 j y hy p (by rw [Nat.zero_add]; exact hpj)⟩
  · intro j d L hd hI
    subst hI
    rw [Nat.zero_add]
    simp only [dInts, List.getElem?_map] at hd
    cases hpj : ps[j]? with
    | none => rw [hpj] at hd; cases hd
    | some p =>
      rw [hpj] at hd
      cases hd
      obtain ⟨p0, p1⟩ := hp p (List.mem_of_getElem? hpj)
      have a1 := R.at_ p p0 p1
      have a2 := R.at_ u hu.1 hu.2
      refine ⟨[.val (.tup Ns), .val (.int u), .val (.int a), .val (.int p)], _, .v (.bl (decide (v p < v u))), [.val (.tup Ns), .val (.int u), .val (.int a), .val (.int p)], .bl (decide (v p < v u)), [.val (.tup Ns), .val (.int u), .val (.int a), .val (.int p)], rfl, rfl, ?_, rfl, fun q hq => by cases hq; rfl, rfl⟩
      clear hl hp hpj
      walk_at "dh"
theorem btw_mem {u a p n : Int} (hu : 0 ≤ u ∧ u < n) (ha : 0 ≤ a ∧ a < n) (h : p ∈ btw u a) : 0 ≤ p ∧ p < n := by
  unfold btw mn mx at h
  simp only [List.mem_append, rgI_mem, List.mem_singleton] at h
  rcases h with h | rfl
  · split at h <;> split at h <;> omega
  · exact ha
theorem mabove {Ns : List D} {n : Int} {v : Int → Int} (R : RowV Ns n v) {u a : Int} (hu : 0 ≤ u ∧ u < n) (ha : 0 ≤ a ∧ a < n) (hn : n ≤ 20) : M_is_above [.tup Ns, .int u, .int a] = .ok false (.bl (aboveB v u a)) [] := by
  have hb : (btw u a).length ≤ 1000 := by unfold btw mn mx; rw [List.length_append, rgI_len]; simp; split <;> split <;> omega
  obtain ⟨ys, L', h1, h2⟩ := above_lc R (u := u) (a := a) hu (btw u a) hb fun p hp => btw_mem hu ha hp
  have c := mbetween hu ha hn
  have e : dInts (btw u a) = dInts (rgI (mn u a + 1) (mx u a)) ++ [.int a] := by simp [btw, dInts]
  have l1 : lenOk 1 = true := rfl
  have l2 : lenOk ((dInts (rgI (mn u a + 1) (mx u a))).length + 1) = true := lenOk_of (by unfold btw at hb; simp [dInts] at hb ⊢; omega)
  rw [e] at h1
  have h2' : gAll [.lst ys] = some (.v (.bl (aboveB v u a))) := h2
  clear h2 e hb hu ha
  generalize dInts (rgI (mn u a + 1) (mx u a)) = Ps at *
  generalize aboveB v u a = B at *
  show noExc (runF [.val, .val, .val] 4 g_is_above) _ = _
  unfold g_is_above
  generalize M_between = mm at *
  generalize dOp gLt (dOp gIx (dVar 0) (dVar 3)) (dOp gIx (dVar 0) (dVar 1)) = W at *
  walk_at "dh"
theorem mm_spec (i j : Int) : mn i j ≤ i ∧ mn i j ≤ j ∧ (mn i j = i ∨ mn i j = j) ∧ i ≤ mx i j ∧ j ≤ mx i j ∧ (mx i j = i ∨ mx i j = j) := by
  unfold mn mx
  split <;> split <;> omega
def inn (s m : Int) : List Int := rgI (mn s m) (mx s m + 1)
def maxL : List Int → Int
  | [] => 0
  | n :: ns => maxI n ns
theorem onMM_max {zs : List Int} (h : zs ≠ []) : onMM maxI (some zs) = some (.v (.int (maxL zs))) := by
  cases zs with
  | nil => exact absurd rfl h
  | cons z zs => rfl
theorem maxL_iff {zs : List Int} {x : Int} (h : x ∈ zs) : x = maxL zs ↔ ∀ y ∈ zs, y ≤ x := by
  cases zs with
  | nil => cases h
  | cons n ns =>
    obtain ⟨k1, k2, k3⟩ := maxI_ge ns n
    show x = maxI n ns ↔ _
    constructor
    · rintro rfl y hy
      rcases List.mem_cons.mp hy with rfl | hy
      · exact k1
      · exact k2 y hy
    · intro hx
      have a1 : maxI n ns ≤ x := hx _ (by rcases k3 with k3 | k3 <;> simp [k3])
      have a2 : x ≤ maxI n ns := by
        rcases List.mem_cons.mp h with rfl | h
        · exact k1
        · exact k2 x h
      omega
def topB (v : Int → Int) (s m : Int) : Bool := decide (v m = maxL ((inn s m).map v))
theorem inn_mem {s m p n : Int} (hs : 0 ≤ s ∧ s < n) (hm : 0 ≤ m ∧ m < n) (h : p ∈ inn s m) : 0 ≤ p ∧ p < n := by
  have := mm_spec s m
  unfold inn at h
  simp only [rgI_mem] at h
  omega
theorem top_above {v : Int → Int} {n s m : Int} (hi : ∀ i j, 0 ≤ i → i < n → 0 ≤ j → j < n → v i = v j → i = j) (hs : 0 ≤ s ∧ s < n) (hm : 0 ≤ m ∧ m < n) (hne : m ≠ s) : topB v s m = aboveB v m s := by
  have z1 := mm_spec s m
  have z2 := mm_spec m s
  have hmem : v m ∈ (inn s m).map v := List.mem_map.mpr ⟨m, by unfold inn; rw [rgI_mem]; omega, rfl⟩
  have key : ∀ p, (p ∈ btw m s ↔ p ∈ inn s m ∧ p ≠ m) := by
    intro p
    unfold btw inn
    simp only [List.mem_append, rgI_mem, List.mem_singleton]
    omega
  unfold topB aboveB
  rw [Bool.eq_iff_iff, decide_eq_true_eq, maxL_iff hmem, List.all_eq_true]
  constructor
  · intro h p hp
    have hp2 := btw_mem hm hs hp
    obtain ⟨hin, hpm⟩ := (key p).mp hp
    have h1 := h (v p) (List.mem_map.mpr ⟨p, hin, rfl⟩)
    have h2 : v p ≠ v m := fun e => hpm (hi p m hp2.1 hp2.2 hm.1 hm.2 e)
    exact decide_eq_true (by omega)
  · intro h y hy
    obtain ⟨p, hp, rfl⟩ := List.mem_map.mp hy
    by_cases hpm : p = m
    · subst hpm; omega
    · have := of_decide_eq_true (h p ((key p).mpr ⟨hp, hpm⟩))
      omega
theorem map_of {ps : List Int} {ys : List D} {f : Int → Int} (hl : ys.length = ps.length) (h : ∀ (j : Nat) (y : D), ys[j]? = some y → ∀ p, ps[j]? = some p → y = .int (f p)) : ys = dInts (ps.map f) := by
  apply List.ext_getElem?
  intro j
  by_cases hj : j < ys.length
  · rw [List.getElem?_eq_getElem hj, h j _ (List.getElem?_eq_getElem hj) (ps[j]'(by omega)) (List.getElem?_eq_getElem (by omega))]
    simp [dInts, show j < ps.length by omega]
  · rw [List.getElem?_eq_none (by omega), List.getElem?_eq_none (by simp [dInts]; omega)]
theorem high_lc {Ns : List D} {n : Int} {v : Int → Int} (R : RowV Ns n v) {s0 s1 s2 s3 s4 : Sl} (h0 : s0 = .val (.tup Ns)) : ∀ ps : List Int, ps.length ≤ 1000 → (∀ p ∈ ps, 0 ≤ p ∧ p < n) →
    lcL [5] (.one 5) dYes (dOp gIx (dVar 0) (dVar 5)) (dInts ps) [] [s0, s1, s2, s3, s4, .un] = .ok (dInts (ps.map v)) [s0, s1, s2, s3, s4, .un] := by
  intro ps hl hp
  have h := lc_inv (vs := [5]) (t := .one 5) (c := dYes) (e := dOp gIx (dVar 0) (dVar 5)) (I := fun _ L => L = [s0, s1, s2, s3, s4, .un]) (F := fun j y => ∀ p, ps[j]? = some p → y = .int (v p))
    (dInts ps) 0 [] [s0, s1, s2, s3, s4, .un] rfl (by simp [dInts]; omega) ?_
  · obtain ⟨ys, L', h1, h2, h3, h4⟩ := h
    have e := map_of (f := v) (ps := ps) (by simpa [dInts] using h2) fun j y hy p hpj => h3 j y hy p (by rw [Nat.zero_add]; exact hpj)
    rw [h1, h4, e]; rfl
  · intro j d L hd hI
    subst hI
    rw [Nat.zero_add]
    simp only [dInts, List.getElem?_map] at hd
    cases hpj : ps[j]? with
    | none => rw [hpj] at hd; cases hd
    | some p =>
      rw [hpj] at hd
      cases hd
      obtain ⟨p0, p1⟩ := hp p (List.mem_of_getElem? hpj)
      have a1 := R.at_ p p0 p1
      refine ⟨[s0, s1, s2, s3, s4, .val (.int p)], _, .v (.int (v p)), [s0, s1, s2, s3, s4, .val (.int p)], .int (v p), [s0, s1, s2, s3, s4, .val (.int p)], rfl, rfl, ?_, rfl, fun q hq => by cases hq; rfl, rfl⟩
      clear hl hp hpj
      subst h0
      walk_at "dh"
def highB : DS := (dSeq (dAsg 4 (dLRg2 (dCall gMin2 (dACons (dVar 1) (dACons (dVar 3) dANil))) (dOp gAdd (dCall gMax2 (dACons (dVar 1) (dACons (dVar 3) dANil))) (dC (.int 1))))) (dIfS (dAndT (dTest (dOp gNe (dVar 3) (dVar 1))) (dTest (dOp gEq (dOp gIx (dVar 0) (dVar 3)) (dCall gMaxL (dACons (dLC [5] (.one 5) (dISeq (dVar 4)) dYes (dOp gIx (dVar 0) (dVar 5))) dANil))))) (dDrop (dMut "list" gApp (dVar 2) (dFCons (dVar 3) dFNil))) dNop))
theorem high_step {Ns : List D} {n : Int} {v : Int → Int} (R : RowV Ns n v) {s m : Int} (hs : 0 ≤ s ∧ s < n) (hm : 0 ≤ m ∧ m < n) (hn : n ≤ 20) {hsL : List Int} (hh : hsL.length ≤ 100) (s4 : Sl) :
    ∃ s4', highB [.val (.tup Ns), .val (.int s), .obj .own (.lst (dInts hsL)), .val (.int m), s4, .un] = .nx [.val (.tup Ns), .val (.int s), .obj .own (.lst (dInts (if m ≠ s ∧ topB v s m = true then hsL ++ [m] else hsL))), .val (.int m), s4', .un] := by
  have z1 := mm_spec s m
  have e1 : rgEok (mn s m) (mx s m + 1) = true := by
    unfold rgEok
    rw [rgOk_of (by omega) (by omega), rgOk_of (by omega) (by omega)]
    simp
    omega
  have e2 : rgE (mn s m) (mx s m + 1) = dInts (inn s m) := rgE_rgI _ _
  have hil : (inn s m).length ≤ 1000 := by unfold inn; rw [rgI_len]; omega
  have hlc := fun s4 => high_lc R (s0 := .val (.tup Ns)) (s1 := .val (.int s)) (s2 := .obj .own (.lst (dInts hsL))) (s3 := .val (.int m)) (s4 := s4) rfl (inn s m) hil fun p hp => inn_mem hs hm hp
  have hne : (inn s m).map v ≠ [] := by
    intro e
    have : m ∈ inn s m := by unfold inn; rw [rgI_mem]; omega
    have : v m ∈ (inn s m).map v := List.mem_map.mpr ⟨m, this, rfl⟩
    rw [e] at this
    cases this
  have hmx : gMaxL [.lst (dInts ((inn s m).map v))] = some (.v (.int (maxL ((inn s m).map v)))) := by
    show onMM maxI (D.ints _) = _
    rw [D.ints_ints, onMM_max hne]
  have ha := R.at_ m hm.1 hm.2
  have l1 : lenOk (dInts hsL).length = true := lenOk_of (by simp [dInts]; omega)
  have l2 : dInts (hsL ++ [m]) = dInts hsL ++ [.int m] := by simp [dInts]
  have ht : topB v s m = true ↔ v m = maxL ((inn s m).map v) := by unfold topB; exact decide_eq_true_iff
  clear R hs hm hn hh hil hne z1
  generalize hHs : dInts hsL = Hs at *
  generalize hT : maxL ((inn s m).map v) = T at *
  generalize dInts ((inn s m).map v) = Vs at *
  generalize dInts (inn s m) = Is at *
  unfold mn mx at e1 e2
  unfold highB
  generalize dOp gIx (dVar 0) (dVar 5) = W at *
  clear hT
  by_cases c1 : m = s
  · rw [if_neg (fun h => h.1 c1), hHs]
    clear hHs
    have c1' := eq_true c1
    clear c1 ht
    exact ⟨.obj .own (.lst Is), by walk_at "dh"⟩
  · by_cases c2 : v m = T
    · rw [if_pos ⟨c1, ht.mpr c2⟩, l2]
      clear hHs l2
      have c2' := eq_true c2
      clear c2 ht
      exact ⟨.val (.lst Is), by walk_at "dh"⟩
    · rw [if_neg (fun h => c2 (ht.mp h.2)), hHs]
      clear ht hHs
      exact ⟨.val (.lst Is), by walk_at "dh"⟩

end K79
end
section
set_option Elab.async false
set_option linter.all false
set_option maxRecDepth 100000
set_option maxHeartbeats 4000000
namespace K79
open PySem PySem.Spec PyProof.Rows L2 DV
local macro_rules | `(tactic| walk_at "ds") => `(tactic| simp -implicitDefEqProofs only [
  DV.n_s_op, DV.n_s_test, DV.n_s_notT, DV.n_s_andT, DV.n_s_orT, DV.n_s_andV, DV.n_s_orV, DV.n_s_notV, DV.n_s_if, DV.n_s_onC, DV.n_s_chLeLt, DV.n_s_chLeLe, DV.n_s_chLtLe, DV.n_s_un, DV.n_s_ACons, DV.n_s_FCons, DV.n_s_AFCons, DV.n_s_lst, DV.n_s_tup, DV.n_s_call, DV.n_s_seq, DV.n_s_drop, DV.n_s_ret, DV.n_s_ifS, DV.n_s_asg, DV.n_s_augS, DV.n_s_tupAsg, DV.n_s_for, DV.n_whL_succ, DV.n_s_iseq, DV.n_s_irg, DV.n_s_izip, DV.n_s_lc, DV.n_lcL_cons, DV.n_s_fn, DV.n_s_mut, DV.n_s_store, DV.n_s_oSome, DV.n_s_sl, DV.n_s_sl3, DV.n_s_lrg1, DV.n_s_lrg2, DV.S0.loop_nx, DV.S0.loop_ct, DV.S0.loop_brk, DV.S0.loop_ret, DV.S0.loop_exc, DV.S0.loop_stuck, DV.S0.s_onG, DV.S0.s_onG0, DV.S0.s_onB, DV.S0.s_onI, DV.S0.s_onN, DV.S0.s_pkv, DV.S0.s_pkt, DV.S0.s_pks, DV.S0.s_pkS1, DV.S0.s_pkS2, DV.S0.s_pkS3, DV.S0.s_var, DV.S0.s_vr1, DV.S0.s_vr2, DV.S0.s_vr3, DV.S0.s_C, DV.S0.s_on, DV.S0.s_onV, DV.S0.s_onU, DV.S0.s_neg, DV.S0.s_II, DV.S0.s_IC, DV.S0.s_addI, DV.S0.s_addL, DV.S0.s_addT, DV.S0.s_addS, DV.S0.s_mulI, DV.S0.s_mulL, DV.S0.s_ixL, DV.S0.s_ixT, DV.S0.s_ixC, DV.S0.s_ANil, DV.S0.s_FNil, DV.S0.s_onF, DV.S0.s_fzv, DV.S0.s_fzt, DV.S0.s_fzs, DV.S0.s_fzS1, DV.S0.s_fzS2, DV.S0.s_peeks0, DV.S0.s_cons2, DV.S0.s_peeks, DV.S0.s_onLs, DV.S0.s_onL, DV.S0.s_lenL, DV.S0.s_lenT, DV.S0.s_lenC, DV.S0.s_listL, DV.S0.s_listT, DV.S0.s_tupleL, DV.S0.s_tupleT, DV.S0.s_intI, DV.S0.s_intB, DV.S0.s_abs, DV.S0.s_max2, DV.S0.s_min2, DV.S0.s_all, DV.S0.s_any, DV.S0.s_sum, DV.S0.s_asgv, DV.S0.s_asgt, DV.S0.s_asgs, DV.S0.s_asgS1, DV.S0.s_asgS2, DV.S0.s_asgS3, DV.S0.s_aug, DV.S0.s_onT, DV.S0.s_fzS0, DV.S0.s_fzSv, DV.S0.s_fzSt, DV.S0.s_fzSs, DV.S0.s_fzSk, DV.S0.s_many0, DV.S0.s_manyv, DV.S0.s_manyt, DV.S0.forL_nil, DV.S0.s_tg1, DV.S0.s_tgm, DV.S0.s_vals0, DV.S0.s_vals, DV.S0.s_itL, DV.S0.s_itT, DV.S0.s_rs1, DV.S0.s_rs2, DV.S0.s_onZL, DV.S0.s_onZT, DV.S0.lcL_nil, DV.S0.s_yes, DV.S0.s_onA, DV.S0.s_arg0, DV.S0.s_argV, DV.S0.s_argv, DV.S0.s_argB, DV.S0.s_argb, DV.S0.s_argi, DV.S0.s_setIo0, DV.S0.s_out0, DV.S0.s_out1, DV.S0.s_out1o, DV.S0.s_muO, DV.S0.s_onMut, DV.S0.s_onRc, DV.S0.s_rc, DV.S0.s_rcL, DV.S0.s_app, DV.S0.s_ext, DV.S0.s_popO, DV.S0.s_popAt, DV.S0.s_onFf, DV.S0.s_onSt, DV.S0.s_stO, DV.S0.s_gSt, DV.S0.s_stSo, DV.S0.s_stSi, DV.S0.s_onMuo, DV.S0.s_onMui, DV.S0.s_argIo, DV.S0.s_argIi, DV.S0.s_oNone, DV.S0.s_slL, DV.S0.s_slT, DV.S0.s_sl3L, DV.S0.s_run, DV.S0.s_endN, DV.S0.s_endR, DV.S0.s_endRp, DV.S0.s_endO, DV.S0.s_noExc, DV.S0.s_noX, DV.S0.s_resv, DV.S0.s_rest, DV.S0.s_ress, DV.S0.s_resS1, DV.S0.s_resS2, DV.S0.s_outs0, DV.S0.s_outC, DV.S0.s_outs, DV.S0.s_outAt, DV.S0.s_outS, DV.S0.s_ioIx0, DV.S0.s_ioIxv, DV.S0.s_ioIxb, DV.S0.s_ioIxi, DV.S0.s_init0, DV.S0.s_initv, DV.S0.s_initb, DV.S0.s_initi, DV.S0.s_wipe0, DV.S0.s_wipe, DV.S0.s_ap0, DV.S0.s_apv, DV.S0.s_api, DV.S0.s_apbv, DV.S0.s_apbt, DV.S0.s_apbs, DV.kOp2, DV.kOp, DV.kTest, DV.kNotT, DV.kAndT, DV.kOrT, DV.kBl, DV.kAndV, DV.kOrV, DV.kNotV, DV.kIf, DV.kCh2, DV.kCh, DV.kUn, DV.kAC2, DV.kAC, DV.kFC3, DV.kFC2, DV.kFC, DV.kAFC3, DV.kAFC2, DV.kAFC, DV.kLst, DV.kTup, DV.kCall, DV.kDrop, DV.kRet, DV.kIfS, DV.kAsg, DV.kAug, DV.kT, DV.kFor, DV.kWh, DV.kISeq, DV.kIRg, DV.kLC2, DV.kLC, DV.kL3, DV.kL2, DV.kL1, DV.kFn, DV.kMut3, DV.kMut2, DV.kMut, DV.kSt4, DV.kSt3, DV.kSt2, DV.kSt, DV.kOS, DV.kSl2, DV.kSl1, DV.kSl, DV.kSl33, DV.kSl32, DV.kSl31, DV.kSl3, DV.kLRg1, DV.kLRg22, DV.kLRg2, DV.kC2, DV.kC,
  Rs.bind_ok, Rs.bind_stuck, Rs.bind_exc, Rs.fl_ok, Rs.fl_stuck, Rs.fl_exc, Rs.wp_ok, Fl.seq_nx, Fl.seq_ret, Fl.seq_brk, Fl.seq_ct, Fl.seq_stuck, Fl.seq_exc,
  List.getElem?_cons_zero, List.getElem?_cons_succ, List.getElem?_nil, List.set_cons_zero, List.set_cons_succ, List.set_nil, List.cons_append, List.nil_append, List.append_nil, List.replicate, List.length_cons, List.length_nil, Nat.reduceAdd, Nat.reduceSub, Nat.zero_add, List.contains_nil, List.contains_cons, startL,
  Bool.and_true, Bool.true_and, Bool.and_false, Bool.false_and, Bool.or_true, Bool.true_or, Bool.or_false, Bool.false_or, Bool.not_true, Bool.not_false, if_true, if_false, reduceIte, reduceCtorEq, decide_true, decide_false, decide_eq_true_eq, Option.map_some, Option.map_none, Option.some_or, Option.none_or, Option.bind_some, Option.bind_none, Bool.false_eq_true, Nat.reduceLeDiff, Nat.reduceEqDiff, beq_iff_eq, Nat.reduceBEq, ne_eq, not_true_eq_false, not_false_eq_true, Option.some.injEq, Bool.not_eq_true', decide_eq_false_iff_not, Bool.not_not, L2.ixN, DV.atI_0, DV.atI_1, DV.atI_2, DV.atI_3, DV.atI_4, DV.atI_5, DV.atI_6, DV.atI_7, DV.atI_8, DV.atI_9, DV.atI_10, DV.atI_11, DV.atI_12, DV.atI_13, DV.atI_14, DV.atI_15, DV.atI_m1, DV.s_eqI, DV.s_neI, DV.s_eqB, DV.s_neB, Int.reduceLE, Int.reduceLT, Int.reduceNeg, Int.reduceToNat, Int.reduceAdd, Int.reduceMul, Int.reduceSub, Int.le_refl, Int.cast_ofNat_Int, Int.toNat_zero, Int.toNat_one, Int.reducePow, true_and, and_true, DV.isi_non_int, DV.isi_non_bool, DV.isi_non_str, DV.isi_non_list, DV.isi_non_tuple, DV.isi_non_seq, DV.isN_non, DV.isi_bl_int, DV.isi_bl_bool, DV.isi_bl_str, DV.isi_bl_list, DV.isi_bl_tuple, DV.isi_bl_seq, DV.isN_bl, DV.isi_int_int, DV.isi_int_bool, DV.isi_int_str, DV.isi_int_list, DV.isi_int_tuple, DV.isi_int_seq, DV.isN_int, DV.isi_str_int, DV.isi_str_bool, DV.isi_str_str, DV.isi_str_list, DV.isi_str_tuple, DV.isi_str_seq, DV.isN_str, DV.isi_lst_int, DV.isi_lst_bool, DV.isi_lst_str, DV.isi_lst_list, DV.isi_lst_tuple, DV.isi_lst_seq, DV.isN_lst, DV.isi_tup_int, DV.isi_tup_bool, DV.isi_tup_str, DV.isi_tup_list, DV.isi_tup_tuple, DV.isi_tup_seq, DV.isN_tup, DV.s_eqN, DV.s_neN, DV.b_tt, DV.b_tf, DV.b_ft, DV.b_ff, DV.n_s_unp, DV.kUnp, DV.s_unpT, DV.s_maxL, DV.s_minL, DV.s_onMM, DV.s_inL, DV.s_inT, DV.s_onIn, DV.s_onNotIn, DV.s_LRg2, DV.D.ints_ints])
local macro_rules | `(tactic| walk_at "dh") => `(tactic| simp -implicitDefEqProofs only [
  DV.n_s_op, DV.n_s_test, DV.n_s_notT, DV.n_s_andT, DV.n_s_orT, DV.n_s_andV, DV.n_s_orV, DV.n_s_notV, DV.n_s_if, DV.n_s_onC, DV.n_s_chLeLt, DV.n_s_chLeLe, DV.n_s_chLtLe, DV.n_s_un, DV.n_s_ACons, DV.n_s_FCons, DV.n_s_AFCons, DV.n_s_lst, DV.n_s_tup, DV.n_s_call, DV.n_s_seq, DV.n_s_drop, DV.n_s_ret, DV.n_s_ifS, DV.n_s_asg, DV.n_s_augS, DV.n_s_tupAsg, DV.n_s_for, DV.n_whL_succ, DV.n_s_iseq, DV.n_s_irg, DV.n_s_izip, DV.n_s_lc, DV.n_lcL_cons, DV.n_s_fn, DV.n_s_mut, DV.n_s_store, DV.n_s_oSome, DV.n_s_sl, DV.n_s_sl3, DV.n_s_lrg1, DV.n_s_lrg2, DV.S0.loop_nx, DV.S0.loop_ct, DV.S0.loop_brk, DV.S0.loop_ret, DV.S0.loop_exc, DV.S0.loop_stuck, DV.S0.s_onG, DV.S0.s_onG0, DV.S0.s_onB, DV.S0.s_onI, DV.S0.s_onN, DV.S0.s_pkv, DV.S0.s_pkt, DV.S0.s_pks, DV.S0.s_pkS1, DV.S0.s_pkS2, DV.S0.s_pkS3, DV.S0.s_var, DV.S0.s_vr1, DV.S0.s_vr2, DV.S0.s_vr3, DV.S0.s_C, DV.S0.s_on, DV.S0.s_onV, DV.S0.s_onU, DV.S0.s_neg, DV.S0.s_II, DV.S0.s_IC, DV.S0.s_addI, DV.S0.s_addL, DV.S0.s_addT, DV.S0.s_addS, DV.S0.s_mulI, DV.S0.s_mulL, DV.S0.s_ixL, DV.S0.s_ixT, DV.S0.s_ixC, DV.S0.s_ANil, DV.S0.s_FNil, DV.S0.s_onF, DV.S0.s_fzv, DV.S0.s_fzt, DV.S0.s_fzs, DV.S0.s_fzS1, DV.S0.s_fzS2, DV.S0.s_peeks0, DV.S0.s_cons2, DV.S0.s_peeks, DV.S0.s_onLs, DV.S0.s_onL, DV.S0.s_lenL, DV.S0.s_lenT, DV.S0.s_lenC, DV.S0.s_listL, DV.S0.s_listT, DV.S0.s_tupleL, DV.S0.s_tupleT, DV.S0.s_intI, DV.S0.s_intB, DV.S0.s_abs, DV.S0.s_max2, DV.S0.s_min2, DV.S0.s_all, DV.S0.s_any, DV.S0.s_sum, DV.S0.s_asgv, DV.S0.s_asgt, DV.S0.s_asgs, DV.S0.s_asgS1, DV.S0.s_asgS2, DV.S0.s_asgS3, DV.S0.s_aug, DV.S0.s_onT, DV.S0.s_fzS0, DV.S0.s_fzSv, DV.S0.s_fzSt, DV.S0.s_fzSs, DV.S0.s_fzSk, DV.S0.s_many0, DV.S0.s_manyv, DV.S0.s_manyt, DV.S0.forL_nil, DV.S0.s_tg1, DV.S0.s_tgm, DV.S0.s_vals0, DV.S0.s_vals, DV.S0.s_itL, DV.S0.s_itT, DV.S0.s_rs1, DV.S0.s_rs2, DV.S0.s_onZL, DV.S0.s_onZT, DV.S0.lcL_nil, DV.S0.s_yes, DV.S0.s_onA, DV.S0.s_arg0, DV.S0.s_argV, DV.S0.s_argv, DV.S0.s_argB, DV.S0.s_argb, DV.S0.s_argi, DV.S0.s_setIo0, DV.S0.s_out0, DV.S0.s_out1, DV.S0.s_out1o, DV.S0.s_muO, DV.S0.s_onMut, DV.S0.s_onRc, DV.S0.s_rc, DV.S0.s_rcL, DV.S0.s_app, DV.S0.s_ext, DV.S0.s_popO, DV.S0.s_popAt, DV.S0.s_onFf, DV.S0.s_onSt, DV.S0.s_stO, DV.S0.s_gSt, DV.S0.s_stSo, DV.S0.s_stSi, DV.S0.s_onMuo, DV.S0.s_onMui, DV.S0.s_argIo, DV.S0.s_argIi, DV.S0.s_oNone, DV.S0.s_slL, DV.S0.s_slT, DV.S0.s_sl3L, DV.S0.s_run, DV.S0.s_endN, DV.S0.s_endR, DV.S0.s_endRp, DV.S0.s_endO, DV.S0.s_noExc, DV.S0.s_noX, DV.S0.s_resv, DV.S0.s_rest, DV.S0.s_ress, DV.S0.s_resS1, DV.S0.s_resS2, DV.S0.s_outs0, DV.S0.s_outC, DV.S0.s_outs, DV.S0.s_outAt, DV.S0.s_outS, DV.S0.s_ioIx0, DV.S0.s_ioIxv, DV.S0.s_ioIxb, DV.S0.s_ioIxi, DV.S0.s_init0, DV.S0.s_initv, DV.S0.s_initb, DV.S0.s_initi, DV.S0.s_wipe0, DV.S0.s_wipe, DV.S0.s_ap0, DV.S0.s_apv, DV.S0.s_api, DV.S0.s_apbv, DV.S0.s_apbt, DV.S0.s_apbs, DV.kOp2, DV.kOp, DV.kTest, DV.kNotT, DV.kAndT, DV.kOrT, DV.kBl, DV.kAndV, DV.kOrV, DV.kNotV, DV.kIf, DV.kCh2, DV.kCh, DV.kUn, DV.kAC2, DV.kAC, DV.kFC3, DV.kFC2, DV.kFC, DV.kAFC3, DV.kAFC2, DV.kAFC, DV.kLst, DV.kTup, DV.kCall, DV.kDrop, DV.kRet, DV.kIfS, DV.kAsg, DV.kAug, DV.kT, DV.kFor, DV.kWh, DV.kISeq, DV.kIRg, DV.kLC2, DV.kLC, DV.kL3, DV.kL2, DV.kL1, DV.kFn, DV.kMut3, DV.kMut2, DV.kMut, DV.kSt4, DV.kSt3, DV.kSt2, DV.kSt, DV.kOS, DV.kSl2, DV.kSl1, DV.kSl, DV.kSl33, DV.kSl32, DV.kSl31, DV.kSl3, DV.kLRg1, DV.kLRg22, DV.kLRg2, DV.kC2, DV.kC,
  Rs.bind_ok, Rs.bind_stuck, Rs.bind_exc, Rs.fl_ok, Rs.fl_stuck, Rs.fl_exc, Rs.wp_ok, Fl.seq_nx, Fl.seq_ret, Fl.seq_brk, Fl.seq_ct, Fl.seq_stuck, Fl.seq_exc,
  List.getElem?_cons_zero, List.getElem?_cons_succ, List.getElem?_nil, List.set_cons_zero, List.set_cons_succ, List.set_nil, List.cons_append, List.nil_append, List.append_nil, List.replicate, List.length_cons, List.length_nil, Nat.reduceAdd, Nat.reduceSub, Nat.zero_add, List.contains_nil, List.contains_cons, startL,
  Bool.and_true, Bool.true_and, Bool.and_false, Bool.false_and, Bool.or_true, Bool.true_or, Bool.or_false, Bool.false_or, Bool.not_true, Bool.not_false, if_true, if_false, reduceIte, reduceCtorEq, decide_true, decide_false, decide_eq_true_eq, Option.map_some, Option.map_none, Option.some_or, Option.none_or, Option.bind_some, Option.bind_none, Bool.false_eq_true, Nat.reduceLeDiff, Nat.reduceEqDiff, beq_iff_eq, Nat.reduceBEq, ne_eq, not_true_eq_false, not_false_eq_true, Option.some.injEq, Bool.not_eq_true', decide_eq_false_iff_not, Bool.not_not, L2.ixN, DV.atI_0, DV.atI_1, DV.atI_2, DV.atI_3, DV.atI_4, DV.atI_5, DV.atI_6, DV.atI_7, DV.atI_8, DV.atI_9, DV.atI_10, DV.atI_11, DV.atI_12, DV.atI_13, DV.atI_14, DV.atI_15, DV.atI_m1, DV.s_eqI, DV.s_neI, DV.s_eqB, DV.s_neB, Int.reduceLE, Int.reduceLT, Int.reduceNeg, Int.reduceToNat, Int.reduceAdd, Int.reduceMul, Int.reduceSub, Int.le_refl, Int.cast_ofNat_Int, Int.toNat_zero, Int.toNat_one, Int.reducePow, true_and, and_true, DV.isi_non_int, DV.isi_non_bool, DV.isi_non_str, DV.isi_non_list, DV.isi_non_tuple, DV.isi_non_seq, DV.isN_non, DV.isi_bl_int, DV.isi_bl_bool, DV.isi_bl_str, DV.isi_bl_list, DV.isi_bl_tuple, DV.isi_bl_seq, DV.isN_bl, DV.isi_int_int, DV.isi_int_bool, DV.isi_int_str, DV.isi_int_list, DV.isi_int_tuple, DV.isi_int_seq, DV.isN_int, DV.isi_str_int, DV.isi_str_bool, DV.isi_str_str, DV.isi_str_list, DV.isi_str_tuple, DV.isi_str_seq, DV.isN_str, DV.isi_lst_int, DV.isi_lst_bool, DV.isi_lst_str, DV.isi_lst_list, DV.isi_lst_tuple, DV.isi_lst_seq, DV.isN_lst, DV.isi_tup_int, DV.isi_tup_bool, DV.isi_tup_str, DV.isi_tup_list, DV.isi_tup_tuple, DV.isi_tup_seq, DV.isN_tup, DV.s_eqN, DV.s_neN, DV.b_tt, DV.b_tf, DV.b_ft, DV.b_ff, DV.n_s_unp, DV.kUnp, DV.s_unpT, DV.s_maxL, DV.s_minL, DV.s_onMM, DV.s_inL, DV.s_inT, DV.s_onIn, DV.s_onNotIn, DV.s_LRg2, DV.D.ints_ints, *])
theorem high_walk {Ns Hs : List D} {n s : Int} {k : Nat} {s3 s4 : Sl} (hl : (Ns.length : Int) = n) (e1 : rgOk n = true) (e2 : n.toNat = k)
    (k1 : forL (.one 3) highB (rgD 0 1 k) [.val (.tup Ns), .val (.int s), .obj .own (.lst []), .un, .un, .un] = .nx [.val (.tup Ns), .val (.int s), .obj .own (.lst Hs), s3, s4, .un]) : M_Lhigher [.tup Ns, .int s] = .ok true (.lst Hs) [] := by
  have l0 : lenOk 0 = true := rfl
  unfold highB at k1
  show noExc (runF [.val, .val] 6 g_Lhigher) _ = _
  unfold g_Lhigher
  generalize dSeq (dAsg 4 _) _ = W at *
  walk_at "dh"
theorem mhigher {Ns : List D} {n : Int} {v : Int → Int} (R : RowV Ns n v) {s : Int} (hs : 0 ≤ s ∧ s < n) (hn : n ≤ 20) :
    ∃ hL, M_Lhigher [.tup Ns, .int s] = .ok true (.lst (dInts hL)) [] ∧ ∀ m, (m ∈ hL ↔ (0 ≤ m ∧ m < n) ∧ m ≠ s ∧ topB v s m = true) := by
  have hl := for_inv (t := .one 3) (g := highB) (I := fun k L => ∃ hL s3 s4, L = [.val (.tup Ns), .val (.int s), .obj .own (.lst (dInts hL)), s3, s4, .un] ∧ hL.length ≤ k ∧ ∀ m, (m ∈ hL ↔ (0 ≤ m ∧ m < k) ∧ m ≠ s ∧ topB v s m = true))
    (rgD 0 1 n.toNat) 0 [.val (.tup Ns), .val (.int s), .obj .own (.lst []), .un, .un, .un] ⟨[], .un, .un, rfl, by simp, fun m => by simp; omega⟩ ?_
  · obtain ⟨L', k1, hL, s3, s4, rfl, k2, k3⟩ := hl
    rw [rgD_len, Nat.zero_add] at k3
    refine ⟨hL, high_walk R.len (rgOk_of (by omega) (by omega)) rfl k1, fun m => by rw [k3 m]; constructor <;> (rintro ⟨h1, h2⟩; exact ⟨by omega, h2⟩)⟩
  · intro j d L hd hI
    obtain ⟨rfl, hj⟩ := rg0_at hd
    obtain ⟨hL, s3, s4, rfl, h2, h3⟩ := hI
    obtain ⟨s4', st⟩ := high_step R (s := s) (m := (j : Int)) hs (by omega) hn (hsL := hL) (by omega) s4
    refine ⟨_, _, S0.s_tg1 .., .inl st, _, _, s4', rfl, ?_, fun m => ?_⟩
    · split <;> simp <;> omega
    · by_cases c : (j : Int) ≠ s ∧ topB v s j = true
      · rw [if_pos c, List.mem_append, h3 m, List.mem_singleton]
        constructor
        · rintro (⟨h1, h2⟩ | rfl)
          · exact ⟨by omega, h2⟩
          · exact ⟨by omega, c⟩
        · rintro ⟨h1, h2⟩
          by_cases e : m = (j : Int)
          · exact .inr e
          · exact .inl ⟨by omega, h2⟩
      · rw [if_neg c, h3 m]
        constructor
        · rintro ⟨h1, h2⟩; exact ⟨by omega, h2⟩
        · rintro ⟨h1, h2⟩
          refine ⟨?_, h2⟩
          have : m ≠ (j : Int) := fun e => c (by rw [← e]; exact h2)
          omega

end K79
end
section
set_option Elab.async false
set_option linter.all false
set_option maxRecDepth 100000
set_option maxHeartbeats 4000000
namespace K79
open PySem PySem.Spec PyProof.Rows L2 DV
local macro_rules | `(tactic| walk_at "ds") => `(tactic| simp -implicitDefEqProofs only [
  DV.n_s_op, DV.n_s_test, DV.n_s_notT, DV.n_s_andT, DV.n_s_orT, DV.n_s_andV, DV.n_s_orV, DV.n_s_notV, DV.n_s_if, DV.n_s_onC, DV.n_s_chLeLt, DV.n_s_chLeLe, DV.n_s_chLtLe, DV.n_s_un, DV.n_s_ACons, DV.n_s_FCons, DV.n_s_AFCons, DV.n_s_lst, DV.n_s_tup, DV.n_s_call, DV.n_s_seq, DV.n_s_drop, DV.n_s_ret, DV.n_s_ifS, DV.n_s_asg, DV.n_s_augS, DV.n_s_tupAsg, DV.n_s_for, DV.n_whL_succ, DV.n_s_iseq, DV.n_s_irg, DV.n_s_izip, DV.n_s_lc, DV.n_lcL_cons, DV.n_s_fn, DV.n_s_mut, DV.n_s_store, DV.n_s_oSome, DV.n_s_sl, DV.n_s_sl3, DV.n_s_lrg1, DV.n_s_lrg2, DV.S0.loop_nx, DV.S0.loop_ct, DV.S0.loop_brk, DV.S0.loop_ret, DV.S0.loop_exc, DV.S0.loop_stuck, DV.S0.s_onG, DV.S0.s_onG0, DV.S0.s_onB, DV.S0.s_onI, DV.S0.s_onN, DV.S0.s_pkv, DV.S0.s_pkt, DV.S0.s_pks, DV.S0.s_pkS1, DV.S0.s_pkS2, DV.S0.s_pkS3, DV.S0.s_var, DV.S0.s_vr1, DV.S0.s_vr2, DV.S0.s_vr3, DV.S0.s_C, DV.S0.s_on, DV.S0.s_onV, DV.S0.s_onU, DV.S0.s_neg, DV.S0.s_II, DV.S0.s_IC, DV.S0.s_addI, DV.S0.s_addL, DV.S0.s_addT, DV.S0.s_addS, DV.S0.s_mulI, DV.S0.s_mulL, DV.S0.s_ixL, DV.S0.s_ixT, DV.S0.s_ixC, DV.S0.s_ANil, DV.S0.s_FNil, DV.S0.s_onF, DV.S0.s_fzv, DV.S0.s_fzt, DV.S0.s_fzs, DV.S0.s_fzS1, DV.S0.s_fzS2, DV.S0.s_peeks0, DV.S0.s_cons2, DV.S0.s_peeks, DV.S0.s_onLs, DV.S0.s_onL, DV.S0.s_lenL, DV.S0.s_lenT, DV.S0.s_lenC, DV.S0.s_listL, DV.S0.s_listT, DV.S0.s_tupleL, DV.S0.s_tupleT, DV.S0.s_intI, DV.S0.s_intB, DV.S0.s_abs, DV.S0.s_max2, DV.S0.s_min2, DV.S0.s_all, DV.S0.s_any, DV.S0.s_sum, DV.S0.s_asgv, DV.S0.s_asgt, DV.S0.s_asgs, DV.S0.s_asgS1, DV.S0.s_asgS2, DV.S0.s_asgS3, DV.S0.s_aug, DV.S0.s_onT, DV.S0.s_fzS0, DV.S0.s_fzSv, DV.S0.s_fzSt, DV.S0.s_fzSs, DV.S0.s_fzSk, DV.S0.s_many0, DV.S0.s_manyv, DV.S0.s_manyt, DV.S0.forL_nil, DV.S0.s_tg1, DV.S0.s_tgm, DV.S0.s_vals0, DV.S0.s_vals, DV.S0.s_itL, DV.S0.s_itT, DV.S0.s_rs1, DV.S0.s_rs2, DV.S0.s_onZL, DV.S0.s_onZT, DV.S0.lcL_nil, DV.S0.s_yes, DV.S0.s_onA, DV.S0.s_arg0, DV.S0.s_argV, DV.S0.s_argv, DV.S0.s_argB, DV.S0.s_argb, DV.S0.s_argi, DV.S0.s_setIo0, DV.S0.s_out0, DV.S0.s_out1, DV.S0.s_out1o, DV.S0.s_muO, DV.S0.s_onMut, DV.S0.s_onRc, DV.S0.s_rc, DV.S0.s_rcL, DV.S0.s_app, DV.S0.s_ext, DV.S0.s_popO, DV.S0.s_popAt, DV.S0.s_onFf, DV.S0.s_onSt, DV.S0.s_stO, DV.S0.s_gSt, DV.S0.s_stSo, DV.S0.s_stSi, DV.S0.s_onMuo, DV.S0.s_onMui, DV.S0.s_argIo, DV.S0.s_argIi, DV.S0.s_oNone, DV.S0.s_slL, DV.S0.s_slT, DV.S0.s_sl3L, DV.S0.s_run, DV.S0.s_endN, DV.S0.s_endR, DV.S0.s_endRp, DV.S0.s_endO, DV.S0.s_noExc, DV.S0.s_noX, DV.S0.s_resv, DV.S0.s_rest, DV.S0.s_ress, DV.S0.s_resS1, DV.S0.s_resS2, DV.S0.s_outs0, DV.S0.s_outC, DV.S0.s_outs, DV.S0.s_outAt, DV.S0.s_outS, DV.S0.s_ioIx0, DV.S0.s_ioIxv, DV.S0.s_ioIxb, DV.S0.s_ioIxi, DV.S0.s_init0, DV.S0.s_initv, DV.S0.s_initb, DV.S0.s_initi, DV.S0.s_wipe0, DV.S0.s_wipe, DV.S0.s_ap0, DV.S0.s_apv, DV.S0.s_api, DV.S0.s_apbv, DV.S0.s_apbt, DV.S0.s_apbs, DV.kOp2, DV.kOp, DV.kTest, DV.kNotT, DV.kAndT, DV.kOrT, DV.kBl, DV.kAndV, DV.kOrV, DV.kNotV, DV.kIf, DV.kCh2, DV.kCh, DV.kUn, DV.kAC2, DV.kAC, DV.kFC3, DV.kFC2, DV.kFC, DV.kAFC3, DV.kAFC2, DV.kAFC, DV.kLst, DV.kTup, DV.kCall, DV.kDrop, DV.kRet, DV.kIfS, DV.kAsg, DV.kAug, DV.kT, DV.kFor, DV.kWh, DV.kISeq, DV.kIRg, DV.kLC2, DV.kLC, DV.kL3, DV.kL2, DV.kL1, DV.kFn, DV.kMut3, DV.kMut2, DV.kMut, DV.kSt4, DV.kSt3, DV.kSt2, DV.kSt, DV.kOS, DV.kSl2, DV.kSl1, DV.kSl, DV.kSl33, DV.kSl32, DV.kSl31, DV.kSl3, DV.kLRg1, DV.kLRg22, DV.kLRg2, DV.kC2, DV.kC,
  Rs.bind_ok, Rs.bind_stuck, Rs.bind_exc, Rs.fl_ok, Rs.fl_stuck, Rs.fl_exc, Rs.wp_ok, Fl.seq_nx, Fl.seq_ret, Fl.seq_brk, Fl.seq_ct, Fl.seq_stuck, Fl.seq_exc,
  List.getElem?_cons_zero, List.getElem?_cons_succ, List.getElem?_nil, List.set_cons_zero, List.set_cons_succ, List.set_nil, List.cons_append, List.nil_append, List.append_nil, List.replicate, List.length_cons, List.length_nil, Nat.reduceAdd, Nat.reduceSub, Nat.zero_add, List.contains_nil, List.contains_cons, startL,
  Bool.and_true, Bool.true_and, Bool.and_false, Bool.false_and, Bool.or_true, Bool.true_or, Bool.or_false, Bool.false_or, Bool.not_true, Bool.not_false, if_true, if_false, reduceIte, reduceCtorEq, decide_true, decide_false, decide_eq_true_eq, Option.map_some, Option.map_none, Option.some_or, Option.none_or, Option.bind_some, Option.bind_none, Bool.false_eq_true, Nat.reduceLeDiff, Nat.reduceEqDiff, beq_iff_eq, Nat.reduceBEq, ne_eq, not_true_eq_false, not_false_eq_true, Option.some.injEq, Bool.not_eq_true', decide_eq_false_iff_not, Bool.not_not, L2.ixN, DV.atI_0, DV.atI_1, DV.atI_2, DV.atI_3, DV.atI_4, DV.atI_5, DV.atI_6, DV.atI_7, DV.atI_8, DV.atI_9, DV.atI_10, DV.atI_11, DV.atI_12, DV.atI_13, DV.atI_14, DV.atI_15, DV.atI_m1, DV.s_eqI, DV.s_neI, DV.s_eqB, DV.s_neB, Int.reduceLE, Int.reduceLT, Int.reduceNeg, Int.reduceToNat, Int.reduceAdd, Int.reduceMul, Int.reduceSub, Int.le_refl, Int.cast_ofNat_Int, Int.toNat_zero, Int.toNat_one, Int.reducePow, true_and, and_true, DV.isi_non_int, DV.isi_non_bool, DV.isi_non_str, DV.isi_non_list, DV.isi_non_tuple, DV.isi_non_seq, DV.isN_non, DV.isi_bl_int, DV.isi_bl_bool, DV.isi_bl_str, DV.isi_bl_list, DV.isi_bl_tuple, DV.isi_bl_seq, DV.isN_bl, DV.isi_int_int, DV.isi_int_bool, DV.isi_int_str, DV.isi_int_list, DV.isi_int_tuple, DV.isi_int_seq, DV.isN_int, DV.isi_str_int, DV.isi_str_bool, DV.isi_str_str, DV.isi_str_list, DV.isi_str_tuple, DV.isi_str_seq, DV.isN_str, DV.isi_lst_int, DV.isi_lst_bool, DV.isi_lst_str, DV.isi_lst_list, DV.isi_lst_tuple, DV.isi_lst_seq, DV.isN_lst, DV.isi_tup_int, DV.isi_tup_bool, DV.isi_tup_str, DV.isi_tup_list, DV.isi_tup_tuple, DV.isi_tup_seq, DV.isN_tup, DV.s_eqN, DV.s_neN, DV.b_tt, DV.b_tf, DV.b_ft, DV.b_ff, DV.n_s_unp, DV.kUnp, DV.s_unpT, DV.s_maxL, DV.s_minL, DV.s_onMM, DV.s_inL, DV.s_inT, DV.s_onIn, DV.s_onNotIn, DV.s_LRg2, DV.D.ints_ints])
local macro_rules | `(tactic| walk_at "dh") => `(tactic| simp -implicitDefEqProofs only [
  DV.n_s_op, DV.n_s_test, DV.n_s_notT, DV.n_s_andT, DV.n_s_orT, DV.n_s_andV, DV.n_s_orV, DV.n_s_notV, DV.n_s_if, DV.n_s_onC, DV.n_s_chLeLt, DV.n_s_chLeLe, DV.n_s_chLtLe, DV.n_s_un, DV.n_s_ACons, DV.n_s_FCons, DV.n_s_AFCons, DV.n_s_lst, DV.n_s_tup, DV.n_s_call, DV.n_s_seq, DV.n_s_drop, DV.n_s_ret, DV.n_s_ifS, DV.n_s_asg, DV.n_s_augS, DV.n_s_tupAsg, DV.n_s_for, DV.n_whL_succ, DV.n_s_iseq, DV.n_s_irg, DV.n_s_izip, DV.n_s_lc, DV.n_lcL_cons, DV.n_s_fn, DV.n_s_mut, DV.n_s_store, DV.n_s_oSome, DV.n_s_sl, DV.n_s_sl3, DV.n_s_lrg1, DV.n_s_lrg2, DV.S0.loop_nx, DV.S0.loop_ct, DV.S0.loop_brk, DV.S0.loop_ret, DV.S0.loop_exc, DV.S0.loop_stuck, DV.S0.s_onG, DV.S0.s_onG0, DV.S0.s_onB, DV.S0.s_onI, DV.S0.s_onN, DV.S0.s_pkv, DV.S0.s_pkt, DV.S0.s_pks, DV.S0.s_pkS1, DV.S0.s_pkS2, DV.S0.s_pkS3, DV.S0.s_var, DV.S0.s_vr1, DV.S0.s_vr2, DV.S0.s_vr3, DV.S0.s_C, DV.S0.s_on, DV.S0.s_onV, DV.S0.s_onU, DV.S0.s_neg, DV.S0.s_II, DV.S0.s_IC, DV.S0.s_addI, DV.S0.s_addL, DV.S0.s_addT, DV.S0.s_addS, DV.S0.s_mulI, DV.S0.s_mulL, DV.S0.s_ixL, DV.S0.s_ixT, DV.S0.s_ixC, DV.S0.s_ANil, DV.S0.s_FNil, DV.S0.s_onF, DV.S0.s_fzv, DV.S0.s_fzt, DV.S0.s_fzs, DV.S0.s_fzS1, DV.S0.s_fzS2, DV.S0.s_peeks0, DV.S0.s_cons2, DV.S0.s_peeks, DV.S0.s_onLs, DV.S0.s_onL, DV.S0.s_lenL, DV.S0.s_lenT, DV.S0.s_lenC, DV.S0.s_listL, DV.S0.s_listT, DV.S0.s_tupleL, DV.S0.s_tupleT, DV.S0.s_intI, DV.S0.s_intB, DV.S0.s_abs, DV.S0.s_max2, DV.S0.s_min2, DV.S0.s_all, DV.S0.s_any, DV.S0.s_sum, DV.S0.s_asgv, DV.S0.s_asgt, DV.S0.s_asgs, DV.S0.s_asgS1, DV.S0.s_asgS2, DV.S0.s_asgS3, DV.S0.s_aug, DV.S0.s_onT, DV.S0.s_fzS0, DV.S0.s_fzSv, DV.S0.s_fzSt, DV.S0.s_fzSs, DV.S0.s_fzSk, DV.S0.s_many0, DV.S0.s_manyv, DV.S0.s_manyt, DV.S0.forL_nil, DV.S0.s_tg1, DV.S0.s_tgm, DV.S0.s_vals0, DV.S0.s_vals, DV.S0.s_itL, DV.S0.s_itT, DV.S0.s_rs1, DV.S0.s_rs2, DV.S0.s_onZL, DV.S0.s_onZT, DV.S0.lcL_nil, DV.S0.s_yes, DV.S0.s_onA, DV.S0.s_arg0, DV.S0.s_argV, DV.S0.s_argv, DV.S0.s_argB, DV.S0.s_argb, DV.S0.s_argi, DV.S0.s_setIo0, DV.S0.s_out0, DV.S0.s_out1, DV.S0.s_out1o, DV.S0.s_muO, DV.S0.s_onMut, DV.S0.s_onRc, DV.S0.s_rc, DV.S0.s_rcL, DV.S0.s_app, DV.S0.s_ext, DV.S0.s_popO, DV.S0.s_popAt, DV.S0.s_onFf, DV.S0.s_onSt, DV.S0.s_stO, DV.S0.s_gSt, DV.S0.s_stSo, DV.S0.s_stSi, DV.S0.s_onMuo, DV.S0.s_onMui, DV.S0.s_argIo, DV.S0.s_argIi, DV.S0.s_oNone, DV.S0.s_slL, DV.S0.s_slT, DV.S0.s_sl3L, DV.S0.s_run, DV.S0.s_endN, DV.S0.s_endR, DV.S0.s_endRp, DV.S0.s_endO, DV.S0.s_noExc, DV.S0.s_noX, DV.S0.s_resv, DV.S0.s_rest, DV.S0.s_ress, DV.S0.s_resS1, DV.S0.s_resS2, DV.S0.s_outs0, DV.S0.s_outC, DV.S0.s_outs, DV.S0.s_outAt, DV.S0.s_outS, DV.S0.s_ioIx0, DV.S0.s_ioIxv, DV.S0.s_ioIxb, DV.S0.s_ioIxi, DV.S0.s_init0, DV.S0.s_initv, DV.S0.s_initb, DV.S0.s_initi, DV.S0.s_wipe0, DV.S0.s_wipe, DV.S0.s_ap0, DV.S0.s_apv, DV.S0.s_api, DV.S0.s_apbv, DV.S0.s_apbt, DV.S0.s_apbs, DV.kOp2, DV.kOp, DV.kTest, DV.kNotT, DV.kAndT, DV.kOrT, DV.kBl, DV.kAndV, DV.kOrV, DV.kNotV, DV.kIf, DV.kCh2, DV.kCh, DV.kUn, DV.kAC2, DV.kAC, DV.kFC3, DV.kFC2, DV.kFC, DV.kAFC3, DV.kAFC2, DV.kAFC, DV.kLst, DV.kTup, DV.kCall, DV.kDrop, DV.kRet, DV.kIfS, DV.kAsg, DV.kAug, DV.kT, DV.kFor, DV.kWh, DV.kISeq, DV.kIRg, DV.kLC2, DV.kLC, DV.kL3, DV.kL2, DV.kL1, DV.kFn, DV.kMut3, DV.kMut2, DV.kMut, DV.kSt4, DV.kSt3, DV.kSt2, DV.kSt, DV.kOS, DV.kSl2, DV.kSl1, DV.kSl, DV.kSl33, DV.kSl32, DV.kSl31, DV.kSl3, DV.kLRg1, DV.kLRg22, DV.kLRg2, DV.kC2, DV.kC,
  Rs.bind_ok, Rs.bind_stuck, Rs.bind_exc, Rs.fl_ok, Rs.fl_stuck, Rs.fl_exc, Rs.wp_ok, Fl.seq_nx, Fl.seq_ret, Fl.seq_brk, Fl.seq_ct, Fl.seq_stuck, Fl.seq_exc,
  List.getElem?_cons_zero, List.getElem?_cons_succ, List.getElem?_nil, List.set_cons_zero, List.set_cons_succ, List.set_nil, List.cons_append, List.nil_append, List.append_nil, List.replicate, List.length_cons, List.length_nil, Nat.reduceAdd, Nat.reduceSub, Nat.zero_add, List.contains_nil, List.contains_cons, startL,
  Bool.and_true, Bool.true_and, Bool.and_false, Bool.false_and, Bool.or_true, Bool.true_or, Bool.or_false, Bool.false_or, Bool.not_true, Bool.not_false, if_true, if_false, reduceIte, reduceCtorEq, decide_true, decide_false, decide_eq_true_eq, Option.map_some, Option.map_none, Option.some_or, Option.none_or, Option.bind_some, Option.bind_none, Bool.false_eq_true, Nat.reduceLeDiff, Nat.reduceEqDiff, beq_iff_eq, Nat.reduceBEq, ne_eq, not_true_eq_false, not_false_eq_true, Option.some.injEq, Bool.not_eq_true', decide_eq_false_iff_not, Bool.not_not, L2.ixN, DV.atI_0, DV.atI_1, DV.atI_2, DV.atI_3, DV.atI_4, DV.atI_5, DV.atI_6, DV.atI_7, DV.atI_8, DV.atI_9, DV.atI_10, DV.atI_11, DV.atI_12, DV.atI_13, DV.atI_14, DV.atI_15, DV.atI_m1, DV.s_eqI, DV.s_neI, DV.s_eqB, DV.s_neB, Int.reduceLE, Int.reduceLT, Int.reduceNeg, Int.reduceToNat, Int.reduceAdd, Int.reduceMul, Int.reduceSub, Int.le_refl, Int.cast_ofNat_Int, Int.toNat_zero, Int.toNat_one, Int.reducePow, true_and, and_true, DV.isi_non_int, DV.isi_non_bool, DV.isi_non_str, DV.isi_non_list, DV.isi_non_tuple, DV.isi_non_seq, DV.isN_non, DV.isi_bl_int, DV.isi_bl_bool, DV.isi_bl_str, DV.isi_bl_list, DV.isi_bl_tuple, DV.isi_bl_seq, DV.isN_bl, DV.isi_int_int, DV.isi_int_bool, DV.isi_int_str, DV.isi_int_list, DV.isi_int_tuple, DV.isi_int_seq, DV.isN_int, DV.isi_str_int, DV.isi_str_bool, DV.isi_str_str, DV.isi_str_list, DV.isi_str_tuple, DV.isi_str_seq, DV.isN_str, DV.isi_lst_int, DV.isi_lst_bool, DV.isi_lst_str, DV.isi_lst_list, DV.isi_lst_tuple, DV.isi_lst_seq, DV.isN_lst, DV.isi_tup_int, DV.isi_tup_bool, DV.isi_tup_str, DV.isi_tup_list, DV.isi_tup_tuple, DV.isi_tup_seq, DV.isN_tup, DV.s_eqN, DV.s_neN, DV.b_tt, DV.b_tf, DV.b_ft, DV.b_ff, DV.n_s_unp, DV.kUnp, DV.s_unpT, DV.s_maxL, DV.s_minL, DV.s_onMM, DV.s_inL, DV.s_inT, DV.s_onIn, DV.s_onNotIn, DV.s_LRg2, DV.D.ints_ints, *])
/-! ### pairs of boxes -/
theorem dst_ok {n : Int} {v : Int → Int} {b s sz : Int} : ∀ (f : Nat) (k : Int), 1 ≤ k → ∃ o : Option Nat, dst n v b s sz f k = oN o ∧ ∀ j, o = some j → 0 < j ∧ 0 ≤ b + s * (j : Int) ∧ b + s * (j : Int) < n
  | 0, k, h => ⟨none, rfl, by simp⟩
  | f + 1, k, h => by
    unfold dst
    by_cases c : 0 ≤ b + s * k ∧ b + s * k < n
    · rw [if_pos c]
      by_cases c2 : sz < v (b + s * k)
      · rw [if_pos c2]
        refine ⟨some k.toNat, ?_, ?_⟩
        · show some k = some ((k.toNat : Nat) : Int)
          rw [Int.toNat_of_nonneg (by omega)]
        · intro j hj
          cases hj
          rw [Int.toNat_of_nonneg (by omega)]
          exact ⟨by omega, c⟩
      · rw [if_neg c2]; exact dst_ok f (k + 1) (by omega)
    · rw [if_neg c]; exact ⟨none, rfl, by simp⟩
theorem dst_near {n : Int} {v : Int → Int} {b s sz m : Int} (hs : s = 1 ∨ s = -1) (hb : 0 ≤ b ∧ b < n) (hm : 0 ≤ b + s * m ∧ b + s * m < n) (hv : sz < v (b + s * m)) : ∀ (f : Nat) (k : Int), 1 ≤ k → k ≤ m → m < k + f →
    ∃ j : Nat, dst n v b s sz f k = some (j : Int) ∧ 0 < j ∧ (j : Int) ≤ m
  | 0, k, h1, h2, h3 => by omega
  | f + 1, k, h1, h2, h3 => by
    unfold dst
    rw [if_pos (by rcases hs with rfl | rfl <;> omega)]
    by_cases c2 : sz < v (b + s * k)
    · rw [if_pos c2]
      exact ⟨k.toNat, by rw [Int.toNat_of_nonneg (by omega)], by omega, by omega⟩
    · rw [if_neg c2]
      have : k ≠ m := fun e => c2 (by rw [e]; exact hv)
      exact dst_near hs hb hm hv f (k + 1) (by omega) (by omega) (by omega)
structure PK (m : Nat) (l r : Option Nat) : Prop where
  m0 : 0 < m ∧ m < 12
  l12 : ∀ k, l = some k → k < 12
  r12 : ∀ k, r = some k → k < 12
  ck : chk m l r = true
  hf : ∀ k j, l = some k → r = some j → FOk (k * j, (m + k + j) * (m + j)) ∧ FOk (j * k, (m + k + j) * (m + k))
  c2 : ∀ w, 0 < w → w ≤ m → chk2 m l r w = true
theorem pk_of {m : Nat} {l r : Option Nat} (hm : 0 < m) (h : m + l.getD 0 + r.getD 0 < 12) (hl : ∀ k, l = some k → 0 < k) (hr : ∀ k, r = some k → 0 < k) : PK m l r := by
  cases l with
  | none =>
    cases r with
    | none =>
      simp only [Option.getD_none] at h
      refine ⟨⟨hm, by omega⟩, by simp, by simp, ?_, by simp, fun w w0 wm => ?_⟩
      · have := fin_b3 m (by omega)
        simpa [hm] using this
      · have := fin_c3 m (by omega) w (by omega)
        simpa [hm, w0, wm] using this
    | some r =>
      simp only [Option.getD_none, Option.getD_some] at h
      have hr := hr r rfl
      have h2 : m + r < 12 := by omega
      refine ⟨⟨hm, by omega⟩, by simp, fun k e => by cases e; omega, ?_, by simp, fun w w0 wm => ?_⟩
      · have := fin_b2 m (by omega) r (by omega)
        simp [hm, hr, h2] at this
        exact this.2
      · have := fin_c2 m (by omega) r (by omega) w (by omega)
        simp [hm, w0, wm, hr, h2] at this
        exact this.2
  | some l =>
    cases r with
    | none =>
      simp only [Option.getD_none, Option.getD_some] at h
      have hl := hl l rfl
      have h2 : m + l < 12 := by omega
      refine ⟨⟨hm, by omega⟩, fun k e => by cases e; omega, by simp, ?_, by simp, fun w w0 wm => ?_⟩
      · have := fin_b2 m (by omega) l (by omega)
        simp [hm, hl, h2] at this
        exact this.1
      · have := fin_c2 m (by omega) l (by omega) w (by omega)
        simp [hm, w0, wm, hl, h2] at this
        exact this.1
    | some r =>
      simp only [Option.getD_some] at h
      have hl := hl l rfl
      have hr := hr r rfl
      have g : g2 m l r = true := by unfold g2; simp [hm, hl, hr]; omega
      have b1 := fin_b1 m (by omega) l (by omega) r (by omega)
      rw [g] at b1
      simp only [Bool.not_true, Bool.false_or, Bool.and_eq_true] at b1
      refine ⟨⟨hm, by omega⟩, fun k e => by cases e; omega, fun k e => by cases e; omega, b1.1.1, ?_, fun w w0 wm => ?_⟩
      · intro k j e1 e2
        cases e1; cases e2
        exact ⟨okP_ok b1.1.2, okP_ok b1.2⟩
      · have := fin_c1 m (by omega) l (by omega) r (by omega) w (by omega)
        rw [g] at this
        simp [w0, wm] at this
        exact this
theorem PK.beh {m : Nat} {l r : Option Nat} (h : PK m l r) : M_Lbehind [.int m, dO (oN l), dO (oN r)] = .ok false (dP (behN m l r)) [] := mbeh h.m0 h.l12 h.r12 h.hf
theorem PK.fot {m : Nat} {l r : Option Nat} (h : PK m l r) : M_first_of_three [.int m, dO (oN l), dO (oN r)] = .ok false (dP (fotN m l r)) [] := mfot h.m0.2 h.l12 h.r12
theorem PK.ck' {m : Nat} {l r : Option Nat} (h : PK m l r) : rdN (fotN m l r) = behN m l r ∧ FOk (behN m l r) ∧ FOk (fotN m l r) := by
  have := h.ck
  unfold chk at this
  simp only [Bool.and_eq_true, decide_eq_true_eq] at this
  exact ⟨this.1.1, okP_ok this.1.2, okP_ok this.2⟩
theorem PK.c2' {m : Nat} {l r : Option Nat} (h : PK m l r) {w : Nat} (w0 : 0 < w) (wm : w ≤ m) : rdN (w * (fotN m l r).1, m * (fotN m l r).2) = rdN (w * (behN m l r).1, m * (behN m l r).2) ∧ FOk (rdN (w * (fotN m l r).1, m * (fotN m l r).2)) := by
  have := h.c2 w w0 wm
  unfold chk2 at this
  simp only [Bool.and_eq_true, decide_eq_true_eq] at this
  exact ⟨this.1, okP_ok this.2⟩

end K79
end
section
set_option Elab.async false
set_option linter.all false
set_option maxRecDepth 100000
set_option maxHeartbeats 4000000
namespace K79
open PySem PySem.Spec PyProof.Rows L2 DV
local macro_rules | `(tactic| walk_at "ds") => `(tactic| simp -implicitDefEqProofs only [
  DV.n_s_op, DV.n_s_test, DV.n_s_notT, DV.n_s_andT, DV.n_s_orT, DV.n_s_andV, DV.n_s_orV, DV.n_s_notV, DV.n_s_if, DV.n_s_onC, DV.n_s_chLeLt, DV.n_s_chLeLe, DV.n_s_chLtLe, DV.n_s_un, DV.n_s_ACons, DV.n_s_FCons, DV.n_s_AFCons, DV.n_s_lst, DV.n_s_tup, DV.n_s_call, DV.n_s_seq, DV.n_s_drop, DV.n_s_ret, DV.n_s_ifS, DV.n_s_asg, DV.n_s_augS, DV.n_s_tupAsg, DV.n_s_for, DV.n_whL_succ, DV.n_s_iseq, DV.n_s_irg, DV.n_s_izip, DV.n_s_lc, DV.n_lcL_cons, DV.n_s_fn, DV.n_s_mut, DV.n_s_store, DV.n_s_oSome, DV.n_s_sl, DV.n_s_sl3, DV.n_s_lrg1, DV.n_s_lrg2, DV.S0.loop_nx, DV.S0.loop_ct, DV.S0.loop_brk, DV.S0.loop_ret, DV.S0.loop_exc, DV.S0.loop_stuck, DV.S0.s_onG, DV.S0.s_onG0, DV.S0.s_onB, DV.S0.s_onI, DV.S0.s_onN, DV.S0.s_pkv, DV.S0.s_pkt, DV.S0.s_pks, DV.S0.s_pkS1, DV.S0.s_pkS2, DV.S0.s_pkS3, DV.S0.s_var, DV.S0.s_vr1, DV.S0.s_vr2, DV.S0.s_vr3, DV.S0.s_C, DV.S0.s_on, DV.S0.s_onV, DV.S0.s_onU, DV.S0.s_neg, DV.S0.s_II, DV.S0.s_IC, DV.S0.s_addI, DV.S0.s_addL, DV.S0.s_addT, DV.S0.s_addS, DV.S0.s_mulI, DV.S0.s_mulL, DV.S0.s_ixL, DV.S0.s_ixT, DV.S0.s_ixC, DV.S0.s_ANil, DV.S0.s_FNil, DV.S0.s_onF, DV.S0.s_fzv, DV.S0.s_fzt, DV.S0.s_fzs, DV.S0.s_fzS1, DV.S0.s_fzS2, DV.S0.s_peeks0, DV.S0.s_cons2, DV.S0.s_peeks, DV.S0.s_onLs, DV.S0.s_onL, DV.S0.s_lenL, DV.S0.s_lenT, DV.S0.s_lenC, DV.S0.s_listL, DV.S0.s_listT, DV.S0.s_tupleL, DV.S0.s_tupleT, DV.S0.s_intI, DV.S0.s_intB, DV.S0.s_abs, DV.S0.s_max2, DV.S0.s_min2, DV.S0.s_all, DV.S0.s_any, DV.S0.s_sum, DV.S0.s_asgv, DV.S0.s_asgt, DV.S0.s_asgs, DV.S0.s_asgS1, DV.S0.s_asgS2, DV.S0.s_asgS3, DV.S0.s_aug, DV.S0.s_onT, DV.S0.s_fzS0, DV.S0.s_fzSv, DV.S0.s_fzSt, DV.S0.s_fzSs, DV.S0.s_fzSk, DV.S0.s_many0, DV.S0.s_manyv, DV.S0.s_manyt, DV.S0.forL_nil, DV.S0.s_tg1, DV.S0.s_tgm, DV.S0.s_vals0, DV.S0.s_vals, DV.S0.s_itL, DV.S0.s_itT, DV.S0.s_rs1, DV.S0.s_rs2, DV.S0.s_onZL, DV.S0.s_onZT, DV.S0.lcL_nil, DV.S0.s_yes, DV.S0.s_onA, DV.S0.s_arg0, DV.S0.s_argV, DV.S0.s_argv, DV.S0.s_argB, DV.S0.s_argb, DV.S0.s_argi, DV.S0.s_setIo0, DV.S0.s_out0, DV.S0.s_out1, DV.S0.s_out1o, DV.S0.s_muO, DV.S0.s_onMut, DV.S0.s_onRc, DV.S0.s_rc, DV.S0.s_rcL, DV.S0.s_app, DV.S0.s_ext, DV.S0.s_popO, DV.S0.s_popAt, DV.S0.s_onFf, DV.S0.s_onSt, DV.S0.s_stO, DV.S0.s_gSt, DV.S0.s_stSo, DV.S0.s_stSi, DV.S0.s_onMuo, DV.S0.s_onMui, DV.S0.s_argIo, DV.S0.s_argIi, DV.S0.s_oNone, DV.S0.s_slL, DV.S0.s_slT, DV.S0.s_sl3L, DV.S0.s_run, DV.S0.s_endN, DV.S0.s_endR, DV.S0.s_endRp, DV.S0.s_endO, DV.S0.s_noExc, DV.S0.s_noX, DV.S0.s_resv, DV.S0.s_rest, DV.S0.s_ress, DV.S0.s_resS1, DV.S0.s_resS2, DV.S0.s_outs0, DV.S0.s_outC, DV.S0.s_outs, DV.S0.s_outAt, DV.S0.s_outS, DV.S0.s_ioIx0, DV.S0.s_ioIxv, DV.S0.s_ioIxb, DV.S0.s_ioIxi, DV.S0.s_init0, DV.S0.s_initv, DV.S0.s_initb, DV.S0.s_initi, DV.S0.s_wipe0, DV.S0.s_wipe, DV.S0.s_ap0, DV.S0.s_apv, DV.S0.s_api, DV.S0.s_apbv, DV.S0.s_apbt, DV.S0.s_apbs, DV.kOp2, DV.kOp, DV.kTest, DV.kNotT, DV.kAndT, DV.kOrT, DV.kBl, DV.kAndV, DV.kOrV, DV.kNotV, DV.kIf, DV.kCh2, DV.kCh, DV.kUn, DV.kAC2, DV.kAC, DV.kFC3, DV.kFC2, DV.kFC, DV.kAFC3, DV.kAFC2, DV.kAFC, DV.kLst, DV.kTup, DV.kCall, DV.kDrop, DV.kRet, DV.kIfS, DV.kAsg, DV.kAug, DV.kT, DV.kFor, DV.kWh, DV.kISeq, DV.kIRg, DV.kLC2, DV.kLC, DV.kL3, DV.kL2, DV.kL1, DV.kFn, DV.kMut3, DV.kMut2, DV.kMut, DV.kSt4, DV.kSt3, DV.kSt2, DV.kSt, DV.kOS, DV.kSl2, DV.kSl1, DV.kSl, DV.kSl33, DV.kSl32, DV.kSl31, DV.kSl3, DV.kLRg1, DV.kLRg22, DV.kLRg2, DV.kC2, DV.kC,
  Rs.bind_ok, Rs.bind_stuck, Rs.bind_exc, Rs.fl_ok, Rs.fl_stuck, Rs.fl_exc, Rs.wp_ok, Fl.seq_nx, Fl.seq_ret, Fl.seq_brk, Fl.seq_ct, Fl.seq_stuck, Fl.seq_exc,
  List.getElem?_cons_zero, List.getElem?_cons_succ, List.getElem?_nil, List.set_cons_zero, List.set_cons_succ, List.set_nil, List.cons_append, List.nil_append, List.append_nil, List.replicate, List.length_cons, List.length_nil, Nat.reduceAdd, Nat.reduceSub, Nat.zero_add, List.contains_nil, List.contains_cons, startL,
  Bool.and_true, Bool.true_and, Bool.and_false, Bool.false_and, Bool.or_true, Bool.true_or, Bool.or_false, Bool.false_or, Bool.not_true, Bool.not_false, if_true, if_false, reduceIte, reduceCtorEq, decide_true, decide_false, decide_eq_true_eq, Option.map_some, Option.map_none, Option.some_or, Option.none_or, Option.bind_some, Option.bind_none, Bool.false_eq_true, Nat.reduceLeDiff, Nat.reduceEqDiff, beq_iff_eq, Nat.reduceBEq, ne_eq, not_true_eq_false, not_false_eq_true, Option.some.injEq, Bool.not_eq_true', decide_eq_false_iff_not, Bool.not_not, L2.ixN, DV.atI_0, DV.atI_1, DV.atI_2, DV.atI_3, DV.atI_4, DV.atI_5, DV.atI_6, DV.atI_7, DV.atI_8, DV.atI_9, DV.atI_10, DV.atI_11, DV.atI_12, DV.atI_13, DV.atI_14, DV.atI_15, DV.atI_m1, DV.s_eqI, DV.s_neI, DV.s_eqB, DV.s_neB, Int.reduceLE, Int.reduceLT, Int.reduceNeg, Int.reduceToNat, Int.reduceAdd, Int.reduceMul, Int.reduceSub, Int.le_refl, Int.cast_ofNat_Int, Int.toNat_zero, Int.toNat_one, Int.reducePow, true_and, and_true, DV.isi_non_int, DV.isi_non_bool, DV.isi_non_str, DV.isi_non_list, DV.isi_non_tuple, DV.isi_non_seq, DV.isN_non, DV.isi_bl_int, DV.isi_bl_bool, DV.isi_bl_str, DV.isi_bl_list, DV.isi_bl_tuple, DV.isi_bl_seq, DV.isN_bl, DV.isi_int_int, DV.isi_int_bool, DV.isi_int_str, DV.isi_int_list, DV.isi_int_tuple, DV.isi_int_seq, DV.isN_int, DV.isi_str_int, DV.isi_str_bool, DV.isi_str_str, DV.isi_str_list, DV.isi_str_tuple, DV.isi_str_seq, DV.isN_str, DV.isi_lst_int, DV.isi_lst_bool, DV.isi_lst_str, DV.isi_lst_list, DV.isi_lst_tuple, DV.isi_lst_seq, DV.isN_lst, DV.isi_tup_int, DV.isi_tup_bool, DV.isi_tup_str, DV.isi_tup_list, DV.isi_tup_tuple, DV.isi_tup_seq, DV.isN_tup, DV.s_eqN, DV.s_neN, DV.b_tt, DV.b_tf, DV.b_ft, DV.b_ff, DV.n_s_unp, DV.kUnp, DV.s_unpT, DV.s_maxL, DV.s_minL, DV.s_onMM, DV.s_inL, DV.s_inT, DV.s_onIn, DV.s_onNotIn, DV.s_LRg2, DV.D.ints_ints])
local macro_rules | `(tactic| walk_at "dh") => `(tactic| simp -implicitDefEqProofs only [
  DV.n_s_op, DV.n_s_test, DV.n_s_notT, DV.n_s_andT, DV.n_s_orT, DV.n_s_andV, DV.n_s_orV, DV.n_s_notV, DV.n_s_if, DV.n_s_onC, DV.n_s_chLeLt, DV.n_s_chLeLe, DV.n_s_chLtLe, DV.n_s_un, DV.n_s_ACons, DV.n_s_FCons, DV.n_s_AFCons, DV.n_s_lst, DV.n_s_tup, DV.n_s_call, DV.n_s_seq, DV.n_s_drop, DV.n_s_ret, DV.n_s_ifS, DV.n_s_asg, DV.n_s_augS, DV.n_s_tupAsg, DV.n_s_for, DV.n_whL_succ, DV.n_s_iseq, DV.n_s_irg, DV.n_s_izip, DV.n_s_lc, DV.n_lcL_cons, DV.n_s_fn, DV.n_s_mut, DV.n_s_store, DV.n_s_oSome, DV.n_s_sl, DV.n_s_sl3, DV.n_s_lrg1, DV.n_s_lrg2, DV.S0.loop_nx, DV.S0.loop_ct, DV.S0.loop_brk, DV.S0.loop_ret, DV.S0.loop_exc, DV.S0.loop_stuck, DV.S0.s_onG, DV.S0.s_onG0, DV.S0.s_onB, DV.S0.s_onI, DV.S0.s_onN, DV.S0.s_pkv, DV.S0.s_pkt, DV.S0.s_pks, DV.S0.s_pkS1, DV.S0.s_pkS2, DV.S0.s_pkS3, DV.S0.s_var, DV.S0.s_vr1, DV.S0.s_vr2, DV.S0.s_vr3, DV.S0.s_C, DV.S0.s_on, DV.S0.s_onV, DV.S0.s_onU, DV.S0.s_neg, DV.S0.s_II, DV.S0.s_IC, DV.S0.s_addI, DV.S0.s_addL, DV.S0.s_addT, DV.S0.s_addS, DV.S0.s_mulI, DV.S0.s_mulL, DV.S0.s_ixL, DV.S0.s_ixT, DV.S0.s_ixC, DV.S0.s_ANil, DV.S0.s_FNil, DV.S0.s_onF, DV.S0.s_fzv, DV.S0.s_fzt, DV.S0.s_fzs, DV.S0.s_fzS1, DV.S0.s_fzS2, DV.S0.s_peeks0, DV.S0.s_cons2, DV.S0.s_peeks, DV.S0.s_onLs, DV.S0.s_onL, DV.S0.s_lenL, DV.S0.s_lenT, DV.S0.s_lenC, DV.S0.s_listL, DV.S0.s_listT, DV.S0.s_tupleL, DV.S0.s_tupleT, DV.S0.s_intI, DV.S0.s_intB, DV.S0.s_abs, DV.S0.s_max2, DV.S0.s_min2, DV.S0.s_all, DV.S0.s_any, DV.S0.s_sum, DV.S0.s_asgv, DV.S0.s_asgt, DV.S0.s_asgs, DV.S0.s_asgS1, DV.S0.s_asgS2, DV.S0.s_asgS3, DV.S0.s_aug, DV.S0.s_onT, DV.S0.s_fzS0, DV.S0.s_fzSv, DV.S0.s_fzSt, DV.S0.s_fzSs, DV.S0.s_fzSk, DV.S0.s_many0, DV.S0.s_manyv, DV.S0.s_manyt, DV.S0.forL_nil, DV.S0.s_tg1, DV.S0.s_tgm, DV.S0.s_vals0, DV.S0.s_vals, DV.S0.s_itL, DV.S0.s_itT, DV.S0.s_rs1, DV.S0.s_rs2, DV.S0.s_onZL, DV.S0.s_onZT, DV.S0.lcL_nil, DV.S0.s_yes, DV.S0.s_onA, DV.S0.s_arg0, DV.S0.s_argV, DV.S0.s_argv, DV.S0.s_argB, DV.S0.s_argb, DV.S0.s_argi, DV.S0.s_setIo0, DV.S0.s_out0, DV.S0.s_out1, DV.S0.s_out1o, DV.S0.s_muO, DV.S0.s_onMut, DV.S0.s_onRc, DV.S0.s_rc, DV.S0.s_rcL, DV.S0.s_app, DV.S0.s_ext, DV.S0.s_popO, DV.S0.s_popAt, DV.S0.s_onFf, DV.S0.s_onSt, DV.S0.s_stO, DV.S0.s_gSt, DV.S0.s_stSo, DV.S0.s_stSi, DV.S0.s_onMuo, DV.S0.s_onMui, DV.S0.s_argIo, DV.S0.s_argIi, DV.S0.s_oNone, DV.S0.s_slL, DV.S0.s_slT, DV.S0.s_sl3L, DV.S0.s_run, DV.S0.s_endN, DV.S0.s_endR, DV.S0.s_endRp, DV.S0.s_endO, DV.S0.s_noExc, DV.S0.s_noX, DV.S0.s_resv, DV.S0.s_rest, DV.S0.s_ress, DV.S0.s_resS1, DV.S0.s_resS2, DV.S0.s_outs0, DV.S0.s_outC, DV.S0.s_outs, DV.S0.s_outAt, DV.S0.s_outS, DV.S0.s_ioIx0, DV.S0.s_ioIxv, DV.S0.s_ioIxb, DV.S0.s_ioIxi, DV.S0.s_init0, DV.S0.s_initv, DV.S0.s_initb, DV.S0.s_initi, DV.S0.s_wipe0, DV.S0.s_wipe, DV.S0.s_ap0, DV.S0.s_apv, DV.S0.s_api, DV.S0.s_apbv, DV.S0.s_apbt, DV.S0.s_apbs, DV.kOp2, DV.kOp, DV.kTest, DV.kNotT, DV.kAndT, DV.kOrT, DV.kBl, DV.kAndV, DV.kOrV, DV.kNotV, DV.kIf, DV.kCh2, DV.kCh, DV.kUn, DV.kAC2, DV.kAC, DV.kFC3, DV.kFC2, DV.kFC, DV.kAFC3, DV.kAFC2, DV.kAFC, DV.kLst, DV.kTup, DV.kCall, DV.kDrop, DV.kRet, DV.kIfS, DV.kAsg, DV.kAug, DV.kT, DV.kFor, DV.kWh, DV.kISeq, DV.kIRg, DV.kLC2, DV.kLC, DV.kL3, DV.kL2, DV.kL1, DV.kFn, DV.kMut3, DV.kMut2, DV.kMut, DV.kSt4, DV.kSt3, DV.kSt2, DV.kSt, DV.kOS, DV.kSl2, DV.kSl1, DV.kSl, DV.kSl33, DV.kSl32, DV.kSl31, DV.kSl3, DV.kLRg1, DV.kLRg22, DV.kLRg2, DV.kC2, DV.kC,
  Rs.bind_ok, Rs.bind_stuck, Rs.bind_exc, Rs.fl_ok, Rs.fl_stuck, Rs.fl_exc, Rs.wp_ok, Fl.seq_nx, Fl.seq_ret, Fl.seq_brk, Fl.seq_ct, Fl.seq_stuck, Fl.seq_exc,
  List.getElem?_cons_zero, List.getElem?_cons_succ, List.getElem?_nil, List.set_cons_zero, List.set_cons_succ, List.set_nil, List.cons_append, List.nil_append, List.append_nil, List.replicate, List.length_cons, List.length_nil, Nat.reduceAdd, Nat.reduceSub, Nat.zero_add, List.contains_nil, List.contains_cons, startL,
  Bool.and_true, Bool.true_and, Bool.and_false, Bool.false_and, Bool.or_true, Bool.true_or, Bool.or_false, Bool.false_or, Bool.not_true, Bool.not_false, if_true, if_false, reduceIte, reduceCtorEq, decide_true, decide_false, decide_eq_true_eq, Option.map_some, Option.map_none, Option.some_or, Option.none_or, Option.bind_some, Option.bind_none, Bool.false_eq_true, Nat.reduceLeDiff, Nat.reduceEqDiff, beq_iff_eq, Nat.reduceBEq, ne_eq, not_true_eq_false, not_false_eq_true, Option.some.injEq, Bool.not_eq_true', decide_eq_false_iff_not, Bool.not_not, L2.ixN, DV.atI_0, DV.atI_1, DV.atI_2, DV.atI_3, DV.atI_4, DV.atI_5, DV.atI_6, DV.atI_7, DV.atI_8, DV.atI_9, DV.atI_10, DV.atI_11, DV.atI_12, DV.atI_13, DV.atI_14, DV.atI_15, DV.atI_m1, DV.s_eqI, DV.s_neI, DV.s_eqB, DV.s_neB, Int.reduceLE, Int.reduceLT, Int.reduceNeg, Int.reduceToNat, Int.reduceAdd, Int.reduceMul, Int.reduceSub, Int.le_refl, Int.cast_ofNat_Int, Int.toNat_zero, Int.toNat_one, Int.reducePow, true_and, and_true, DV.isi_non_int, DV.isi_non_bool, DV.isi_non_str, DV.isi_non_list, DV.isi_non_tuple, DV.isi_non_seq, DV.isN_non, DV.isi_bl_int, DV.isi_bl_bool, DV.isi_bl_str, DV.isi_bl_list, DV.isi_bl_tuple, DV.isi_bl_seq, DV.isN_bl, DV.isi_int_int, DV.isi_int_bool, DV.isi_int_str, DV.isi_int_list, DV.isi_int_tuple, DV.isi_int_seq, DV.isN_int, DV.isi_str_int, DV.isi_str_bool, DV.isi_str_str, DV.isi_str_list, DV.isi_str_tuple, DV.isi_str_seq, DV.isN_str, DV.isi_lst_int, DV.isi_lst_bool, DV.isi_lst_str, DV.isi_lst_list, DV.isi_lst_tuple, DV.isi_lst_seq, DV.isN_lst, DV.isi_tup_int, DV.isi_tup_bool, DV.isi_tup_str, DV.isi_tup_list, DV.isi_tup_tuple, DV.isi_tup_seq, DV.isN_tup, DV.s_eqN, DV.s_neN, DV.b_tt, DV.b_tf, DV.b_ft, DV.b_ff, DV.n_s_unp, DV.kUnp, DV.s_unpT, DV.s_maxL, DV.s_minL, DV.s_onMM, DV.s_inL, DV.s_inT, DV.s_onIn, DV.s_onNotIn, DV.s_LRg2, DV.D.ints_ints, *])
structure Geo (n : Int) (v : Int → Int) (a u s : Int) (m k : Nat) (l1 l2 r : Option Nat) : Prop where
  hm : (if u - a < 0 then -(u - a) else u - a) = (m : Int)
  near : dst n v a s (v a) 20 1 = oN (some k)
  left1 : dst n v a (-s) (v a) 20 1 = oN l1
  left2 : dst n v a (-s) (v u) 20 1 = oN l2
  bey : dst n v u s (v u) 20 1 = oN r
  k0 : 0 < k
  km : k ≤ m
  p1 : PK m l1 r
  p2 : PK m l2 r
theorem geo {n : Int} {v : Int → Int} {a u s : Int} (hs : (u > a ∧ s = 1) ∨ (¬ u > a ∧ s = -1)) (hn : n ≤ 12) (ha : 0 ≤ a ∧ a < n) (hu : 0 ≤ u ∧ u < n) (hne : ¬ a = u) (hv : v a < v u) : ∃ m k l1 l2 r, Geo n v a u s m k l1 l2 r := by
  obtain ⟨m, hm⟩ : ∃ m : Nat, (if u - a < 0 then -(u - a) else u - a) = (m : Int) := ⟨(if u - a < 0 then -(u - a) else u - a).toNat, by split <;> omega⟩
  have hs1 : s = 1 ∨ s = -1 := by rcases hs with h | h; exact .inl h.2; exact .inr h.2
  have hsm : a + s * (m : Int) = u := by rcases hs with ⟨h, rfl⟩ | ⟨h, rfl⟩ <;> split at hm <;> omega
  have hm0 : 0 < m := by split at hm <;> omega
  have hm12 : (m : Int) < 12 := by split at hm <;> omega
  obtain ⟨k, h1, h2, h3⟩ := dst_near (n := n) (v := v) (b := a) (s := s) (sz := v a) (m := (m : Int)) hs1 ha (by rw [hsm]; exact hu) (by rw [hsm]; exact hv) 20 1 (by omega) (by omega) (by omega)
  obtain ⟨l1, a1, a2⟩ := dst_ok (n := n) (v := v) (b := a) (s := -s) (sz := v a) 20 1 (by omega)
  obtain ⟨l2, b1, b2⟩ := dst_ok (n := n) (v := v) (b := a) (s := -s) (sz := v u) 20 1 (by omega)
  obtain ⟨r, c1, c2⟩ := dst_ok (n := n) (v := v) (b := u) (s := s) (sz := v u) 20 1 (by omega)
  have bound : ∀ l : Option Nat, (∀ j, l = some j → 0 < j ∧ 0 ≤ a + -s * (j : Int) ∧ a + -s * (j : Int) < n) → PK m l r := by
    intro l hl
    refine pk_of hm0 ?_ (fun j e => (hl j e).1) (fun j e => (c2 j e).1)
    cases l with
    | none =>
      cases r with
      | none => simp; omega
      | some j => have := c2 j rfl; simp; rcases hs1 with rfl | rfl <;> split at hm <;> omega
    | some i =>
      have hi := hl i rfl
      cases r with
      | none => simp; rcases hs1 with rfl | rfl <;> split at hm <;> omega
      | some j => have := c2 j rfl; simp; rcases hs1 with rfl | rfl <;> split at hm <;> omega
  exact ⟨m, k, l1, l2, r, hm, h1, a1, b1, c1, h2, by omega, bound l1 a2, bound l2 b2⟩
theorem holder_walk {Ns : List D} {a u s m k va vu x y : Int} {T Lf Rg : D} (hs : (u > a ∧ s = 1) ∨ (¬ u > a ∧ s = -1)) (c0 : M_look_both [.tup Ns, .int a, .int u] = .ok false .non [])
    (c1 : M_is_above [.tup Ns, .int u, .int a] = .ok false (.bl true) []) (hne : ¬ a = u)
    (d1 : M_distance_to_bigger [.tup Ns, .int a, .int s, .int va] = .ok false (.int k) []) (d2 : M_distance_to_bigger [.tup Ns, .int a, .int (-s), .int va] = .ok false Lf []) (d3 : M_distance_to_bigger [.tup Ns, .int u, .int s, .int vu] = .ok false Rg [])
    (x1 : L2.atI Ns a = some (.int va)) (x2 : L2.atI Ns u = some (.int vu)) (hm : (if u - a < 0 then -(u - a) else u - a) = m) (f : M_first_of_three [.int m, Lf, Rg] = .ok false (.tup [.int x, .int y]) [])
    (mk1 : mulOk k x = true) (mk2 : mulOk m y = true) (rd : M_reduced [.int (k * x), .int (m * y)] = .ok false T []) : M_holder_chance [.tup Ns, .int a, .int u] = .ok false T [] := by
  show noExc (runF [.val, .val, .val] 9 g_holder_chance) _ = _
  unfold g_holder_chance
  generalize M_look_both = q0 at *
  generalize M_is_above = q1 at *
  generalize M_distance_to_bigger = q2 at *
  generalize M_first_of_three = q3 at *
  generalize M_reduced = q4 at *
  rcases hs with ⟨h, rfl⟩ | ⟨h, rfl⟩
  · walk_at "dh"
  · rw [Int.neg_neg] at d2
    walk_at "dh"
theorem around_walk {Ns : List D} {a u s m vu x y : Int} {T Lf Rg : D} (hs : (u > a ∧ s = 1) ∨ (¬ u > a ∧ s = -1)) (c0 : M_look_both [.tup Ns, .int a, .int u] = .ok false .non [])
    (c1 : M_is_above [.tup Ns, .int u, .int a] = .ok false (.bl true) []) (hne : ¬ a = u)
    (d2 : M_distance_to_bigger [.tup Ns, .int a, .int (-s), .int vu] = .ok false Lf []) (d3 : M_distance_to_bigger [.tup Ns, .int u, .int s, .int vu] = .ok false Rg [])
    (x2 : L2.atI Ns u = some (.int vu)) (hm : (if u - a < 0 then -(u - a) else u - a) = m) (f : M_first_of_three [.int m, Lf, Rg] = .ok false (.tup [.int x, .int y]) [])
    (rd : M_reduced [.int x, .int y] = .ok false T []) : M_around_chance [.tup Ns, .int a, .int u] = .ok false T [] := by
  show noExc (runF [.val, .val, .val] 7 g_around_chance) _ = _
  unfold g_around_chance
  generalize M_look_both = q0 at *
  generalize M_is_above = q1 at *
  generalize M_distance_to_bigger = q2 at *
  generalize M_first_of_three = q3 at *
  generalize M_reduced = q4 at *
  rcases hs with ⟨h, rfl⟩ | ⟨h, rfl⟩
  · walk_at "dh"
  · rw [Int.neg_neg] at d2
    walk_at "dh"
theorem holder_no {Ns : List D} {a u : Int} {b : Bool} (c0 : M_look_both [.tup Ns, .int a, .int u] = .ok false .non []) (c1 : M_is_above [.tup Ns, .int u, .int a] = .ok false (.bl b) []) (h : a = u ∨ b = false) :
    M_holder_chance [.tup Ns, .int a, .int u] = .ok false (.tup [.int 0, .int 1]) [] ∧ M_around_chance [.tup Ns, .int a, .int u] = .ok false (.tup [.int 0, .int 1]) [] := by
  have e2 : lenOk 2 = true := rfl
  constructor
  · show noExc (runF [.val, .val, .val] 9 g_holder_chance) _ = _
    unfold g_holder_chance
    generalize M_look_both = q0 at *
    generalize M_is_above = q1 at *
    by_cases c : a = u
    · have c' := eq_true c
      clear c h
      walk_at "dh"
    · have hb : b = false := h.resolve_left c
      clear h
      subst hb
      walk_at "dh"
  · show noExc (runF [.val, .val, .val] 7 g_around_chance) _ = _
    unfold g_around_chance
    generalize M_look_both = q0 at *
    generalize M_is_above = q1 at *
    by_cases c : a = u
    · have c' := eq_true c
      clear c h
      walk_at "dh"
    · have hb : b = false := h.resolve_left c
      clear h
      subst hb
      walk_at "dh"
theorem pair_walk {Ns Hs : List D} {hL : List Int} {a u s m k va vu x y : Int} {T T2 Lf Lf2 Rg : D} (hs : (u > a ∧ s = 1) ∨ (¬ u > a ∧ s = -1))
    (c1 : M_Lhigher [.tup Ns, .int a] = .ok true (.lst Hs) []) (hH : D.ints Hs = some hL) (hin : (u ∈ hL) = True)
    (d1 : M_Lbigger [.tup Ns, .int a, .int s, .int va] = .ok false (.int k) []) (d2 : M_Lbigger [.tup Ns, .int a, .int (-s), .int va] = .ok false Lf []) (d4 : M_Lbigger [.tup Ns, .int a, .int (-s), .int vu] = .ok false Lf2 []) (d3 : M_Lbigger [.tup Ns, .int u, .int s, .int vu] = .ok false Rg [])
    (x1 : L2.atI Ns a = some (.int va)) (x2 : L2.atI Ns u = some (.int vu)) (hm : (if u - a < 0 then -(u - a) else u - a) = m) (f : M_Lbehind [.int m, Lf, Rg] = .ok false (.tup [.int x, .int y]) []) (f2 : M_Lbehind [.int m, Lf2, Rg] = .ok false T2 [])
    (mk1 : mulOk k x = true) (mk2 : mulOk m y = true) (rd : M_Lpart [.int (k * x), .int (m * y)] = .ok false T []) : M_Lpair [.tup Ns, .int a, .int u] = .ok true (.lst [T, T2]) [] := by
  have e2 : lenOk 2 = true := rfl
  show noExc (runF [.val, .val, .val] 9 g_Lpair) _ = _
  unfold g_Lpair
  generalize M_Lhigher = q0 at *
  generalize M_Lbigger = q2 at *
  generalize M_Lbehind = q3 at *
  generalize M_Lpart = q4 at *
  rcases hs with ⟨h, rfl⟩ | ⟨h, rfl⟩
  · walk_at "dh"
  · rw [Int.neg_neg] at d2 d4
    walk_at "dh"
theorem pair_no {Ns Hs : List D} {hL : List Int} {a u : Int} (c1 : M_Lhigher [.tup Ns, .int a] = .ok true (.lst Hs) []) (hH : D.ints Hs = some hL) (hin : ¬ u ∈ hL) : M_Lpair [.tup Ns, .int a, .int u] = .ok true (.lst [.tup [.int 0, .int 1], .tup [.int 0, .int 1]]) [] := by
  have e2 : lenOk 2 = true := rfl
  show noExc (runF [.val, .val, .val] 9 g_Lpair) _ = _
  unfold g_Lpair
  generalize M_Lhigher = q0 at *
  walk_at "dh"

end K79
end
section
set_option Elab.async false
set_option linter.all false
set_option maxRecDepth 100000
set_option maxHeartbeats 4000000
namespace K79
open PySem PySem.Spec PyProof.Rows L2 DV
local macro_rules | `(tactic| walk_at "ds") => `(tactic| simp -implicitDefEqProofs only [
  DV.n_s_op, DV.n_s_test, DV.n_s_notT, DV.n_s_andT, DV.n_s_orT, DV.n_s_andV, DV.n_s_orV, DV.n_s_notV, DV.n_s_if, DV.n_s_onC, DV.n_s_chLeLt, DV.n_s_chLeLe, DV.n_s_chLtLe, DV.n_s_un, DV.n_s_ACons, DV.n_s_FCons, DV.n_s_AFCons, DV.n_s_lst, DV.n_s_tup, DV.n_s_call, DV.n_s_seq, DV.n_s_drop, DV.n_s_ret, DV.n_s_ifS, DV.n_s_asg, DV.n_s_augS, DV.n_s_tupAsg, DV.n_s_for, DV.n_whL_succ, DV.n_s_iseq, DV.n_s_irg, DV.n_s_izip, DV.n_s_lc, DV.n_lcL_cons, DV.n_s_fn, DV.n_s_mut, DV.n_s_store, DV.n_s_oSome, DV.n_s_sl, DV.n_s_sl3, DV.n_s_lrg1, DV.n_s_lrg2, DV.S0.loop_nx, DV.S0.loop_ct, DV.S0.loop_brk, DV.S0.loop_ret, DV.S0.loop_exc, DV.S0.loop_stuck, DV.S0.s_onG, DV.S0.s_onG0, DV.S0.s_onB, DV.S0.s_onI, DV.S0.s_onN, DV.S0.s_pkv, DV.S0.s_pkt, DV.S0.s_pks, DV.S0.s_pkS1, DV.S0.s_pkS2, DV.S0.s_pkS3, DV.S0.s_var, DV.S0.s_vr1, DV.S0.s_vr2, DV.S0.s_vr3, DV.S0.s_C, DV.S0.s_on, DV.S0.s_onV, DV.S0.s_onU, DV.S0.s_neg, DV.S0.s_II, DV.S0.s_IC, DV.S0.s_addI, DV.S0.s_addL, DV.S0.s_addT, DV.S0.s_addS, DV.S0.s_mulI, DV.S0.s_mulL, DV.S0.s_ixL, DV.S0.s_ixT, DV.S0.s_ixC, DV.S0.s_ANil, DV.S0.s_FNil, DV.S0.s_onF, DV.S0.s_fzv, DV.S0.s_fzt, DV.S0.s_fzs, DV.S0.s_fzS1, DV.S0.s_fzS2, DV.S0.s_peeks0, DV.S0.s_cons2, DV.S0.s_peeks, DV.S0.s_onLs, DV.S0.s_onL, DV.S0.s_lenL, DV.S0.s_lenT, DV.S0.s_lenC, DV.S0.s_listL, DV.S0.s_listT, DV.S0.s_tupleL, DV.S0.s_tupleT, DV.S0.s_intI, DV.S0.s_intB, DV.S0.s_abs, DV.S0.s_max2, DV.S0.s_min2, DV.S0.s_all, DV.S0.s_any, DV.S0.s_sum, DV.S0.s_asgv, DV.S0.s_asgt, DV.S0.s_asgs, DV.S0.s_asgS1, DV.S0.s_asgS2, DV.S0.s_asgS3, DV.S0.s_aug, DV.S0.s_onT, DV.S0.s_fzS0, DV.S0.s_fzSv, DV.S0.s_fzSt, DV.S0.s_fzSs, DV.S0.s_fzSk, DV.S0.s_many0, DV.S0.s_manyv, DV.S0.s_manyt, DV.S0.forL_nil, DV.S0.s_tg1, DV.S0.s_tgm, DV.S0.s_vals0, DV.S0.s_vals, DV.S0.s_itL, DV.S0.s_itT, DV.S0.s_rs1, DV.S0.s_rs2, DV.S0.s_onZL, DV.S0.s_onZT, DV.S0.lcL_nil, DV.S0.s_yes, DV.S0.s_onA, DV.S0.s_arg0, DV.S0.s_argV, DV.S0.s_argv, DV.S0.s_argB, DV.S0.s_argb, DV.S0.s_argi, DV.S0.s_setIo0, DV.S0.s_out0, DV.S0.s_out1, DV.S0.s_out1o, DV.S0.s_muO, DV.S0.s_onMut, DV.S0.s_onRc, DV.S0.s_rc, DV.S0.s_rcL, DV.S0.s_app, DV.S0.s_ext, DV.S0.s_popO, DV.S0.s_popAt, DV.S0.s_onFf, DV.S0.s_onSt, DV.S0.s_stO, DV.S0.s_gSt, DV.S0.s_stSo, DV.S0.s_stSi, DV.S0.s_onMuo, DV.S0.s_onMui, DV.S0.s_argIo, DV.S0.s_argIi, DV.S0.s_oNone, DV.S0.s_slL, DV.S0.s_slT, DV.S0.s_sl3L, DV.S0.s_run, DV.S0.s_endN, DV.S0.s_endR, DV.S0.s_endRp, DV.S0.s_endO, DV.S0.s_noExc, DV.S0.s_noX, DV.S0.s_resv, DV.S0.s_rest, DV.S0.s_ress, DV.S0.s_resS1, DV.S0.s_resS2, DV.S0.s_outs0, DV.S0.s_outC, DV.S0.s_outs, DV.S0.s_outAt, DV.S0.s_outS, DV.S0.s_ioIx0, DV.S0.s_ioIxv, DV.S0.s_ioIxb, DV.S0.s_ioIxi, DV.S0.s_init0, DV.S0.s_initv, DV.S0.s_initb, DV.S0.s_initi, DV.S0.s_wipe0, DV.S0.s_wipe, DV.S0.s_ap0, DV.S0.s_apv, DV.S0.s_api, DV.S0.s_apbv, DV.S0.s_apbt, DV.S0.s_apbs, DV.kOp2, DV.kOp, DV.kTest, DV.kNotT, DV.kAndT, DV.kOrT, DV.kBl, DV.kAndV, DV.kOrV, DV.kNotV, DV.kIf, DV.kCh2, DV.kCh, DV.kUn, DV.kAC2, DV.kAC, DV.kFC3, DV.kFC2, DV.kFC, DV.kAFC3, DV.kAFC2, DV.kAFC, DV.kLst, DV.kTup, DV.kCall, DV.kDrop, DV.kRet, DV.kIfS, DV.kAsg, DV.kAug, DV.kT, DV.kFor, DV.kWh, DV.kISeq, DV.kIRg, DV.kLC2, DV.kLC, DV.kL3, DV.kL2, DV.kL1, DV.kFn, DV.kMut3, DV.kMut2, DV.kMut, DV.kSt4, DV.kSt3, DV.kSt2, DV.kSt, DV.kOS, DV.kSl2, DV.kSl1, DV.kSl, DV.kSl33, DV.kSl32, DV.kSl31, DV.kSl3, DV.kLRg1, DV.kLRg22, DV.kLRg2, DV.kC2, DV.kC,
  Rs.bind_ok, Rs.bind_stuck, Rs.bind_exc, Rs.fl_ok, Rs.fl_stuck, Rs.fl_exc, Rs.wp_ok, Fl.seq_nx, Fl.seq_ret, Fl.seq_brk, Fl.seq_ct, Fl.seq_stuck, Fl.seq_exc,
  List.getElem?_cons_zero, List.getElem?_cons_succ, List.getElem?_nil, List.set_cons_zero, List.set_cons_succ, List.set_nil, List.cons_append, List.nil_append, List.append_nil, List.replicate, List.length_cons, List.length_nil, Nat.reduceAdd, Nat.reduceSub, Nat.zero_add, List.contains_nil, List.contains_cons, startL,
  Bool.and_true, Bool.true_and, Bool.and_false, Bool.false_and, Bool.or_true, Bool.true_or, Bool.or_false, Bool.false_or, Bool.not_true, Bool.not_false, if_true, if_false, reduceIte, reduceCtorEq, decide_true, decide_false, decide_eq_true_eq, Option.map_some, Option.map_none, Option.some_or, Option.none_or, Option.bind_some, Option.bind_none, Bool.false_eq_true, Nat.reduceLeDiff, Nat.reduceEqDiff, beq_iff_eq, Nat.reduceBEq, ne_eq, not_true_eq_false, not_false_eq_true, Option.some.injEq, Bool.not_eq_true', decide_eq_false_iff_not, Bool.not_not, L2.ixN, DV.atI_0, DV.atI_1, DV.atI_2, DV.atI_3, DV.atI_4, DV.atI_5, DV.atI_6, DV.atI_7, DV.atI_8, DV.atI_9, DV.atI_10, DV.atI_11, DV.atI_12, DV.atI_13, DV.atI_14, DV.atI_15, DV.atI_m1, DV.s_eqI, DV.s_neI, DV.s_eqB, DV.s_neB, Int.reduceLE, Int.reduceLT, Int.reduceNeg, Int.reduceToNat, Int.reduceAdd, Int.reduceMul, Int.reduceSub, Int.le_refl, Int.cast_ofNat_Int, Int.toNat_zero, Int.toNat_one, Int.reducePow, true_and, and_true, DV.isi_non_int, DV.isi_non_bool, DV.isi_non_str, DV.isi_non_list, DV.isi_non_tuple, DV.isi_non_seq, DV.isN_non, DV.isi_bl_int, DV.isi_bl_bool, DV.isi_bl_str, DV.isi_bl_list, DV.isi_bl_tuple, DV.isi_bl_seq, DV.isN_bl, DV.isi_int_int, DV.isi_int_bool, DV.isi_int_str, DV.isi_int_list, DV.isi_int_tuple, DV.isi_int_seq, DV.isN_int, DV.isi_str_int, DV.isi_str_bool, DV.isi_str_str, DV.isi_str_list, DV.isi_str_tuple, DV.isi_str_seq, DV.isN_str, DV.isi_lst_int, DV.isi_lst_bool, DV.isi_lst_str, DV.isi_lst_list, DV.isi_lst_tuple, DV.isi_lst_seq, DV.isN_lst, DV.isi_tup_int, DV.isi_tup_bool, DV.isi_tup_str, DV.isi_tup_list, DV.isi_tup_tuple, DV.isi_tup_seq, DV.isN_tup, DV.s_eqN, DV.s_neN, DV.b_tt, DV.b_tf, DV.b_ft, DV.b_ff, DV.n_s_unp, DV.kUnp, DV.s_unpT, DV.s_maxL, DV.s_minL, DV.s_onMM, DV.s_inL, DV.s_inT, DV.s_onIn, DV.s_onNotIn, DV.s_LRg2, DV.D.ints_ints])
local macro_rules | `(tactic| walk_at "dh") => `(tactic| simp -implicitDefEqProofs only [
  DV.n_s_op, DV.n_s_test, DV.n_s_notT, DV.n_s_andT, DV.n_s_orT, DV.n_s_andV, DV.n_s_orV, DV.n_s_notV, DV.n_s_if, DV.n_s_onC, DV.n_s_chLeLt, DV.n_s_chLeLe, DV.n_s_chLtLe, DV.n_s_un, DV.n_s_ACons, DV.n_s_FCons, DV.n_s_AFCons, DV.n_s_lst, DV.n_s_tup, DV.n_s_call, DV.n_s_seq, DV.n_s_drop, DV.n_s_ret, DV.n_s_ifS, DV.n_s_asg, DV.n_s_augS, DV.n_s_tupAsg, DV.n_s_for, DV.n_whL_succ, DV.n_s_iseq, DV.n_s_irg, DV.n_s_izip, DV.n_s_lc, DV.n_lcL_cons, DV.n_s_fn, DV.n_s_mut, DV.n_s_store, DV.n_s_oSome, DV.n_s_sl, DV.n_s_sl3, DV.n_s_lrg1, DV.n_s_lrg2, DV.S0.loop_nx, DV.S0.loop_ct, DV.S0.loop_brk, DV.S0.loop_ret, DV.S0.loop_exc, DV.S0.loop_stuck, DV.S0.s_onG, DV.S0.s_onG0, DV.S0.s_onB, DV.S0.s_onI, DV.S0.s_onN, DV.S0.s_pkv, DV.S0.s_pkt, DV.S0.s_pks, DV.S0.s_pkS1, DV.S0.s_pkS2, DV.S0.s_pkS3, DV.S0.s_var, DV.S0.s_vr1, DV.S0.s_vr2, DV.S0.s_vr3, DV.S0.s_C, DV.S0.s_on, DV.S0.s_onV, DV.S0.s_onU, DV.S0.s_neg, DV.S0.s_II, DV.S0.s_IC, DV.S0.s_addI, DV.S0.s_addL, DV.S0.s_addT, DV.S0.s_addS, DV.S0.s_mulI, DV.S0.s_mulL, DV.S0.s_ixL, DV.S0.s_ixT, DV.S0.s_ixC, DV.S0.s_ANil, DV.S0.s_FNil, DV.S0.s_onF, DV.S0.s_fzv, DV.S0.s_fzt, DV.S0.s_fzs, DV.S0.s_fzS1, DV.S0.s_fzS2, DV.S0.s_peeks0, DV.S0.s_cons2, DV.S0.s_peeks, DV.S0.s_onLs, DV.S0.s_onL, DV.S0.s_lenL, DV.S0.s_lenT, DV.S0.s_lenC, DV.S0.s_listL, DV.S0.s_listT, DV.S0.s_tupleL, DV.S0.s_tupleT, DV.S0.s_intI, DV.S0.s_intB, DV.S0.s_abs, DV.S0.s_max2, DV.S0.s_min2, DV.S0.s_all, DV.S0.s_any, DV.S0.s_sum, DV.S0.s_asgv, DV.S0.s_asgt, DV.S0.s_asgs, DV.S0.s_asgS1, DV.S0.s_asgS2, DV.S0.s_asgS3, DV.S0.s_aug, DV.S0.s_onT, DV.S0.s_fzS0, DV.S0.s_fzSv, DV.S0.s_fzSt, DV.S0.s_fzSs, DV.S0.s_fzSk, DV.S0.s_many0, DV.S0.s_manyv, DV.S0.s_manyt, DV.S0.forL_nil, DV.S0.s_tg1, DV.S0.s_tgm, DV.S0.s_vals0, DV.S0.s_vals, DV.S0.s_itL, DV.S0.s_itT, DV.S0.s_rs1, DV.S0.s_rs2, DV.S0.s_onZL, DV.S0.s_onZT, DV.S0.lcL_nil, DV.S0.s_yes, DV.S0.s_onA, DV.S0.s_arg0, DV.S0.s_argV, DV.S0.s_argv, DV.S0.s_argB, DV.S0.s_argb, DV.S0.s_argi, DV.S0.s_setIo0, DV.S0.s_out0, DV.S0.s_out1, DV.S0.s_out1o, DV.S0.s_muO, DV.S0.s_onMut, DV.S0.s_onRc, DV.S0.s_rc, DV.S0.s_rcL, DV.S0.s_app, DV.S0.s_ext, DV.S0.s_popO, DV.S0.s_popAt, DV.S0.s_onFf, DV.S0.s_onSt, DV.S0.s_stO, DV.S0.s_gSt, DV.S0.s_stSo, DV.S0.s_stSi, DV.S0.s_onMuo, DV.S0.s_onMui, DV.S0.s_argIo, DV.S0.s_argIi, DV.S0.s_oNone, DV.S0.s_slL, DV.S0.s_slT, DV.S0.s_sl3L, DV.S0.s_run, DV.S0.s_endN, DV.S0.s_endR, DV.S0.s_endRp, DV.S0.s_endO, DV.S0.s_noExc, DV.S0.s_noX, DV.S0.s_resv, DV.S0.s_rest, DV.S0.s_ress, DV.S0.s_resS1, DV.S0.s_resS2, DV.S0.s_outs0, DV.S0.s_outC, DV.S0.s_outs, DV.S0.s_outAt, DV.S0.s_outS, DV.S0.s_ioIx0, DV.S0.s_ioIxv, DV.S0.s_ioIxb, DV.S0.s_ioIxi, DV.S0.s_init0, DV.S0.s_initv, DV.S0.s_initb, DV.S0.s_initi, DV.S0.s_wipe0, DV.S0.s_wipe, DV.S0.s_ap0, DV.S0.s_apv, DV.S0.s_api, DV.S0.s_apbv, DV.S0.s_apbt, DV.S0.s_apbs, DV.kOp2, DV.kOp, DV.kTest, DV.kNotT, DV.kAndT, DV.kOrT, DV.kBl, DV.kAndV, DV.kOrV, DV.kNotV, DV.kIf, DV.kCh2, DV.kCh, DV.kUn, DV.kAC2, DV.kAC, DV.kFC3, DV.kFC2, DV.kFC, DV.kAFC3, DV.kAFC2, DV.kAFC, DV.kLst, DV.kTup, DV.kCall, DV.kDrop, DV.kRet, DV.kIfS, DV.kAsg, DV.kAug, DV.kT, DV.kFor, DV.kWh, DV.kISeq, DV.kIRg, DV.kLC2, DV.kLC, DV.kL3, DV.kL2, DV.kL1, DV.kFn, DV.kMut3, DV.kMut2, DV.kMut, DV.kSt4, DV.kSt3, DV.kSt2, DV.kSt, DV.kOS, DV.kSl2, DV.kSl1, DV.kSl, DV.kSl33, DV.kSl32, DV.kSl31, DV.kSl3, DV.kLRg1, DV.kLRg22, DV.kLRg2, DV.kC2, DV.kC,
  Rs.bind_ok, Rs.bind_stuck, Rs.bind_exc, Rs.fl_ok, Rs.fl_stuck, Rs.fl_exc, Rs.wp_ok, Fl.seq_nx, Fl.seq_ret, Fl.seq_brk, Fl.seq_ct, Fl.seq_stuck, Fl.seq_exc,
  List.getElem?_cons_zero, List.getElem?_cons_succ, List.getElem?_nil, List.set_cons_zero, List.set_cons_succ, List.set_nil, List.cons_append, List.nil_append, List.append_nil, List.replicate, List.length_cons, List.length_nil, Nat.reduceAdd, Nat.reduceSub, Nat.zero_add, List.contains_nil, List.contains_cons, startL,
  Bool.and_true, Bool.true_and, Bool.and_false, Bool.false_and, Bool.or_true, Bool.true_or, Bool.or_false, Bool.false_or, Bool.not_true, Bool.not_false, if_true, if_false, reduceIte, reduceCtorEq, decide_true, decide_false, decide_eq_true_eq, Option.map_some, Option.map_none, Option.some_or, Option.none_or, Option.bind_some, Option.bind_none, Bool.false_eq_true, Nat.reduceLeDiff, Nat.reduceEqDiff, beq_iff_eq, Nat.reduceBEq, ne_eq, not_true_eq_false, not_false_eq_true, Option.some.injEq, Bool.not_eq_true', decide_eq_false_iff_not, Bool.not_not, L2.ixN, DV.atI_0, DV.atI_1, DV.atI_2, DV.atI_3, DV.atI_4, DV.atI_5, DV.atI_6, DV.atI_7, DV.atI_8, DV.atI_9, DV.atI_10, DV.atI_11, DV.atI_12, DV.atI_13, DV.atI_14, DV.atI_15, DV.atI_m1, DV.s_eqI, DV.s_neI, DV.s_eqB, DV.s_neB, Int.reduceLE, Int.reduceLT, Int.reduceNeg, Int.reduceToNat, Int.reduceAdd, Int.reduceMul, Int.reduceSub, Int.le_refl, Int.cast_ofNat_Int, Int.toNat_zero, Int.toNat_one, Int.reducePow, true_and, and_true, DV.isi_non_int, DV.isi_non_bool, DV.isi_non_str, DV.isi_non_list, DV.isi_non_tuple, DV.isi_non_seq, DV.isN_non, DV.isi_bl_int, DV.isi_bl_bool, DV.isi_bl_str, DV.isi_bl_list, DV.isi_bl_tuple, DV.isi_bl_seq, DV.isN_bl, DV.isi_int_int, DV.isi_int_bool, DV.isi_int_str, DV.isi_int_list, DV.isi_int_tuple, DV.isi_int_seq, DV.isN_int, DV.isi_str_int, DV.isi_str_bool, DV.isi_str_str, DV.isi_str_list, DV.isi_str_tuple, DV.isi_str_seq, DV.isN_str, DV.isi_lst_int, DV.isi_lst_bool, DV.isi_lst_str, DV.isi_lst_list, DV.isi_lst_tuple, DV.isi_lst_seq, DV.isN_lst, DV.isi_tup_int, DV.isi_tup_bool, DV.isi_tup_str, DV.isi_tup_list, DV.isi_tup_tuple, DV.isi_tup_seq, DV.isN_tup, DV.s_eqN, DV.s_neN, DV.b_tt, DV.b_tf, DV.b_ft, DV.b_ff, DV.n_s_unp, DV.kUnp, DV.s_unpT, DV.s_maxL, DV.s_minL, DV.s_onMM, DV.s_inL, DV.s_inT, DV.s_onIn, DV.s_onNotIn, DV.s_LRg2, DV.D.ints_ints, *])
def Inj (n : Int) (v : Int → Int) : Prop := ∀ i j, 0 ≤ i → i < n → 0 ≤ j → j < n → v i = v j → i = j
def PairP (Ns : List D) (a u : Int) (x : (Nat × Nat) × (Nat × Nat)) : Prop :=
  M_holder_chance [.tup Ns, .int a, .int u] = .ok false (dP x.1) [] ∧ M_around_chance [.tup Ns, .int a, .int u] = .ok false (dP x.2) [] ∧ M_Lpair [.tup Ns, .int a, .int u] = .ok true (.lst [dP x.1, dP x.2]) [] ∧ FOk x.2
theorem ok01 : FOk (0, 1) := okP_ok (by decide)
theorem mpair {Ns : List D} {n : Int} {v : Int → Int} (R : RowV Ns n v) (hi : Inj n v) (hn : n ≤ 12) {a u : Int} (ha : 0 ≤ a ∧ a < n) (hu : 0 ≤ u ∧ u < n) : ∃ x, PairP Ns a u x := by
  have hl := R.len
  have c0 := mlookb (ds := Ns) (f := a) (l := u) ha.1 (by omega) hu.1 (by omega)
  have c1 := mabove R (u := u) (a := a) hu ha (by omega)
  obtain ⟨hL, c2, hmem⟩ := mhigher R (s := a) ha (by omega)
  by_cases hne : a = u
  · obtain ⟨h1, h2⟩ := holder_no c0 c1 (.inl hne)
    exact ⟨((0, 1), (0, 1)), h1, h2, pair_no c2 (D.ints_ints hL) (fun h => ((hmem u).mp h).2.1 hne.symm), ok01⟩
  have htop := top_above hi ha hu (fun e => hne e.symm)
  cases hb : aboveB v u a with
  | false =>
    rw [hb] at c1
    obtain ⟨h1, h2⟩ := holder_no c0 c1 (.inr rfl)
    exact ⟨((0, 1), (0, 1)), h1, h2, pair_no c2 (D.ints_ints hL) (fun h => by have := ((hmem u).mp h).2.2; rw [htop, hb] at this; cases this), ok01⟩
  | true =>
    rw [hb] at c1
    have hv : v a < v u := by
      unfold aboveB at hb
      rw [List.all_eq_true] at hb
      exact of_decide_eq_true (hb a (by unfold btw; simp))
    have hin : (u ∈ hL) = True := eq_true ((hmem u).mpr ⟨hu, fun e => hne e.symm, by rw [htop, hb]⟩)
    obtain ⟨s, hs⟩ : ∃ s : Int, (u > a ∧ s = 1) ∨ (¬ u > a ∧ s = -1) := by
      by_cases c : u > a
      · exact ⟨1, .inl ⟨c, rfl⟩⟩
      · exact ⟨-1, .inr ⟨c, rfl⟩⟩
    have hs1 : s = 1 ∨ s = -1 := by rcases hs with h | h; exact .inl h.2; exact .inr h.2
    have hs2 : -s = 1 ∨ -s = -1 := by omega
    obtain ⟨m, k, l1, l2, r, g⟩ := geo hs hn ha hu hne hv
    have x1 := R.at_ a ha.1 ha.2
    have x2 := R.at_ u hu.1 hu.2
    have D1 := mdist R (sz := v a) hs1 ha (by omega)
    have D2 := mdist R (sz := v a) hs2 ha (by omega)
    have D4 := mdist R (sz := v u) hs2 ha (by omega)
    have D3 := mdist R (sz := v u) hs1 hu (by omega)
    have B1 := mbigger R (sz := v a) hs1 ha (by omega)
    have B2 := mbigger R (sz := v a) hs2 ha (by omega)
    have B4 := mbigger R (sz := v u) hs2 ha (by omega)
    have B3 := mbigger R (sz := v u) hs1 hu (by omega)
    rw [g.near] at D1 B1
    rw [g.left1] at D2 B2
    rw [g.left2] at D4 B4
    rw [g.bey] at D3 B3
    obtain ⟨e1, e2, e3⟩ := g.p1.ck'
    obtain ⟨j1, j2, j3⟩ := g.p2.ck'
    obtain ⟨i1, i2⟩ := g.p1.c2' g.k0 g.km
    have m12 := g.p1.m0
    have km := g.km
    have hp1 : 0 < m * (fotN m l1 r).2 := Nat.mul_pos m12.1 e3.1
    have hp2 : 0 < m * (behN m l1 r).2 := Nat.mul_pos m12.1 e2.1
    have hq1 : m * (fotN m l1 r).2 ≤ 12 * 5000 := Nat.mul_le_mul (by omega) e3.2.2.2
    have hq2 : m * (behN m l1 r).2 ≤ 12 * 5000 := Nat.mul_le_mul (by omega) e2.2.2.2
    have R1 := red_dP (a := k * (fotN m l1 r).1) (b := m * (fotN m l1 r).2) hp1 (by omega)
    have R2 := part_dP (a := k * (behN m l1 r).1) (b := m * (behN m l1 r).2) hp2 (by omega)
    have R3 := red_dP (a := (fotN m l2 r).1) (b := (fotN m l2 r).2) j3.1 (by have := j3.2.2.2; omega)
    rw [Int.natCast_mul, Int.natCast_mul] at R1 R2
    rw [← i1] at R2
    have R3' : M_reduced [.int (fotN m l2 r).1, .int (fotN m l2 r).2] = .ok false (dP (behN m l2 r)) [] := by rw [R3, ← j1]
    refine ⟨(rdN (k * (fotN m l1 r).1, m * (fotN m l1 r).2), behN m l2 r), ?_, ?_, ?_, j2⟩
    · exact holder_walk hs c0 c1 hne D1 D2 D3 x1 x2 g.hm g.p1.fot (mulOk_l (by omega)) (mulOk_l (by omega)) R1
    · exact around_walk hs c0 c1 hne D4 D3 x2 g.hm g.p2.fot R3'
    · exact pair_walk hs c2 (D.ints_ints hL) hin B1 B2 B4 B3 x1 x2 g.hm g.p1.beh g.p2.beh (mulOk_l (by omega)) (mulOk_l (by omega)) R2
theorem ex_fun {X : Type} {Q : Int → Int → Prop} {P : Int → Int → X → Prop} (x0 : X) (h : ∀ a u, Q a u → ∃ x, P a u x) : ∃ f : Int → Int → X, ∀ a u, Q a u → P a u (f a u) := by
  classical
  refine ⟨fun a u => if q : Q a u then Classical.choose (h a u q) else x0, fun a u q => ?_⟩
  show P a u (dite (Q a u) (fun q => Classical.choose (h a u q)) (fun _ => x0))
  rw [dif_pos q]
  exact Classical.choose_spec (h a u q)
theorem mpairs {Ns : List D} {n : Int} {v : Int → Int} (R : RowV Ns n v) (hi : Inj n v) (hn : n ≤ 12) : ∃ f : Int → Int → (Nat × Nat) × (Nat × Nat), ∀ a u, (0 ≤ a ∧ a < n) ∧ (0 ≤ u ∧ u < n) → PairP Ns a u (f a u) :=
  ex_fun ((0, 1), (0, 1)) fun _ _ q => mpair R hi hn q.1 q.2

end K79
end
section
set_option Elab.async false
set_option linter.all false
set_option maxRecDepth 100000
set_option maxHeartbeats 4000000
namespace K79
open PySem PySem.Spec PyProof.Rows L2 DV
local macro_rules | `(tactic| walk_at "ds") => `(tactic| simp -implicitDefEqProofs only [
  DV.n_s_op, DV.n_s_test, DV.n_s_notT, DV.n_s_andT, DV.n_s_orT, DV.n_s_andV, DV.n_s_orV, DV.n_s_notV, DV.n_s_if, DV.n_s_onC, DV.n_s_chLeLt, DV.n_s_chLeLe, DV.n_s_chLtLe, DV.n_s_un, DV.n_s_ACons, DV.n_s_FCons, DV.n_s_AFCons, DV.n_s_lst, DV.n_s_tup, DV.n_s_call, DV.n_s_seq, DV.n_s_drop, DV.n_s_ret, DV.n_s_ifS, DV.n_s_asg, DV.n_s_augS, DV.n_s_tupAsg, DV.n_s_for, DV.n_whL_succ, DV.n_s_iseq, DV.n_s_irg, DV.n_s_izip, DV.n_s_lc, DV.n_lcL_cons, DV.n_s_fn, DV.n_s_mut, DV.n_s_store, DV.n_s_oSome, DV.n_s_sl, DV.n_s_sl3, DV.n_s_lrg1, DV.n_s_lrg2, DV.S0.loop_nx, DV.S0.loop_ct, DV.S0.loop_brk, DV.S0.loop_ret, DV.S0.loop_exc, DV.S0.loop_stuck, DV.S0.s_onG, DV.S0.s_onG0, DV.S0.s_onB, DV.S0.s_onI, DV.S0.s_onN, DV.S0.s_pkv, DV.S0.s_pkt, DV.S0.s_pks, DV.S0.s_pkS1, DV.S0.s_pkS2, DV.S0.s_pkS3, DV.S0.s_var, DV.S0.s_vr1, DV.S0.s_vr2, DV.S0.s_vr3, DV.S0.s_C, DV.S0.s_on, DV.S0.s_onV, DV.S0.s_onU, DV.S0.s_neg, DV.S0.s_II, DV.S0.s_IC, DV.S0.s_addI, DV.S0.s_addL, DV.S0.s_addT, DV.S0.s_addS, DV.S0.s_mulI, DV.S0.s_mulL, DV.S0.s_ixL, DV.S0.s_ixT, DV.S0.s_ixC, DV.S0.s_ANil, DV.S0.s_FNil, DV.S0.s_onF, DV.S0.s_fzv, DV.S0.s_fzt, DV.S0.s_fzs, DV.S0.s_fzS1, DV.S0.s_fzS2, DV.S0.s_peeks0, DV.S0.s_cons2, DV.S0.s_peeks, DV.S0.s_onLs, DV.S0.s_onL, DV.S0.s_lenL, DV.S0.s_lenT, DV.S0.s_lenC, DV.S0.s_listL, DV.S0.s_listT, DV.S0.s_tupleL, DV.S0.s_tupleT, DV.S0.s_intI, DV.S0.s_intB, DV.S0.s_abs, DV.S0.s_max2, DV.S0.s_min2, DV.S0.s_all, DV.S0.s_any, DV.S0.s_sum, DV.S0.s_asgv, DV.S0.s_asgt, DV.S0.s_asgs, DV.S0.s_asgS1, DV.S0.s_asgS2, DV.S0.s_asgS3, DV.S0.s_aug, DV.S0.s_onT, DV.S0.s_fzS0, DV.S0.s_fzSv, DV.S0.s_fzSt, DV.S0.s_fzSs, DV.S0.s_fzSk, DV.S0.s_many0, DV.S0.s_manyv, DV.S0.s_manyt, DV.S0.forL_nil, DV.S0.s_tg1, DV.S0.s_tgm, DV.S0.s_vals0, DV.S0.s_vals, DV.S0.s_itL, DV.S0.s_itT, DV.S0.s_rs1, DV.S0.s_rs2, DV.S0.s_onZL, DV.S0.s_onZT, DV.S0.lcL_nil, DV.S0.s_yes, DV.S0.s_onA, DV.S0.s_arg0, DV.S0.s_argV, DV.S0.s_argv, DV.S0.s_argB, DV.S0.s_argb, DV.S0.s_argi, DV.S0.s_setIo0, DV.S0.s_out0, DV.S0.s_out1, DV.S0.s_out1o, DV.S0.s_muO, DV.S0.s_onMut, DV.S0.s_onRc, DV.S0.s_rc, DV.S0.s_rcL, DV.S0.s_app, DV.S0.s_ext, DV.S0.s_popO, DV.S0.s_popAt, DV.S0.s_onFf, DV.S0.s_onSt, DV.S0.s_stO, DV.S0.s_gSt, DV.S0.s_stSo, DV.S0.s_stSi, DV.S0.s_onMuo, DV.S0.s_onMui, DV.S0.s_argIo, DV.S0.s_argIi, DV.S0.s_oNone, DV.S0.s_slL, DV.S0.s_slT, DV.S0.s_sl3L, DV.S0.s_run, DV.S0.s_endN, DV.S0.s_endR, DV.S0.s_endRp, DV.S0.s_endO, DV.S0.s_noExc, DV.S0.s_noX, DV.S0.s_resv, DV.S0.s_rest, DV.S0.s_ress, DV.S0.s_resS1, DV.S0.s_resS2, DV.S0.s_outs0, DV.S0.s_outC, DV.S0.s_outs, DV.S0.s_outAt, DV.S0.s_outS, DV.S0.s_ioIx0, DV.S0.s_ioIxv, DV.S0.s_ioIxb, DV.S0.s_ioIxi, DV.S0.s_init0, DV.S0.s_initv, DV.S0.s_initb, DV.S0.s_initi, DV.S0.s_wipe0, DV.S0.s_wipe, DV.S0.s_ap0, DV.S0.s_apv, DV.S0.s_api, DV.S0.s_apbv, DV.S0.s_apbt, DV.S0.s_apbs, DV.kOp2, DV.kOp, DV.kTest, DV.kNotT, DV.kAndT, DV.kOrT, DV.kBl, DV.kAndV, DV.kOrV, DV.kNotV, DV.kIf, DV.kCh2, DV.kCh, DV.kUn, DV.kAC2, DV.kAC, DV.kFC3, DV.kFC2, DV.kFC, DV.kAFC3, DV.kAFC2, DV.kAFC, DV.kLst, DV.kTup, DV.kCall, DV.kDrop, DV.kRet, DV.kIfS, DV.kAsg, DV.kAug, DV.kT, DV.kFor, DV.kWh, DV.kISeq, DV.kIRg, DV.kLC2, DV.kLC, DV.kL3, DV.kL2, DV.kL1, DV.kFn, DV.kMut3, DV.kMut2, DV.kMut, DV.kSt4, DV.kSt3, DV.kSt2, DV.kSt, DV.kOS, DV.kSl2, DV.kSl1, DV.kSl, DV.kSl33, DV.kSl32, DV.kSl31, DV.kSl3, DV.kLRg1, DV.kLRg22, DV.kLRg2, DV.kC2, DV.kC,
  Rs.bind_ok, Rs.bind_stuck, Rs.bind_exc, Rs.fl_ok, Rs.fl_stuck, Rs.fl_exc, Rs.wp_ok, Fl.seq_nx, Fl.seq_ret, Fl.seq_brk, Fl.seq_ct, Fl.seq_stuck, Fl.seq_exc,
  List.getElem?_cons_zero, List.getElem?_cons_succ, List.getElem?_nil, List.set_cons_zero, List.set_cons_succ, List.set_nil, List.cons_append, List.nil_append, List.append_nil, List.replicate, List.length_cons, List.length_nil, Nat.reduceAdd, Nat.reduceSub, Nat.zero_add, List.contains_nil, List.contains_cons, startL,
  Bool.and_true, Bool.true_and, Bool.and_false, Bool.false_and, Bool.or_true, Bool.true_or, Bool.or_false, Bool.false_or, Bool.not_true, Bool.not_false, if_true, if_false, reduceIte, reduceCtorEq, decide_true, decide_false, decide_eq_true_eq, Option.map_some, Option.map_none, Option.some_or, Option.none_or, Option.bind_some, Option.bind_none, Bool.false_eq_true, Nat.reduceLeDiff, Nat.reduceEqDiff, beq_iff_eq, Nat.reduceBEq, ne_eq, not_true_eq_false, not_false_eq_true, Option.some.injEq, Bool.not_eq_true', decide_eq_false_iff_not, Bool.not_not, L2.ixN, DV.atI_0, DV.atI_1, DV.atI_2, DV.atI_3, DV.atI_4, DV.atI_5, DV.atI_6, DV.atI_7, DV.atI_8, DV.atI_9, DV.atI_10, DV.atI_11, DV.atI_12, DV.atI_13, DV.atI_14, DV.atI_15, DV.atI_m1, DV.s_eqI, DV.s_neI, DV.s_eqB, DV.s_neB, Int.reduceLE, Int.reduceLT, Int.reduceNeg, Int.reduceToNat, Int.reduceAdd, Int.reduceMul, Int.reduceSub, Int.le_refl, Int.cast_ofNat_Int, Int.toNat_zero, Int.toNat_one, Int.reducePow, true_and, and_true, DV.isi_non_int, DV.isi_non_bool, DV.isi_non_str, DV.isi_non_list, DV.isi_non_tuple, DV.isi_non_seq, DV.isN_non, DV.isi_bl_int, DV.isi_bl_bool, DV.isi_bl_str, DV.isi_bl_list, DV.isi_bl_tuple, DV.isi_bl_seq, DV.isN_bl, DV.isi_int_int, DV.isi_int_bool, DV.isi_int_str, DV.isi_int_list, DV.isi_int_tuple, DV.isi_int_seq, DV.isN_int, DV.isi_str_int, DV.isi_str_bool, DV.isi_str_str, DV.isi_str_list, DV.isi_str_tuple, DV.isi_str_seq, DV.isN_str, DV.isi_lst_int, DV.isi_lst_bool, DV.isi_lst_str, DV.isi_lst_list, DV.isi_lst_tuple, DV.isi_lst_seq, DV.isN_lst, DV.isi_tup_int, DV.isi_tup_bool, DV.isi_tup_str, DV.isi_tup_list, DV.isi_tup_tuple, DV.isi_tup_seq, DV.isN_tup, DV.s_eqN, DV.s_neN, DV.b_tt, DV.b_tf, DV.b_ft, DV.b_ff, DV.n_s_unp, DV.kUnp, DV.s_unpT, DV.s_maxL, DV.s_minL, DV.s_onMM, DV.s_inL, DV.s_inT, DV.s_onIn, DV.s_onNotIn, DV.s_LRg2, DV.D.ints_ints])
local macro_rules | `(tactic| walk_at "dh") => `(tactic| simp -implicitDefEqProofs only [
  DV.n_s_op, DV.n_s_test, DV.n_s_notT, DV.n_s_andT, DV.n_s_orT, DV.n_s_andV, DV.n_s_orV, DV.n_s_notV, DV.n_s_if, DV.n_s_onC, DV.n_s_chLeLt, DV.n_s_chLeLe, DV.n_s_chLtLe, DV.n_s_un, DV.n_s_ACons, DV.n_s_FCons, DV.n_s_AFCons, DV.n_s_lst, DV.n_s_tup, DV.n_s_call, DV.n_s_seq, DV.n_s_drop, DV.n_s_ret, DV.n_s_ifS, DV.n_s_asg, DV.n_s_augS, DV.n_s_tupAsg, DV.n_s_for, DV.n_whL_succ, DV.n_s_iseq, DV.n_s_irg, DV.n_s_izip, DV.n_s_lc, DV.n_lcL_cons, DV.n_s_fn, DV.n_s_mut, DV.n_s_store, DV.n_s_oSome, DV.n_s_sl, DV.n_s_sl3, DV.n_s_lrg1, DV.n_s_lrg2, DV.S0.loop_nx, DV.S0.loop_ct, DV.S0.loop_brk, DV.S0.loop_ret, DV.S0.loop_exc, DV.S0.loop_stuck, DV.S0.s_onG, DV.S0.s_onG0, DV.S0.s_onB, DV.S0.s_onI, DV.S0.s_onN, DV.S0.s_pkv, DV.S0.s_pkt, DV.S0.s_pks, DV.S0.s_pkS1, DV.S0.s_pkS2, DV.S0.s_pkS3, DV.S0.s_var, DV.S0.s_vr1, DV.S0.s_vr2, DV.S0.s_vr3, DV.S0.s_C, DV.S0.s_on, DV.S0.s_onV, DV.S0.s_onU, DV.S0.s_neg, DV.S0.s_II, DV.S0.s_IC, DV.S0.s_addI, DV.S0.s_addL, DV.S0.s_addT, DV.S0.s_addS, DV.S0.s_mulI, DV.S0.s_mulL, DV.S0.s_ixL, DV.S0.s_ixT, DV.S0.s_ixC, DV.S0.s_ANil, DV.S0.s_FNil, DV.S0.s_onF, DV.S0.s_fzv, DV.S0.s_fzt, DV.S0.s_fzs, DV.S0.s_fzS1, DV.S0.s_fzS2, DV.S0.s_peeks0, DV.S0.s_cons2, DV.S0.s_peeks, DV.S0.s_onLs, DV.S0.s_onL, DV.S0.s_lenL, DV.S0.s_lenT, DV.S0.s_lenC, DV.S0.s_listL, DV.S0.s_listT, DV.S0.s_tupleL, DV.S0.s_tupleT, DV.S0.s_intI, DV.S0.s_intB, DV.S0.s_abs, DV.S0.s_max2, DV.S0.s_min2, DV.S0.s_all, DV.S0.s_any, DV.S0.s_sum, DV.S0.s_asgv, DV.S0.s_asgt, DV.S0.s_asgs, DV.S0.s_asgS1, DV.S0.s_asgS2, DV.S0.s_asgS3, DV.S0.s_aug, DV.S0.s_onT, DV.S0.s_fzS0, DV.S0.s_fzSv, DV.S0.s_fzSt, DV.S0.s_fzSs, DV.S0.s_fzSk, DV.S0.s_many0, DV.S0.s_manyv, DV.S0.s_manyt, DV.S0.forL_nil, DV.S0.s_tg1, DV.S0.s_tgm, DV.S0.s_vals0, DV.S0.s_vals, DV.S0.s_itL, DV.S0.s_itT, DV.S0.s_rs1, DV.S0.s_rs2, DV.S0.s_onZL, DV.S0.s_onZT, DV.S0.lcL_nil, DV.S0.s_yes, DV.S0.s_onA, DV.S0.s_arg0, DV.S0.s_argV, DV.S0.s_argv, DV.S0.s_argB, DV.S0.s_argb, DV.S0.s_argi, DV.S0.s_setIo0, DV.S0.s_out0, DV.S0.s_out1, DV.S0.s_out1o, DV.S0.s_muO, DV.S0.s_onMut, DV.S0.s_onRc, DV.S0.s_rc, DV.S0.s_rcL, DV.S0.s_app, DV.S0.s_ext, DV.S0.s_popO, DV.S0.s_popAt, DV.S0.s_onFf, DV.S0.s_onSt, DV.S0.s_stO, DV.S0.s_gSt, DV.S0.s_stSo, DV.S0.s_stSi, DV.S0.s_onMuo, DV.S0.s_onMui, DV.S0.s_argIo, DV.S0.s_argIi, DV.S0.s_oNone, DV.S0.s_slL, DV.S0.s_slT, DV.S0.s_sl3L, DV.S0.s_run, DV.S0.s_endN, DV.S0.s_endR, DV.S0.s_endRp, DV.S0.s_endO, DV.S0.s_noExc, DV.S0.s_noX, DV.S0.s_resv, DV.S0.s_rest, DV.S0.s_ress, DV.S0.s_resS1, DV.S0.s_resS2, DV.S0.s_outs0, DV.S0.s_outC, DV.S0.s_outs, DV.S0.s_outAt, DV.S0.s_outS, DV.S0.s_ioIx0, DV.S0.s_ioIxv, DV.S0.s_ioIxb, DV.S0.s_ioIxi, DV.S0.s_init0, DV.S0.s_initv, DV.S0.s_initb, DV.S0.s_initi, DV.S0.s_wipe0, DV.S0.s_wipe, DV.S0.s_ap0, DV.S0.s_apv, DV.S0.s_api, DV.S0.s_apbv, DV.S0.s_apbt, DV.S0.s_apbs, DV.kOp2, DV.kOp, DV.kTest, DV.kNotT, DV.kAndT, DV.kOrT, DV.kBl, DV.kAndV, DV.kOrV, DV.kNotV, DV.kIf, DV.kCh2, DV.kCh, DV.kUn, DV.kAC2, DV.kAC, DV.kFC3, DV.kFC2, DV.kFC, DV.kAFC3, DV.kAFC2, DV.kAFC, DV.kLst, DV.kTup, DV.kCall, DV.kDrop, DV.kRet, DV.kIfS, DV.kAsg, DV.kAug, DV.kT, DV.kFor, DV.kWh, DV.kISeq, DV.kIRg, DV.kLC2, DV.kLC, DV.kL3, DV.kL2, DV.kL1, DV.kFn, DV.kMut3, DV.kMut2, DV.kMut, DV.kSt4, DV.kSt3, DV.kSt2, DV.kSt, DV.kOS, DV.kSl2, DV.kSl1, DV.kSl, DV.kSl33, DV.kSl32, DV.kSl31, DV.kSl3, DV.kLRg1, DV.kLRg22, DV.kLRg2, DV.kC2, DV.kC,
  Rs.bind_ok, Rs.bind_stuck, Rs.bind_exc, Rs.fl_ok, Rs.fl_stuck, Rs.fl_exc, Rs.wp_ok, Fl.seq_nx, Fl.seq_ret, Fl.seq_brk, Fl.seq_ct, Fl.seq_stuck, Fl.seq_exc,
  List.getElem?_cons_zero, List.getElem?_cons_succ, List.getElem?_nil, List.set_cons_zero, List.set_cons_succ, List.set_nil, List.cons_append, List.nil_append, List.append_nil, List.replicate, List.length_cons, List.length_nil, Nat.reduceAdd, Nat.reduceSub, Nat.zero_add, List.contains_nil, List.contains_cons, startL,
  Bool.and_true, Bool.true_and, Bool.and_false, Bool.false_and, Bool.or_true, Bool.true_or, Bool.or_false, Bool.false_or, Bool.not_true, Bool.not_false, if_true, if_false, reduceIte, reduceCtorEq, decide_true, decide_false, decide_eq_true_eq, Option.map_some, Option.map_none, Option.some_or, Option.none_or, Option.bind_some, Option.bind_none, Bool.false_eq_true, Nat.reduceLeDiff, Nat.reduceEqDiff, beq_iff_eq, Nat.reduceBEq, ne_eq, not_true_eq_false, not_false_eq_true, Option.some.injEq, Bool.not_eq_true', decide_eq_false_iff_not, Bool.not_not, L2.ixN, DV.atI_0, DV.atI_1, DV.atI_2, DV.atI_3, DV.atI_4, DV.atI_5, DV.atI_6, DV.atI_7, DV.atI_8, DV.atI_9, DV.atI_10, DV.atI_11, DV.atI_12, DV.atI_13, DV.atI_14, DV.atI_15, DV.atI_m1, DV.s_eqI, DV.s_neI, DV.s_eqB, DV.s_neB, Int.reduceLE, Int.reduceLT, Int.reduceNeg, Int.reduceToNat, Int.reduceAdd, Int.reduceMul, Int.reduceSub, Int.le_refl, Int.cast_ofNat_Int, Int.toNat_zero, Int.toNat_one, Int.reducePow, true_and, and_true, DV.isi_non_int, DV.isi_non_bool, DV.isi_non_str, DV.isi_non_list, DV.isi_non_tuple, DV.isi_non_seq, DV.isN_non, DV.isi_bl_int, DV.isi_bl_bool, DV.isi_bl_str, DV.isi_bl_list, DV.isi_bl_tuple, DV.isi_bl_seq, DV.isN_bl, DV.isi_int_int, DV.isi_int_bool, DV.isi_int_str, DV.isi_int_list, DV.isi_int_tuple, DV.isi_int_seq, DV.isN_int, DV.isi_str_int, DV.isi_str_bool, DV.isi_str_str, DV.isi_str_list, DV.isi_str_tuple, DV.isi_str_seq, DV.isN_str, DV.isi_lst_int, DV.isi_lst_bool, DV.isi_lst_str, DV.isi_lst_list, DV.isi_lst_tuple, DV.isi_lst_seq, DV.isN_lst, DV.isi_tup_int, DV.isi_tup_bool, DV.isi_tup_str, DV.isi_tup_list, DV.isi_tup_tuple, DV.isi_tup_seq, DV.isN_tup, DV.s_eqN, DV.s_neN, DV.b_tt, DV.b_tf, DV.b_ft, DV.b_ff, DV.n_s_unp, DV.kUnp, DV.s_unpT, DV.s_maxL, DV.s_minL, DV.s_onMM, DV.s_inL, DV.s_inT, DV.s_onIn, DV.s_onNotIn, DV.s_LRg2, DV.D.ints_ints, *])
/-! ### the means -/
theorem lc_mapG {vs : List Nat} {t : Tg} {e : DE} {L0 : LS} {ds : List D} (f : Nat → D) (hn : ds.length ≤ 1000)
    (step : ∀ (j : Nat) (d : D), ds[j]? = some d → ∃ L1 r L3 L4, tgSet t d L0 = some L1 ∧ e L1 = .ok r L3 ∧ fz L3 r = some (f j, L4) ∧ wipeL L4 vs = L0) : lcL vs t dYes e ds [] L0 = .ok ((List.range ds.length).map f) L0 := by
  have h := lc_inv (vs := vs) (t := t) (c := dYes) (e := e) (I := fun _ L => L = L0) (F := fun j y => y = f j) ds 0 [] L0 rfl (by simp; omega) ?_
  · obtain ⟨ys, L', h1, h2, h3, rfl⟩ := h
    have e : ys = (List.range ds.length).map f := by
      apply List.ext_getElem?
      intro j
      by_cases hj : j < ys.length
      · have := h3 j _ (List.getElem?_eq_getElem hj)
        rw [Nat.zero_add] at this
        rw [List.getElem?_eq_getElem hj, this]
        simp [show j < ds.length by omega]
      · rw [List.getElem?_eq_none (by omega), List.getElem?_eq_none (by simp; omega)]
    rw [h1, e]; rfl
  · intro j d L hd hI
    subst hI
    rw [Nat.zero_add]
    obtain ⟨L1, r, L3, L4, h1, h2, h3, h4⟩ := step j d hd
    exact ⟨L1, L1, r, L3, f j, L4, h1, rfl, h2, h3, rfl, h4⟩
theorem range_map {f : Nat → Nat × Nat} (N : Nat) : (List.range N).map (fun j => dP (f j)) = ((List.range N).map f).map dP := by rw [List.map_map]; rfl
theorem mlookp {ds : List D} {f : Int} (h0 : 0 ≤ f) (h : f < (ds.length : Int)) : M_look_place [.tup ds, .int f] = .ok false .non [] := mlook h0 h
theorem depth_walk {Ns Ys : List D} {a n : Int} {N : Nat} {T : D} (c0 : M_look_place [.tup Ns, .int a] = .ok false .non []) (hl : (Ns.length : Int) = n) (e1 : rgOk n = true) (e2 : n.toNat = N)
    (h : lcL [2] (.one 2) dYes (dFn [.val, .val, .val] M_around_chance (dAFCons (dVar 0) (dAFCons (dVar 1) (dAFCons (dVar 2) dANil)))) (rgD 0 1 N) [] [.val (.tup Ns), .val (.int a), .un] = .ok Ys [.val (.tup Ns), .val (.int a), .un])
    (hs : M_added [.lst Ys] = .ok false T []) : M_mean_depth [.tup Ns, .int a] = .ok false T [] := by
  show noExc (runF [.val, .val] 3 g_mean_depth) _ = _
  unfold g_mean_depth
  generalize dFn [.val, .val, .val] M_around_chance _ = W at *
  generalize M_look_place = q0 at *
  generalize M_added = q1 at *
  walk_at "dh"
theorem inside_walk {Ns Ys : List D} {a n : Int} {N : Nat} {T : D} (c0 : M_look_place [.tup Ns, .int a] = .ok false .non []) (hl : (Ns.length : Int) = n) (e1 : rgOk n = true) (e2 : n.toNat = N)
    (h : lcL [2] (.one 2) dYes (dFn [.val, .val, .val] M_around_chance (dAFCons (dVar 0) (dAFCons (dVar 2) (dAFCons (dVar 1) dANil)))) (rgD 0 1 N) [] [.val (.tup Ns), .val (.int a), .un] = .ok Ys [.val (.tup Ns), .val (.int a), .un])
    (hs : M_added [.lst Ys] = .ok false T []) : M_mean_inside [.tup Ns, .int a] = .ok false T [] := by
  show noExc (runF [.val, .val] 3 g_mean_inside) _ = _
  unfold g_mean_inside
  generalize dFn [.val, .val, .val] M_around_chance _ = W at *
  generalize M_look_place = q0 at *
  generalize M_added = q1 at *
  walk_at "dh"
abbrev PF := Int → Int → (Nat × Nat) × (Nat × Nat)
def rowA (f : PF) (N : Nat) (a : Int) : List (Nat × Nat) := (List.range N).map fun j => (f a (j : Nat)).2
def colA (f : PF) (N : Nat) (a : Int) : List (Nat × Nat) := (List.range N).map fun j => (f (j : Nat) a).2
theorem mdepth {Ns : List D} {N : Nat} {f : PF} (hf : ∀ a u : Int, (0 ≤ a ∧ a < (N : Int)) ∧ (0 ≤ u ∧ u < (N : Int)) → PairP Ns a u (f a u)) (hl : (Ns.length : Int) = (N : Int)) (hN : N ≤ 12) {a : Int} (ha : 0 ≤ a ∧ a < (N : Int)) :
    M_mean_depth [.tup Ns, .int a] = .ok false (dP (sumF (rowA f N a))) [] ∧ (∀ p ∈ rowA f N a, FOk p) := by
  have hok : ∀ p ∈ rowA f N a, FOk p := by
    intro p hp
    obtain ⟨j, hj, rfl⟩ := List.mem_map.mp hp
    exact (hf a j ⟨ha, by omega, by have := List.mem_range.mp hj; omega⟩).2.2.2
  have h := lc_mapG (vs := [2]) (t := .one 2) (e := dFn [.val, .val, .val] M_around_chance (dAFCons (dVar 0) (dAFCons (dVar 1) (dAFCons (dVar 2) dANil)))) (L0 := [.val (.tup Ns), .val (.int a), .un]) (ds := rgD 0 1 N) (fun j => dP (f a (j : Nat)).2) (by rw [rgD_len]; omega) ?_
  · rw [rgD_len, range_map] at h
    exact ⟨depth_walk (mlookp ha.1 (by omega)) hl (rgOk_of (by omega) (by omega)) (by omega) h (madded hok), hok⟩
  · intro j d hd
    obtain ⟨rfl, hj⟩ := rg0_at hd
    have hA := (hf a j ⟨ha, by omega, by omega⟩).2.1
    refine ⟨[.val (.tup Ns), .val (.int a), .val (.int j)], .v (dP (f a j).2), [.val (.tup Ns), .val (.int a), .val (.int j)], _, rfl, ?_, rfl, rfl⟩
    clear hf
    generalize M_around_chance = q at *
    generalize dP (f a j).2 = T at *
    walk_at "dh"
theorem minside {Ns : List D} {N : Nat} {f : PF} (hf : ∀ a u : Int, (0 ≤ a ∧ a < (N : Int)) ∧ (0 ≤ u ∧ u < (N : Int)) → PairP Ns a u (f a u)) (hl : (Ns.length : Int) = (N : Int)) (hN : N ≤ 12) {a : Int} (ha : 0 ≤ a ∧ a < (N : Int)) :
    M_mean_inside [.tup Ns, .int a] = .ok false (dP (sumF (colA f N a))) [] ∧ (∀ p ∈ colA f N a, FOk p) := by
  have hok : ∀ p ∈ colA f N a, FOk p := by
    intro p hp
    obtain ⟨j, hj, rfl⟩ := List.mem_map.mp hp
    exact (hf j a ⟨⟨by omega, by have := List.mem_range.mp hj; omega⟩, ha⟩).2.2.2
  have h := lc_mapG (vs := [2]) (t := .one 2) (e := dFn [.val, .val, .val] M_around_chance (dAFCons (dVar 0) (dAFCons (dVar 2) (dAFCons (dVar 1) dANil)))) (L0 := [.val (.tup Ns), .val (.int a), .un]) (ds := rgD 0 1 N) (fun j => dP (f (j : Nat) a).2) (by rw [rgD_len]; omega) ?_
  · rw [rgD_len, range_map] at h
    exact ⟨inside_walk (mlookp ha.1 (by omega)) hl (rgOk_of (by omega) (by omega)) (by omega) h (madded hok), hok⟩
  · intro j d hd
    obtain ⟨rfl, hj⟩ := rg0_at hd
    have hA := (hf j a ⟨⟨by omega, by omega⟩, ha⟩).2.1
    refine ⟨[.val (.tup Ns), .val (.int a), .val (.int j)], .v (dP (f j a).2), [.val (.tup Ns), .val (.int a), .val (.int j)], _, rfl, ?_, rfl, rfl⟩
    clear hf
    generalize M_around_chance = q at *
    generalize dP (f j a).2 = T at *
    walk_at "dh"

end K79
end
section
set_option Elab.async false
set_option linter.all false
set_option maxRecDepth 100000
set_option maxHeartbeats 4000000
namespace K79
open PySem PySem.Spec PyProof.Rows L2 DV
local macro_rules | `(tactic| walk_at "ds") => `(tactic| simp -implicitDefEqProofs only [
  DV.n_s_op, DV.n_s_test, DV.n_s_notT, DV.n_s_andT, DV.n_s_orT, DV.n_s_andV, DV.n_s_orV, DV.n_s_notV, DV.n_s_if, DV.n_s_onC, DV.n_s_chLeLt, DV.n_s_chLeLe, DV.n_s_chLtLe, DV.n_s_un, DV.n_s_ACons, DV.n_s_FCons, DV.n_s_AFCons, DV.n_s_lst, DV.n_s_tup, DV.n_s_call, DV.n_s_seq, DV.n_s_drop, DV.n_s_ret, DV.n_s_ifS, DV.n_s_asg, DV.n_s_augS, DV.n_s_tupAsg, DV.n_s_for, DV.n_whL_succ, DV.n_s_iseq, DV.n_s_irg, DV.n_s_izip, DV.n_s_lc, DV.n_lcL_cons, DV.n_s_fn, DV.n_s_mut, DV.n_s_store, DV.n_s_oSome, DV.n_s_sl, DV.n_s_sl3, DV.n_s_lrg1, DV.n_s_lrg2, DV.S0.loop_nx, DV.S0.loop_ct, DV.S0.loop_brk, DV.S0.loop_ret, DV.S0.loop_exc, DV.S0.loop_stuck, DV.S0.s_onG, DV.S0.s_onG0, DV.S0.s_onB, DV.S0.s_onI, DV.S0.s_onN, DV.S0.s_pkv, DV.S0.s_pkt, DV.S0.s_pks, DV.S0.s_pkS1, DV.S0.s_pkS2, DV.S0.s_pkS3, DV.S0.s_var, DV.S0.s_vr1, DV.S0.s_vr2, DV.S0.s_vr3, DV.S0.s_C, DV.S0.s_on, DV.S0.s_onV, DV.S0.s_onU, DV.S0.s_neg, DV.S0.s_II, DV.S0.s_IC, DV.S0.s_addI, DV.S0.s_addL, DV.S0.s_addT, DV.S0.s_addS, DV.S0.s_mulI, DV.S0.s_mulL, DV.S0.s_ixL, DV.S0.s_ixT, DV.S0.s_ixC, DV.S0.s_ANil, DV.S0.s_FNil, DV.S0.s_onF, DV.S0.s_fzv, DV.S0.s_fzt, DV.S0.s_fzs, DV.S0.s_fzS1, DV.S0.s_fzS2, DV.S0.s_peeks0, DV.S0.s_cons2, DV.S0.s_peeks, DV.S0.s_onLs, DV.S0.s_onL, DV.S0.s_lenL, DV.S0.s_lenT, DV.S0.s_lenC, DV.S0.s_listL, DV.S0.s_listT, DV.S0.s_tupleL, DV.S0.s_tupleT, DV.S0.s_intI, DV.S0.s_intB, DV.S0.s_abs, DV.S0.s_max2, DV.S0.s_min2, DV.S0.s_all, DV.S0.s_any, DV.S0.s_sum, DV.S0.s_asgv, DV.S0.s_asgt, DV.S0.s_asgs, DV.S0.s_asgS1, DV.S0.s_asgS2, DV.S0.s_asgS3, DV.S0.s_aug, DV.S0.s_onT, DV.S0.s_fzS0, DV.S0.s_fzSv, DV.S0.s_fzSt, DV.S0.s_fzSs, DV.S0.s_fzSk, DV.S0.s_many0, DV.S0.s_manyv, DV.S0.s_manyt, DV.S0.forL_nil, DV.S0.s_tg1, DV.S0.s_tgm, DV.S0.s_vals0, DV.S0.s_vals, DV.S0.s_itL, DV.S0.s_itT, DV.S0.s_rs1, DV.S0.s_rs2, DV.S0.s_onZL, DV.S0.s_onZT, DV.S0.lcL_nil, DV.S0.s_yes, DV.S0.s_onA, DV.S0.s_arg0, DV.S0.s_argV, DV.S0.s_argv, DV.S0.s_argB, DV.S0.s_argb, DV.S0.s_argi, DV.S0.s_setIo0, DV.S0.s_out0, DV.S0.s_out1, DV.S0.s_out1o, DV.S0.s_muO, DV.S0.s_onMut, DV.S0.s_onRc, DV.S0.s_rc, DV.S0.s_rcL, DV.S0.s_app, DV.S0.s_ext, DV.S0.s_popO, DV.S0.s_popAt, DV.S0.s_onFf, DV.S0.s_onSt, DV.S0.s_stO, DV.S0.s_gSt, DV.S0.s_stSo, DV.S0.s_stSi, DV.S0.s_onMuo, DV.S0.s_onMui, DV.S0.s_argIo, DV.S0.s_argIi, DV.S0.s_oNone, DV.S0.s_slL, DV.S0.s_slT, DV.S0.s_sl3L, DV.S0.s_run, DV.S0.s_endN, DV.S0.s_endR, DV.S0.s_endRp, DV.S0.s_endO, DV.S0.s_noExc, DV.S0.s_noX, DV.S0.s_resv, DV.S0.s_rest, DV.S0.s_ress, DV.S0.s_resS1, DV.S0.s_resS2, DV.S0.s_outs0, DV.S0.s_outC, DV.S0.s_outs, DV.S0.s_outAt, DV.S0.s_outS, DV.S0.s_ioIx0, DV.S0.s_ioIxv, DV.S0.s_ioIxb, DV.S0.s_ioIxi, DV.S0.s_init0, DV.S0.s_initv, DV.S0.s_initb, DV.S0.s_initi, DV.S0.s_wipe0, DV.S0.s_wipe, DV.S0.s_ap0, DV.S0.s_apv, DV.S0.s_api, DV.S0.s_apbv, DV.S0.s_apbt, DV.S0.s_apbs, DV.kOp2, DV.kOp, DV.kTest, DV.kNotT, DV.kAndT, DV.kOrT, DV.kBl, DV.kAndV, DV.kOrV, DV.kNotV, DV.kIf, DV.kCh2, DV.kCh, DV.kUn, DV.kAC2, DV.kAC, DV.kFC3, DV.kFC2, DV.kFC, DV.kAFC3, DV.kAFC2, DV.kAFC, DV.kLst, DV.kTup, DV.kCall, DV.kDrop, DV.kRet, DV.kIfS, DV.kAsg, DV.kAug, DV.kT, DV.kFor, DV.kWh, DV.kISeq, DV.kIRg, DV.kLC2, DV.kLC, DV.kL3, DV.kL2, DV.kL1, DV.kFn, DV.kMut3, DV.kMut2, DV.kMut, DV.kSt4, DV.kSt3, DV.kSt2, DV.kSt, DV.kOS, DV.kSl2, DV.kSl1, DV.kSl, DV.kSl33, DV.kSl32, DV.kSl31, DV.kSl3, DV.kLRg1, DV.kLRg22, DV.kLRg2, DV.kC2, DV.kC,
  Rs.bind_ok, Rs.bind_stuck, Rs.bind_exc, Rs.fl_ok, Rs.fl_stuck, Rs.fl_exc, Rs.wp_ok, Fl.seq_nx, Fl.seq_ret, Fl.seq_brk, Fl.seq_ct, Fl.seq_stuck, Fl.seq_exc,
  List.getElem?_cons_zero, List.getElem?_cons_succ, List.getElem?_nil, List.set_cons_zero, List.set_cons_succ, List.set_nil, List.cons_append, List.nil_append, List.append_nil, List.replicate, List.length_cons, List.length_nil, Nat.reduceAdd, Nat.reduceSub, Nat.zero_add, List.contains_nil, List.contains_cons, startL,
  Bool.and_true, Bool.true_and, Bool.and_false, Bool.false_and, Bool.or_true, Bool.true_or, Bool.or_false, Bool.false_or, Bool.not_true, Bool.not_false, if_true, if_false, reduceIte, reduceCtorEq, decide_true, decide_false, decide_eq_true_eq, Option.map_some, Option.map_none, Option.some_or, Option.none_or, Option.bind_some, Option.bind_none, Bool.false_eq_true, Nat.reduceLeDiff, Nat.reduceEqDiff, beq_iff_eq, Nat.reduceBEq, ne_eq, not_true_eq_false, not_false_eq_true, Option.some.injEq, Bool.not_eq_true', decide_eq_false_iff_not, Bool.not_not, L2.ixN, DV.atI_0, DV.atI_1, DV.atI_2, DV.atI_3, DV.atI_4, DV.atI_5, DV.atI_6, DV.atI_7, DV.atI_8, DV.atI_9, DV.atI_10, DV.atI_11, DV.atI_12, DV.atI_13, DV.atI_14, DV.atI_15, DV.atI_m1, DV.s_eqI, DV.s_neI, DV.s_eqB, DV.s_neB, Int.reduceLE, Int.reduceLT, Int.reduceNeg, Int.reduceToNat, Int.reduceAdd, Int.reduceMul, Int.reduceSub, Int.le_refl, Int.cast_ofNat_Int, Int.toNat_zero, Int.toNat_one, Int.reducePow, true_and, and_true, DV.isi_non_int, DV.isi_non_bool, DV.isi_non_str, DV.isi_non_list, DV.isi_non_tuple, DV.isi_non_seq, DV.isN_non, DV.isi_bl_int, DV.isi_bl_bool, DV.isi_bl_str, DV.isi_bl_list, DV.isi_bl_tuple, DV.isi_bl_seq, DV.isN_bl, DV.isi_int_int, DV.isi_int_bool, DV.isi_int_str, DV.isi_int_list, DV.isi_int_tuple, DV.isi_int_seq, DV.isN_int, DV.isi_str_int, DV.isi_str_bool, DV.isi_str_str, DV.isi_str_list, DV.isi_str_tuple, DV.isi_str_seq, DV.isN_str, DV.isi_lst_int, DV.isi_lst_bool, DV.isi_lst_str, DV.isi_lst_list, DV.isi_lst_tuple, DV.isi_lst_seq, DV.isN_lst, DV.isi_tup_int, DV.isi_tup_bool, DV.isi_tup_str, DV.isi_tup_list, DV.isi_tup_tuple, DV.isi_tup_seq, DV.isN_tup, DV.s_eqN, DV.s_neN, DV.b_tt, DV.b_tf, DV.b_ft, DV.b_ff, DV.n_s_unp, DV.kUnp, DV.s_unpT, DV.s_maxL, DV.s_minL, DV.s_onMM, DV.s_inL, DV.s_inT, DV.s_onIn, DV.s_onNotIn, DV.s_LRg2, DV.D.ints_ints])
local macro_rules | `(tactic| walk_at "dh") => `(tactic| simp -implicitDefEqProofs only [
  DV.n_s_op, DV.n_s_test, DV.n_s_notT, DV.n_s_andT, DV.n_s_orT, DV.n_s_andV, DV.n_s_orV, DV.n_s_notV, DV.n_s_if, DV.n_s_onC, DV.n_s_chLeLt, DV.n_s_chLeLe, DV.n_s_chLtLe, DV.n_s_un, DV.n_s_ACons, DV.n_s_FCons, DV.n_s_AFCons, DV.n_s_lst, DV.n_s_tup, DV.n_s_call, DV.n_s_seq, DV.n_s_drop, DV.n_s_ret, DV.n_s_ifS, DV.n_s_asg, DV.n_s_augS, DV.n_s_tupAsg, DV.n_s_for, DV.n_whL_succ, DV.n_s_iseq, DV.n_s_irg, DV.n_s_izip, DV.n_s_lc, DV.n_lcL_cons, DV.n_s_fn, DV.n_s_mut, DV.n_s_store, DV.n_s_oSome, DV.n_s_sl, DV.n_s_sl3, DV.n_s_lrg1, DV.n_s_lrg2, DV.S0.loop_nx, DV.S0.loop_ct, DV.S0.loop_brk, DV.S0.loop_ret, DV.S0.loop_exc, DV.S0.loop_stuck, DV.S0.s_onG, DV.S0.s_onG0, DV.S0.s_onB, DV.S0.s_onI, DV.S0.s_onN, DV.S0.s_pkv, DV.S0.s_pkt, DV.S0.s_pks, DV.S0.s_pkS1, DV.S0.s_pkS2, DV.S0.s_pkS3, DV.S0.s_var, DV.S0.s_vr1, DV.S0.s_vr2, DV.S0.s_vr3, DV.S0.s_C, DV.S0.s_on, DV.S0.s_onV, DV.S0.s_onU, DV.S0.s_neg, DV.S0.s_II, DV.S0.s_IC, DV.S0.s_addI, DV.S0.s_addL, DV.S0.s_addT, DV.S0.s_addS, DV.S0.s_mulI, DV.S0.s_mulL, DV.S0.s_ixL, DV.S0.s_ixT, DV.S0.s_ixC, DV.S0.s_ANil, DV.S0.s_FNil, DV.S0.s_onF, DV.S0.s_fzv, DV.S0.s_fzt, DV.S0.s_fzs, DV.S0.s_fzS1, DV.S0.s_fzS2, DV.S0.s_peeks0, DV.S0.s_cons2, DV.S0.s_peeks, DV.S0.s_onLs, DV.S0.s_onL, DV.S0.s_lenL, DV.S0.s_lenT, DV.S0.s_lenC, DV.S0.s_listL, DV.S0.s_listT, DV.S0.s_tupleL, DV.S0.s_tupleT, DV.S0.s_intI, DV.S0.s_intB, DV.S0.s_abs, DV.S0.s_max2, DV.S0.s_min2, DV.S0.s_all, DV.S0.s_any, DV.S0.s_sum, DV.S0.s_asgv, DV.S0.s_asgt, DV.S0.s_asgs, DV.S0.s_asgS1, DV.S0.s_asgS2, DV.S0.s_asgS3, DV.S0.s_aug, DV.S0.s_onT, DV.S0.s_fzS0, DV.S0.s_fzSv, DV.S0.s_fzSt, DV.S0.s_fzSs, DV.S0.s_fzSk, DV.S0.s_many0, DV.S0.s_manyv, DV.S0.s_manyt, DV.S0.forL_nil, DV.S0.s_tg1, DV.S0.s_tgm, DV.S0.s_vals0, DV.S0.s_vals, DV.S0.s_itL, DV.S0.s_itT, DV.S0.s_rs1, DV.S0.s_rs2, DV.S0.s_onZL, DV.S0.s_onZT, DV.S0.lcL_nil, DV.S0.s_yes, DV.S0.s_onA, DV.S0.s_arg0, DV.S0.s_argV, DV.S0.s_argv, DV.S0.s_argB, DV.S0.s_argb, DV.S0.s_argi, DV.S0.s_setIo0, DV.S0.s_out0, DV.S0.s_out1, DV.S0.s_out1o, DV.S0.s_muO, DV.S0.s_onMut, DV.S0.s_onRc, DV.S0.s_rc, DV.S0.s_rcL, DV.S0.s_app, DV.S0.s_ext, DV.S0.s_popO, DV.S0.s_popAt, DV.S0.s_onFf, DV.S0.s_onSt, DV.S0.s_stO, DV.S0.s_gSt, DV.S0.s_stSo, DV.S0.s_stSi, DV.S0.s_onMuo, DV.S0.s_onMui, DV.S0.s_argIo, DV.S0.s_argIi, DV.S0.s_oNone, DV.S0.s_slL, DV.S0.s_slT, DV.S0.s_sl3L, DV.S0.s_run, DV.S0.s_endN, DV.S0.s_endR, DV.S0.s_endRp, DV.S0.s_endO, DV.S0.s_noExc, DV.S0.s_noX, DV.S0.s_resv, DV.S0.s_rest, DV.S0.s_ress, DV.S0.s_resS1, DV.S0.s_resS2, DV.S0.s_outs0, DV.S0.s_outC, DV.S0.s_outs, DV.S0.s_outAt, DV.S0.s_outS, DV.S0.s_ioIx0, DV.S0.s_ioIxv, DV.S0.s_ioIxb, DV.S0.s_ioIxi, DV.S0.s_init0, DV.S0.s_initv, DV.S0.s_initb, DV.S0.s_initi, DV.S0.s_wipe0, DV.S0.s_wipe, DV.S0.s_ap0, DV.S0.s_apv, DV.S0.s_api, DV.S0.s_apbv, DV.S0.s_apbt, DV.S0.s_apbs, DV.kOp2, DV.kOp, DV.kTest, DV.kNotT, DV.kAndT, DV.kOrT, DV.kBl, DV.kAndV, DV.kOrV, DV.kNotV, DV.kIf, DV.kCh2, DV.kCh, DV.kUn, DV.kAC2, DV.kAC, DV.kFC3, DV.kFC2, DV.kFC, DV.kAFC3, DV.kAFC2, DV.kAFC, DV.kLst, DV.kTup, DV.kCall, DV.kDrop, DV.kRet, DV.kIfS, DV.kAsg, DV.kAug, DV.kT, DV.kFor, DV.kWh, DV.kISeq, DV.kIRg, DV.kLC2, DV.kLC, DV.kL3, DV.kL2, DV.kL1, DV.kFn, DV.kMut3, DV.kMut2, DV.kMut, DV.kSt4, DV.kSt3, DV.kSt2, DV.kSt, DV.kOS, DV.kSl2, DV.kSl1, DV.kSl, DV.kSl33, DV.kSl32, DV.kSl31, DV.kSl3, DV.kLRg1, DV.kLRg22, DV.kLRg2, DV.kC2, DV.kC,
  Rs.bind_ok, Rs.bind_stuck, Rs.bind_exc, Rs.fl_ok, Rs.fl_stuck, Rs.fl_exc, Rs.wp_ok, Fl.seq_nx, Fl.seq_ret, Fl.seq_brk, Fl.seq_ct, Fl.seq_stuck, Fl.seq_exc,
  List.getElem?_cons_zero, List.getElem?_cons_succ, List.getElem?_nil, List.set_cons_zero, List.set_cons_succ, List.set_nil, List.cons_append, List.nil_append, List.append_nil, List.replicate, List.length_cons, List.length_nil, Nat.reduceAdd, Nat.reduceSub, Nat.zero_add, List.contains_nil, List.contains_cons, startL,
  Bool.and_true, Bool.true_and, Bool.and_false, Bool.false_and, Bool.or_true, Bool.true_or, Bool.or_false, Bool.false_or, Bool.not_true, Bool.not_false, if_true, if_false, reduceIte, reduceCtorEq, decide_true, decide_false, decide_eq_true_eq, Option.map_some, Option.map_none, Option.some_or, Option.none_or, Option.bind_some, Option.bind_none, Bool.false_eq_true, Nat.reduceLeDiff, Nat.reduceEqDiff, beq_iff_eq, Nat.reduceBEq, ne_eq, not_true_eq_false, not_false_eq_true, Option.some.injEq, Bool.not_eq_true', decide_eq_false_iff_not, Bool.not_not, L2.ixN, DV.atI_0, DV.atI_1, DV.atI_2, DV.atI_3, DV.atI_4, DV.atI_5, DV.atI_6, DV.atI_7, DV.atI_8, DV.atI_9, DV.atI_10, DV.atI_11, DV.atI_12, DV.atI_13, DV.atI_14, DV.atI_15, DV.atI_m1, DV.s_eqI, DV.s_neI, DV.s_eqB, DV.s_neB, Int.reduceLE, Int.reduceLT, Int.reduceNeg, Int.reduceToNat, Int.reduceAdd, Int.reduceMul, Int.reduceSub, Int.le_refl, Int.cast_ofNat_Int, Int.toNat_zero, Int.toNat_one, Int.reducePow, true_and, and_true, DV.isi_non_int, DV.isi_non_bool, DV.isi_non_str, DV.isi_non_list, DV.isi_non_tuple, DV.isi_non_seq, DV.isN_non, DV.isi_bl_int, DV.isi_bl_bool, DV.isi_bl_str, DV.isi_bl_list, DV.isi_bl_tuple, DV.isi_bl_seq, DV.isN_bl, DV.isi_int_int, DV.isi_int_bool, DV.isi_int_str, DV.isi_int_list, DV.isi_int_tuple, DV.isi_int_seq, DV.isN_int, DV.isi_str_int, DV.isi_str_bool, DV.isi_str_str, DV.isi_str_list, DV.isi_str_tuple, DV.isi_str_seq, DV.isN_str, DV.isi_lst_int, DV.isi_lst_bool, DV.isi_lst_str, DV.isi_lst_list, DV.isi_lst_tuple, DV.isi_lst_seq, DV.isN_lst, DV.isi_tup_int, DV.isi_tup_bool, DV.isi_tup_str, DV.isi_tup_list, DV.isi_tup_tuple, DV.isi_tup_seq, DV.isN_tup, DV.s_eqN, DV.s_neN, DV.b_tt, DV.b_tf, DV.b_ft, DV.b_ff, DV.n_s_unp, DV.kUnp, DV.s_unpT, DV.s_maxL, DV.s_minL, DV.s_onMM, DV.s_inL, DV.s_inT, DV.s_onIn, DV.s_onNotIn, DV.s_LRg2, DV.D.ints_ints, *])
/-! ### right -/
def rowP (f : PF) (N : Nat) (i : Nat) : List D := (List.range N).map fun j => .lst [dP (f (i : Nat) (j : Nat)).1, dP (f (i : Nat) (j : Nat)).2]
def allP (f : PF) (N : Nat) : List D := (List.range N).map fun i => .lst (rowP f N i)
theorem rowP_at {f : PF} {N i j : Nat} (h : j < N) : L2.atI (rowP f N i) ((j : Nat) : Int) = some (.lst [dP (f (i : Nat) (j : Nat)).1, dP (f (i : Nat) (j : Nat)).2]) := by
  rw [atI_nat _ _ (by simp [rowP]; exact h)]
  simp [rowP, h]
theorem allP_at {f : PF} {N i : Nat} (h : i < N) : L2.atI (allP f N) ((i : Nat) : Int) = some (.lst (rowP f N i)) := by
  rw [atI_nat _ _ (by simp [allP]; exact h)]
  simp [allP, h]
def pairE : DE := (dFn [.val, .val, .val] M_Lpair (dAFCons (dVar 1) (dAFCons (dVar 4) (dAFCons (dVar 5) dANil))))
theorem pairs_in {Ns : List D} {N : Nat} {f : PF} {b : D} {n : Int} {s3 s6 s7 s8 : Sl} (hf : ∀ a u : Int, (0 ≤ a ∧ a < (N : Int)) ∧ (0 ≤ u ∧ u < (N : Int)) → PairP Ns a u (f a u)) (hN : N ≤ 12) {i : Nat} (hi : i < N) :
    lcL [5] (.one 5) dYes pairE (rgD 0 1 N) [] [.obj (.io 0) b, .val (.tup Ns), .val (.int n), s3, .val (.int i), .un, s6, s7, s8] = .ok (rowP f N i) [.obj (.io 0) b, .val (.tup Ns), .val (.int n), s3, .val (.int i), .un, s6, s7, s8] := by
  have h := lc_mapG (vs := [5]) (t := .one 5) (e := pairE) (L0 := [.obj (.io 0) b, .val (.tup Ns), .val (.int n), s3, .val (.int i), .un, s6, s7, s8]) (ds := rgD 0 1 N) (fun j => .lst [dP (f (i : Nat) (j : Nat)).1, dP (f (i : Nat) (j : Nat)).2]) (by rw [rgD_len]; omega) ?_
  · rw [rgD_len] at h; exact h
  · intro j d hd
    obtain ⟨rfl, hj⟩ := rg0_at hd
    have hA := (hf i j ⟨⟨by omega, by omega⟩, by omega, by omega⟩).2.2.1
    refine ⟨[.obj (.io 0) b, .val (.tup Ns), .val (.int n), s3, .val (.int i), .val (.int j), s6, s7, s8], .t (.lst [dP (f (i : Nat) (j : Nat)).1, dP (f (i : Nat) (j : Nat)).2]), [.obj (.io 0) b, .val (.tup Ns), .val (.int n), s3, .val (.int i), .val (.int j), s6, s7, s8], _, rfl, ?_, rfl, rfl⟩
    clear hf
    unfold pairE
    generalize M_Lpair = q at *
    generalize D.lst [dP (f (i : Nat) (j : Nat)).1, dP (f (i : Nat) (j : Nat)).2] = T at *
    walk_at "dh"
theorem pairs_out {Ns : List D} {N : Nat} {f : PF} {b : D} {n : Int} {s3 s6 s7 s8 : Sl} (hf : ∀ a u : Int, (0 ≤ a ∧ a < (N : Int)) ∧ (0 ≤ u ∧ u < (N : Int)) → PairP Ns a u (f a u)) (hN : N ≤ 12) (e1 : rgOk n = true) (e2 : n.toNat = N) :
    lcL [4] (.one 4) dYes (dLC [5] (.one 5) (dIRg onRg1 (dACons (dVar 2) dANil)) dYes pairE) (rgD 0 1 N) [] [.obj (.io 0) b, .val (.tup Ns), .val (.int n), s3, .un, .un, s6, s7, s8] = .ok (allP f N) [.obj (.io 0) b, .val (.tup Ns), .val (.int n), s3, .un, .un, s6, s7, s8] := by
  have h := lc_mapG (vs := [4]) (t := .one 4) (e := dLC [5] (.one 5) (dIRg onRg1 (dACons (dVar 2) dANil)) dYes pairE) (L0 := [.obj (.io 0) b, .val (.tup Ns), .val (.int n), s3, .un, .un, s6, s7, s8]) (ds := rgD 0 1 N) (fun i => .lst (rowP f N i)) (by rw [rgD_len]; omega) ?_
  · rw [rgD_len] at h; exact h
  · intro i d hd
    obtain ⟨rfl, hi⟩ := rg0_at hd
    have hp := pairs_in (b := b) (n := n) (s3 := s3) (s6 := s6) (s7 := s7) (s8 := s8) hf hN hi
    refine ⟨[.obj (.io 0) b, .val (.tup Ns), .val (.int n), s3, .val (.int i), .un, s6, s7, s8], .t (.lst (rowP f N i)), [.obj (.io 0) b, .val (.tup Ns), .val (.int n), s3, .val (.int i), .un, s6, s7, s8], _, rfl, ?_, rfl, rfl⟩
    clear hf
    generalize pairE = q at *
    generalize rowP f N i = T at *
    walk_at "dh"
def innB : DS := (dSeq (dAsg 6 (dLst (dFCons (dFn [.val, .val, .val] M_holder_chance (dAFCons (dVar 1) (dAFCons (dVar 4) (dAFCons (dVar 5) dANil)))) (dFCons (dFn [.val, .val, .val] M_around_chance (dAFCons (dVar 1) (dAFCons (dVar 4) (dAFCons (dVar 5) dANil)))) dFNil)))) (dIfS (dNotT (dTest (dFn [.val, .val] M_Lsame (dAFCons (dVar 6) (dAFCons (dOp gIx (dOp gIx (dVar 3) (dVar 4)) (dVar 5)) dANil))))) (dRet (dC (.bl false))) dNop))
theorem inn_step {Ns PP Pi : List D} {b H A : D} {n i j : Int} {s3 s6 : Sl} (h3 : s3 = .obj .own (.lst PP) ∨ s3 = .val (.lst PP)) (h1 : M_holder_chance [.tup Ns, .int i, .int j] = .ok false H []) (h2 : M_around_chance [.tup Ns, .int i, .int j] = .ok false A [])
    (x1 : L2.atI PP i = some (.lst Pi)) (x2 : L2.atI Pi j = some (.lst [H, A])) (hs : M_Lsame [.lst [H, A], .lst [H, A]] = .ok false (.bl true) []) :
    innB [.obj (.io 0) b, .val (.tup Ns), .val (.int n), s3, .val (.int i), .val (.int j), s6, .un, .un] = .nx [.obj (.io 0) b, .val (.tup Ns), .val (.int n), s3, .val (.int i), .val (.int j), .val (.lst [H, A]), .un, .un] := by
  have e : lenOk 2 = true := rfl
  unfold innB
  generalize M_holder_chance = q1 at *
  generalize M_around_chance = q2 at *
  generalize M_Lsame = q3 at *
  rcases h3 with rfl | rfl
  · walk_at "dh"
  · walk_at "dh"
theorem pl_dP (p : Nat × Nat) (n : Nat) : Pl (n + 1) (dP p) := .tup (by simp) (by simp; exact ⟨.int _, .int _⟩)
theorem pl_two (p q : Nat × Nat) : Pl 2 (.lst [dP p, dP q]) := .lst (by simp) (by simp; exact ⟨pl_dP _ 0, pl_dP _ 0⟩)
def outB : DS := (dSeq (dFor (.one 5) (dIRg onRg1 (dACons (dVar 2) dANil)) innB) (dSeq (dIfS (dNotT (dTest (dFn [.val, .val] M_Lsame (dAFCons (dFn [.val, .val] M_mean_depth (dAFCons (dVar 1) (dAFCons (dVar 4) dANil))) (dAFCons (dFn [.val] M_Lsum_of (dAFCons (dLC [7] (.one 7) (dISeq (dOp gIx (dVar 3) (dVar 4))) dYes (dOp gIx (dVar 7) (dC (.int 1)))) dANil)) dANil))))) (dRet (dC (.bl false))) dNop) (dIfS (dNotT (dTest (dFn [.val, .val] M_Lsame (dAFCons (dFn [.val, .val] M_mean_inside (dAFCons (dVar 1) (dAFCons (dVar 4) dANil))) (dAFCons (dFn [.val] M_Lsum_of (dAFCons (dLC [8] (.one 8) (dISeq (dVar 3)) dYes (dOp gIx (dOp gIx (dVar 8) (dVar 4)) (dC (.int 1)))) dANil)) dANil))))) (dRet (dC (.bl false))) dNop)))
theorem row_lc {f : PF} {N i : Nat} (hN : N ≤ 12) {L0 : List Sl} {s0 s1 s2 s3 s4 s5 s6 : Sl} (h0 : L0 = [s0, s1, s2, s3, s4, s5, s6, .un, .un]) : lcL [7] (.one 7) dYes (dOp gIx (dVar 7) (dC (.int 1))) (rowP f N i) [] L0 = .ok ((rowA f N i).map dP) L0 := by
  subst h0
  have h := lc_mapG (vs := [7]) (t := .one 7) (e := dOp gIx (dVar 7) (dC (.int 1))) (L0 := [s0, s1, s2, s3, s4, s5, s6, .un, .un]) (ds := rowP f N i) (fun j => dP (f i (j : Nat)).2) (by simp [rowP]; omega) ?_
  · have e : (rowP f N i).length = N := by simp [rowP]
    rw [e, range_map] at h; exact h
  · intro j d hd
    have hj : j < N := by have := (List.getElem?_eq_some_iff.mp hd).1; simpa [rowP] using this
    simp [rowP, hj] at hd
    subst hd
    refine ⟨[s0, s1, s2, s3, s4, s5, s6, .val (.lst [dP (f (i : Nat) (j : Nat)).1, dP (f (i : Nat) (j : Nat)).2]), .un], .v (dP (f i (j : Nat)).2), [s0, s1, s2, s3, s4, s5, s6, .val (.lst [dP (f (i : Nat) (j : Nat)).1, dP (f (i : Nat) (j : Nat)).2]), .un], _, rfl, ?_, rfl, rfl⟩
    walk_at "dh"
theorem col_lc {f : PF} {N i : Nat} (hN : N ≤ 12) (hi : i < N) {s0 s1 s2 s3 s5 s6 : Sl} : lcL [8] (.one 8) dYes (dOp gIx (dOp gIx (dVar 8) (dVar 4)) (dC (.int 1))) (allP f N) [] [s0, s1, s2, s3, .val (.int (i : Int)), s5, s6, .un, .un] = .ok ((colA f N i).map dP) [s0, s1, s2, s3, .val (.int (i : Int)), s5, s6, .un, .un] := by
  have h := lc_mapG (vs := [8]) (t := .one 8) (e := dOp gIx (dOp gIx (dVar 8) (dVar 4)) (dC (.int 1))) (L0 := [s0, s1, s2, s3, .val (.int (i : Int)), s5, s6, .un, .un]) (ds := allP f N) (fun j => dP (f (j : Nat) i).2) (by simp [allP]; omega) ?_
  · have e : (allP f N).length = N := by simp [allP]
    rw [e, range_map] at h; exact h
  · intro j d hd
    have hj : j < N := by have := (List.getElem?_eq_some_iff.mp hd).1; simpa [allP] using this
    simp [allP, hj] at hd
    subst hd
    have x := rowP_at (f := f) (i := j) hi
    refine ⟨[s0, s1, s2, s3, .val (.int (i : Int)), s5, s6, .un, .val (.lst (rowP f N j))], .v (dP (f (j : Nat) i).2), [s0, s1, s2, s3, .val (.int (i : Int)), s5, s6, .un, .val (.lst (rowP f N j))], _, rfl, ?_, rfl, rfl⟩
    generalize rowP f N j = T at *
    walk_at "dh"

end K79
end
section
set_option Elab.async false
set_option linter.all false
set_option maxRecDepth 100000
set_option maxHeartbeats 4000000
namespace K79
open PySem PySem.Spec PyProof.Rows L2 DV
local macro_rules | `(tactic| walk_at "ds") => `(tactic| simp -implicitDefEqProofs only [
  DV.n_s_op, DV.n_s_test, DV.n_s_notT, DV.n_s_andT, DV.n_s_orT, DV.n_s_andV, DV.n_s_orV, DV.n_s_notV, DV.n_s_if, DV.n_s_onC, DV.n_s_chLeLt, DV.n_s_chLeLe, DV.n_s_chLtLe, DV.n_s_un, DV.n_s_ACons, DV.n_s_FCons, DV.n_s_AFCons, DV.n_s_lst, DV.n_s_tup, DV.n_s_call, DV.n_s_seq, DV.n_s_drop, DV.n_s_ret, DV.n_s_ifS, DV.n_s_asg, DV.n_s_augS, DV.n_s_tupAsg, DV.n_s_for, DV.n_whL_succ, DV.n_s_iseq, DV.n_s_irg, DV.n_s_izip, DV.n_s_lc, DV.n_lcL_cons, DV.n_s_fn, DV.n_s_mut, DV.n_s_store, DV.n_s_oSome, DV.n_s_sl, DV.n_s_sl3, DV.n_s_lrg1, DV.n_s_lrg2, DV.S0.loop_nx, DV.S0.loop_ct, DV.S0.loop_brk, DV.S0.loop_ret, DV.S0.loop_exc, DV.S0.loop_stuck, DV.S0.s_onG, DV.S0.s_onG0, DV.S0.s_onB, DV.S0.s_onI, DV.S0.s_onN, DV.S0.s_pkv, DV.S0.s_pkt, DV.S0.s_pks, DV.S0.s_pkS1, DV.S0.s_pkS2, DV.S0.s_pkS3, DV.S0.s_var, DV.S0.s_vr1, DV.S0.s_vr2, DV.S0.s_vr3, DV.S0.s_C, DV.S0.s_on, DV.S0.s_onV, DV.S0.s_onU, DV.S0.s_neg, DV.S0.s_II, DV.S0.s_IC, DV.S0.s_addI, DV.S0.s_addL, DV.S0.s_addT, DV.S0.s_addS, DV.S0.s_mulI, DV.S0.s_mulL, DV.S0.s_ixL, DV.S0.s_ixT, DV.S0.s_ixC, DV.S0.s_ANil, DV.S0.s_FNil, DV.S0.s_onF, DV.S0.s_fzv, DV.S0.s_fzt, DV.S0.s_fzs, DV.S0.s_fzS1, DV.S0.s_fzS2, DV.S0.s_peeks0, DV.S0.s_cons2, DV.S0.s_peeks, DV.S0.s_onLs, DV.S0.s_onL, DV.S0.s_lenL, DV.S0.s_lenT, DV.S0.s_lenC, DV.S0.s_listL, DV.S0.s_listT, DV.S0.s_tupleL, DV.S0.s_tupleT, DV.S0.s_intI, DV.S0.s_intB, DV.S0.s_abs, DV.S0.s_max2, DV.S0.s_min2, DV.S0.s_all, DV.S0.s_any, DV.S0.s_sum, DV.S0.s_asgv, DV.S0.s_asgt, DV.S0.s_asgs, DV.S0.s_asgS1, DV.S0.s_asgS2, DV.S0.s_asgS3, DV.S0.s_aug, DV.S0.s_onT, DV.S0.s_fzS0, DV.S0.s_fzSv, DV.S0.s_fzSt, DV.S0.s_fzSs, DV.S0.s_fzSk, DV.S0.s_many0, DV.S0.s_manyv, DV.S0.s_manyt, DV.S0.forL_nil, DV.S0.s_tg1, DV.S0.s_tgm, DV.S0.s_vals0, DV.S0.s_vals, DV.S0.s_itL, DV.S0.s_itT, DV.S0.s_rs1, DV.S0.s_rs2, DV.S0.s_onZL, DV.S0.s_onZT, DV.S0.lcL_nil, DV.S0.s_yes, DV.S0.s_onA, DV.S0.s_arg0, DV.S0.s_argV, DV.S0.s_argv, DV.S0.s_argB, DV.S0.s_argb, DV.S0.s_argi, DV.S0.s_setIo0, DV.S0.s_out0, DV.S0.s_out1, DV.S0.s_out1o, DV.S0.s_muO, DV.S0.s_onMut, DV.S0.s_onRc, DV.S0.s_rc, DV.S0.s_rcL, DV.S0.s_app, DV.S0.s_ext, DV.S0.s_popO, DV.S0.s_popAt, DV.S0.s_onFf, DV.S0.s_onSt, DV.S0.s_stO, DV.S0.s_gSt, DV.S0.s_stSo, DV.S0.s_stSi, DV.S0.s_onMuo, DV.S0.s_onMui, DV.S0.s_argIo, DV.S0.s_argIi, DV.S0.s_oNone, DV.S0.s_slL, DV.S0.s_slT, DV.S0.s_sl3L, DV.S0.s_run, DV.S0.s_endN, DV.S0.s_endR, DV.S0.s_endRp, DV.S0.s_endO, DV.S0.s_noExc, DV.S0.s_noX, DV.S0.s_resv, DV.S0.s_rest, DV.S0.s_ress, DV.S0.s_resS1, DV.S0.s_resS2, DV.S0.s_outs0, DV.S0.s_outC, DV.S0.s_outs, DV.S0.s_outAt, DV.S0.s_outS, DV.S0.s_ioIx0, DV.S0.s_ioIxv, DV.S0.s_ioIxb, DV.S0.s_ioIxi, DV.S0.s_init0, DV.S0.s_initv, DV.S0.s_initb, DV.S0.s_initi, DV.S0.s_wipe0, DV.S0.s_wipe, DV.S0.s_ap0, DV.S0.s_apv, DV.S0.s_api, DV.S0.s_apbv, DV.S0.s_apbt, DV.S0.s_apbs, DV.kOp2, DV.kOp, DV.kTest, DV.kNotT, DV.kAndT, DV.kOrT, DV.kBl, DV.kAndV, DV.kOrV, DV.kNotV, DV.kIf, DV.kCh2, DV.kCh, DV.kUn, DV.kAC2, DV.kAC, DV.kFC3, DV.kFC2, DV.kFC, DV.kAFC3, DV.kAFC2, DV.kAFC, DV.kLst, DV.kTup, DV.kCall, DV.kDrop, DV.kRet, DV.kIfS, DV.kAsg, DV.kAug, DV.kT, DV.kFor, DV.kWh, DV.kISeq, DV.kIRg, DV.kLC2, DV.kLC, DV.kL3, DV.kL2, DV.kL1, DV.kFn, DV.kMut3, DV.kMut2, DV.kMut, DV.kSt4, DV.kSt3, DV.kSt2, DV.kSt, DV.kOS, DV.kSl2, DV.kSl1, DV.kSl, DV.kSl33, DV.kSl32, DV.kSl31, DV.kSl3, DV.kLRg1, DV.kLRg22, DV.kLRg2, DV.kC2, DV.kC,
  Rs.bind_ok, Rs.bind_stuck, Rs.bind_exc, Rs.fl_ok, Rs.fl_stuck, Rs.fl_exc, Rs.wp_ok, Fl.seq_nx, Fl.seq_ret, Fl.seq_brk, Fl.seq_ct, Fl.seq_stuck, Fl.seq_exc,
  List.getElem?_cons_zero, List.getElem?_cons_succ, List.getElem?_nil, List.set_cons_zero, List.set_cons_succ, List.set_nil, List.cons_append, List.nil_append, List.append_nil, List.replicate, List.length_cons, List.length_nil, Nat.reduceAdd, Nat.reduceSub, Nat.zero_add, List.contains_nil, List.contains_cons, startL,
  Bool.and_true, Bool.true_and, Bool.and_false, Bool.false_and, Bool.or_true, Bool.true_or, Bool.or_false, Bool.false_or, Bool.not_true, Bool.not_false, if_true, if_false, reduceIte, reduceCtorEq, decide_true, decide_false, decide_eq_true_eq, Option.map_some, Option.map_none, Option.some_or, Option.none_or, Option.bind_some, Option.bind_none, Bool.false_eq_true, Nat.reduceLeDiff, Nat.reduceEqDiff, beq_iff_eq, Nat.reduceBEq, ne_eq, not_true_eq_false, not_false_eq_true, Option.some.injEq, Bool.not_eq_true', decide_eq_false_iff_not, Bool.not_not, L2.ixN, DV.atI_0, DV.atI_1, DV.atI_2, DV.atI_3, DV.atI_4, DV.atI_5, DV.atI_6, DV.atI_7, DV.atI_8, DV.atI_9, DV.atI_10, DV.atI_11, DV.atI_12, DV.atI_13, DV.atI_14, DV.atI_15, DV.atI_m1, DV.s_eqI, DV.s_neI, DV.s_eqB, DV.s_neB, Int.reduceLE, Int.reduceLT, Int.reduceNeg, Int.reduceToNat, Int.reduceAdd, Int.reduceMul, Int.reduceSub, Int.le_refl, Int.cast_ofNat_Int, Int.toNat_zero, Int.toNat_one, Int.reducePow, true_and, and_true, DV.isi_non_int, DV.isi_non_bool, DV.isi_non_str, DV.isi_non_list, DV.isi_non_tuple, DV.isi_non_seq, DV.isN_non, DV.isi_bl_int, DV.isi_bl_bool, DV.isi_bl_str, DV.isi_bl_list, DV.isi_bl_tuple, DV.isi_bl_seq, DV.isN_bl, DV.isi_int_int, DV.isi_int_bool, DV.isi_int_str, DV.isi_int_list, DV.isi_int_tuple, DV.isi_int_seq, DV.isN_int, DV.isi_str_int, DV.isi_str_bool, DV.isi_str_str, DV.isi_str_list, DV.isi_str_tuple, DV.isi_str_seq, DV.isN_str, DV.isi_lst_int, DV.isi_lst_bool, DV.isi_lst_str, DV.isi_lst_list, DV.isi_lst_tuple, DV.isi_lst_seq, DV.isN_lst, DV.isi_tup_int, DV.isi_tup_bool, DV.isi_tup_str, DV.isi_tup_list, DV.isi_tup_tuple, DV.isi_tup_seq, DV.isN_tup, DV.s_eqN, DV.s_neN, DV.b_tt, DV.b_tf, DV.b_ft, DV.b_ff, DV.n_s_unp, DV.kUnp, DV.s_unpT, DV.s_maxL, DV.s_minL, DV.s_onMM, DV.s_inL, DV.s_inT, DV.s_onIn, DV.s_onNotIn, DV.s_LRg2, DV.D.ints_ints])
local macro_rules | `(tactic| walk_at "dh") => `(tactic| simp -implicitDefEqProofs only [
  DV.n_s_op, DV.n_s_test, DV.n_s_notT, DV.n_s_andT, DV.n_s_orT, DV.n_s_andV, DV.n_s_orV, DV.n_s_notV, DV.n_s_if, DV.n_s_onC, DV.n_s_chLeLt, DV.n_s_chLeLe, DV.n_s_chLtLe, DV.n_s_un, DV.n_s_ACons, DV.n_s_FCons, DV.n_s_AFCons, DV.n_s_lst, DV.n_s_tup, DV.n_s_call, DV.n_s_seq, DV.n_s_drop, DV.n_s_ret, DV.n_s_ifS, DV.n_s_asg, DV.n_s_augS, DV.n_s_tupAsg, DV.n_s_for, DV.n_whL_succ, DV.n_s_iseq, DV.n_s_irg, DV.n_s_izip, DV.n_s_lc, DV.n_lcL_cons, DV.n_s_fn, DV.n_s_mut, DV.n_s_store, DV.n_s_oSome, DV.n_s_sl, DV.n_s_sl3, DV.n_s_lrg1, DV.n_s_lrg2, DV.S0.loop_nx, DV.S0.loop_ct, DV.S0.loop_brk, DV.S0.loop_ret, DV.S0.loop_exc, DV.S0.loop_stuck, DV.S0.s_onG, DV.S0.s_onG0, DV.S0.s_onB, DV.S0.s_onI, DV.S0.s_onN, DV.S0.s_pkv, DV.S0.s_pkt, DV.S0.s_pks, DV.S0.s_pkS1, DV.S0.s_pkS2, DV.S0.s_pkS3, DV.S0.s_var, DV.S0.s_vr1, DV.S0.s_vr2, DV.S0.s_vr3, DV.S0.s_C, DV.S0.s_on, DV.S0.s_onV, DV.S0.s_onU, DV.S0.s_neg, DV.S0.s_II, DV.S0.s_IC, DV.S0.s_addI, DV.S0.s_addL, DV.S0.s_addT, DV.S0.s_addS, DV.S0.s_mulI, DV.S0.s_mulL, DV.S0.s_ixL, DV.S0.s_ixT, DV.S0.s_ixC, DV.S0.s_ANil, DV.S0.s_FNil, DV.S0.s_onF, DV.S0.s_fzv, DV.S0.s_fzt, DV.S0.s_fzs, DV.S0.s_fzS1, DV.S0.s_fzS2, DV.S0.s_peeks0, DV.S0.s_cons2, DV.S0.s_peeks, DV.S0.s_onLs, DV.S0.s_onL, DV.S0.s_lenL, DV.S0.s_lenT, DV.S0.s_lenC, DV.S0.s_listL, DV.S0.s_listT, DV.S0.s_tupleL, DV.S0.s_tupleT, DV.S0.s_intI, DV.S0.s_intB, DV.S0.s_abs, DV.S0.s_max2, DV.S0.s_min2, DV.S0.s_all, DV.S0.s_any, DV.S0.s_sum, DV.S0.s_asgv, DV.S0.s_asgt, DV.S0.s_asgs, DV.S0.s_asgS1, DV.S0.s_asgS2, DV.S0.s_asgS3, DV.S0.s_aug, DV.S0.s_onT, DV.S0.s_fzS0, DV.S0.s_fzSv, DV.S0.s_fzSt, DV.S0.s_fzSs, DV.S0.s_fzSk, DV.S0.s_many0, DV.S0.s_manyv, DV.S0.s_manyt, DV.S0.forL_nil, DV.S0.s_tg1, DV.S0.s_tgm, DV.S0.s_vals0, DV.S0.s_vals, DV.S0.s_itL, DV.S0.s_itT, DV.S0.s_rs1, DV.S0.s_rs2, DV.S0.s_onZL, DV.S0.s_onZT, DV.S0.lcL_nil, DV.S0.s_yes, DV.S0.s_onA, DV.S0.s_arg0, DV.S0.s_argV, DV.S0.s_argv, DV.S0.s_argB, DV.S0.s_argb, DV.S0.s_argi, DV.S0.s_setIo0, DV.S0.s_out0, DV.S0.s_out1, DV.S0.s_out1o, DV.S0.s_muO, DV.S0.s_onMut, DV.S0.s_onRc, DV.S0.s_rc, DV.S0.s_rcL, DV.S0.s_app, DV.S0.s_ext, DV.S0.s_popO, DV.S0.s_popAt, DV.S0.s_onFf, DV.S0.s_onSt, DV.S0.s_stO, DV.S0.s_gSt, DV.S0.s_stSo, DV.S0.s_stSi, DV.S0.s_onMuo, DV.S0.s_onMui, DV.S0.s_argIo, DV.S0.s_argIi, DV.S0.s_oNone, DV.S0.s_slL, DV.S0.s_slT, DV.S0.s_sl3L, DV.S0.s_run, DV.S0.s_endN, DV.S0.s_endR, DV.S0.s_endRp, DV.S0.s_endO, DV.S0.s_noExc, DV.S0.s_noX, DV.S0.s_resv, DV.S0.s_rest, DV.S0.s_ress, DV.S0.s_resS1, DV.S0.s_resS2, DV.S0.s_outs0, DV.S0.s_outC, DV.S0.s_outs, DV.S0.s_outAt, DV.S0.s_outS, DV.S0.s_ioIx0, DV.S0.s_ioIxv, DV.S0.s_ioIxb, DV.S0.s_ioIxi, DV.S0.s_init0, DV.S0.s_initv, DV.S0.s_initb, DV.S0.s_initi, DV.S0.s_wipe0, DV.S0.s_wipe, DV.S0.s_ap0, DV.S0.s_apv, DV.S0.s_api, DV.S0.s_apbv, DV.S0.s_apbt, DV.S0.s_apbs, DV.kOp2, DV.kOp, DV.kTest, DV.kNotT, DV.kAndT, DV.kOrT, DV.kBl, DV.kAndV, DV.kOrV, DV.kNotV, DV.kIf, DV.kCh2, DV.kCh, DV.kUn, DV.kAC2, DV.kAC, DV.kFC3, DV.kFC2, DV.kFC, DV.kAFC3, DV.kAFC2, DV.kAFC, DV.kLst, DV.kTup, DV.kCall, DV.kDrop, DV.kRet, DV.kIfS, DV.kAsg, DV.kAug, DV.kT, DV.kFor, DV.kWh, DV.kISeq, DV.kIRg, DV.kLC2, DV.kLC, DV.kL3, DV.kL2, DV.kL1, DV.kFn, DV.kMut3, DV.kMut2, DV.kMut, DV.kSt4, DV.kSt3, DV.kSt2, DV.kSt, DV.kOS, DV.kSl2, DV.kSl1, DV.kSl, DV.kSl33, DV.kSl32, DV.kSl31, DV.kSl3, DV.kLRg1, DV.kLRg22, DV.kLRg2, DV.kC2, DV.kC,
  Rs.bind_ok, Rs.bind_stuck, Rs.bind_exc, Rs.fl_ok, Rs.fl_stuck, Rs.fl_exc, Rs.wp_ok, Fl.seq_nx, Fl.seq_ret, Fl.seq_brk, Fl.seq_ct, Fl.seq_stuck, Fl.seq_exc,
  List.getElem?_cons_zero, List.getElem?_cons_succ, List.getElem?_nil, List.set_cons_zero, List.set_cons_succ, List.set_nil, List.cons_append, List.nil_append, List.append_nil, List.replicate, List.length_cons, List.length_nil, Nat.reduceAdd, Nat.reduceSub, Nat.zero_add, List.contains_nil, List.contains_cons, startL,
  Bool.and_true, Bool.true_and, Bool.and_false, Bool.false_and, Bool.or_true, Bool.true_or, Bool.or_false, Bool.false_or, Bool.not_true, Bool.not_false, if_true, if_false, reduceIte, reduceCtorEq, decide_true, decide_false, decide_eq_true_eq, Option.map_some, Option.map_none, Option.some_or, Option.none_or, Option.bind_some, Option.bind_none, Bool.false_eq_true, Nat.reduceLeDiff, Nat.reduceEqDiff, beq_iff_eq, Nat.reduceBEq, ne_eq, not_true_eq_false, not_false_eq_true, Option.some.injEq, Bool.not_eq_true', decide_eq_false_iff_not, Bool.not_not, L2.ixN, DV.atI_0, DV.atI_1, DV.atI_2, DV.atI_3, DV.atI_4, DV.atI_5, DV.atI_6, DV.atI_7, DV.atI_8, DV.atI_9, DV.atI_10, DV.atI_11, DV.atI_12, DV.atI_13, DV.atI_14, DV.atI_15, DV.atI_m1, DV.s_eqI, DV.s_neI, DV.s_eqB, DV.s_neB, Int.reduceLE, Int.reduceLT, Int.reduceNeg, Int.reduceToNat, Int.reduceAdd, Int.reduceMul, Int.reduceSub, Int.le_refl, Int.cast_ofNat_Int, Int.toNat_zero, Int.toNat_one, Int.reducePow, true_and, and_true, DV.isi_non_int, DV.isi_non_bool, DV.isi_non_str, DV.isi_non_list, DV.isi_non_tuple, DV.isi_non_seq, DV.isN_non, DV.isi_bl_int, DV.isi_bl_bool, DV.isi_bl_str, DV.isi_bl_list, DV.isi_bl_tuple, DV.isi_bl_seq, DV.isN_bl, DV.isi_int_int, DV.isi_int_bool, DV.isi_int_str, DV.isi_int_list, DV.isi_int_tuple, DV.isi_int_seq, DV.isN_int, DV.isi_str_int, DV.isi_str_bool, DV.isi_str_str, DV.isi_str_list, DV.isi_str_tuple, DV.isi_str_seq, DV.isN_str, DV.isi_lst_int, DV.isi_lst_bool, DV.isi_lst_str, DV.isi_lst_list, DV.isi_lst_tuple, DV.isi_lst_seq, DV.isN_lst, DV.isi_tup_int, DV.isi_tup_bool, DV.isi_tup_str, DV.isi_tup_list, DV.isi_tup_tuple, DV.isi_tup_seq, DV.isN_tup, DV.s_eqN, DV.s_neN, DV.b_tt, DV.b_tf, DV.b_ft, DV.b_ff, DV.n_s_unp, DV.kUnp, DV.s_unpT, DV.s_maxL, DV.s_minL, DV.s_onMM, DV.s_inL, DV.s_inT, DV.s_onIn, DV.s_onNotIn, DV.s_LRg2, DV.D.ints_ints, *])
theorem out_walk {Ns PP Pi Ya Yc : List D} {b Ta Tc : D} {n i : Int} {N : Nat} {s3 s5 s6 t5 t6 : Sl} (h3 : s3 = .obj .own (.lst PP) ∨ s3 = .val (.lst PP)) (e1 : rgOk n = true) (e2 : n.toNat = N)
    (hin : forL (.one 5) innB (rgD 0 1 N) [.obj (.io 0) b, .val (.tup Ns), .val (.int n), s3, .val (.int i), s5, s6, .un, .un] = .nx [.obj (.io 0) b, .val (.tup Ns), .val (.int n), s3, .val (.int i), t5, t6, .un, .un])
    (x1 : L2.atI PP i = some (.lst Pi)) (d1 : M_mean_depth [.tup Ns, .int i] = .ok false Ta []) (d2 : M_mean_inside [.tup Ns, .int i] = .ok false Tc [])
    (l1 : lcL [7] (.one 7) dYes (dOp gIx (dVar 7) (dC (.int 1))) Pi [] [.obj (.io 0) b, .val (.tup Ns), .val (.int n), s3, .val (.int i), t5, t6, .un, .un] = .ok Ya [.obj (.io 0) b, .val (.tup Ns), .val (.int n), s3, .val (.int i), t5, t6, .un, .un])
    (l2 : lcL [8] (.one 8) dYes (dOp gIx (dOp gIx (dVar 8) (dVar 4)) (dC (.int 1))) PP [] [.obj (.io 0) b, .val (.tup Ns), .val (.int n), .val (.lst PP), .val (.int i), t5, t6, .un, .un] = .ok Yc [.obj (.io 0) b, .val (.tup Ns), .val (.int n), .val (.lst PP), .val (.int i), t5, t6, .un, .un])
    (m1 : M_Lsum_of [.lst Ya] = .ok false Ta []) (m2 : M_Lsum_of [.lst Yc] = .ok false Tc []) (q1 : M_Lsame [Ta, Ta] = .ok false (.bl true) []) (q2 : M_Lsame [Tc, Tc] = .ok false (.bl true) []) :
    outB [.obj (.io 0) b, .val (.tup Ns), .val (.int n), s3, .val (.int i), s5, s6, .un, .un] = .nx [.obj (.io 0) b, .val (.tup Ns), .val (.int n), .val (.lst PP), .val (.int i), t5, t6, .un, .un] := by
  unfold outB
  generalize innB = W at *
  generalize dOp gIx (dVar 7) (dC (.int 1)) = E7 at *
  generalize dOp gIx (dOp gIx (dVar 8) (dVar 4)) (dC (.int 1)) = E8 at *
  generalize M_mean_depth = r1 at *
  generalize M_mean_inside = r2 at *
  generalize M_Lsum_of = r3 at *
  generalize M_Lsame = r4 at *
  rcases h3 with rfl | rfl
  · walk_at "dh"
  · walk_at "dh"
theorem inn_loop {Ns : List D} {N : Nat} {f : PF} {b : D} {n : Int} {s3 s5 s6 : Sl} (hf : ∀ a u : Int, (0 ≤ a ∧ a < (N : Int)) ∧ (0 ≤ u ∧ u < (N : Int)) → PairP Ns a u (f a u)) (h3 : s3 = .obj .own (.lst (allP f N)) ∨ s3 = .val (.lst (allP f N))) {i : Nat} (hi : i < N) :
    ∃ t5 t6, forL (.one 5) innB (rgD 0 1 N) [.obj (.io 0) b, .val (.tup Ns), .val (.int n), s3, .val (.int i), s5, s6, .un, .un] = .nx [.obj (.io 0) b, .val (.tup Ns), .val (.int n), s3, .val (.int i), t5, t6, .un, .un] := by
  have hl := for_inv (t := .one 5) (g := innB) (I := fun _ L => ∃ t5 t6, L = [.obj (.io 0) b, .val (.tup Ns), .val (.int n), s3, .val (.int i), t5, t6, .un, .un]) (rgD 0 1 N) 0 [.obj (.io 0) b, .val (.tup Ns), .val (.int n), s3, .val (.int i), s5, s6, .un, .un] ⟨s5, s6, rfl⟩ ?_
  · obtain ⟨L', k, t5, t6, rfl⟩ := hl
    exact ⟨t5, t6, k⟩
  · intro j d L hd hI
    obtain ⟨rfl, hj⟩ := rg0_at hd
    obtain ⟨t5, t6, rfl⟩ := hI
    obtain ⟨p1, p2, _, _⟩ := hf i j ⟨⟨by omega, by omega⟩, by omega, by omega⟩
    exact ⟨_, _, S0.s_tg1 .., .inl (inn_step h3 p1 p2 (allP_at hi) (rowP_at hj) (msame (pl_two _ _) (by omega))), _, _, rfl⟩
theorem out_loop {Ns : List D} {N : Nat} {f : PF} {b : D} {n : Int} (hf : ∀ a u : Int, (0 ≤ a ∧ a < (N : Int)) ∧ (0 ≤ u ∧ u < (N : Int)) → PairP Ns a u (f a u)) (hl : (Ns.length : Int) = (N : Int)) (hN : N ≤ 12) (e1 : rgOk n = true) (e2 : n.toNat = N) :
    ∃ s3 s4 t5 t6, forL (.one 4) outB (rgD 0 1 N) [.obj (.io 0) b, .val (.tup Ns), .val (.int n), .obj .own (.lst (allP f N)), .un, .un, .un, .un, .un] = .nx [.obj (.io 0) b, .val (.tup Ns), .val (.int n), s3, s4, t5, t6, .un, .un] := by
  have hlp := for_inv (t := .one 4) (g := outB) (I := fun _ L => ∃ s3 s4 t5 t6, (s3 = .obj .own (.lst (allP f N)) ∨ s3 = .val (.lst (allP f N))) ∧ L = [.obj (.io 0) b, .val (.tup Ns), .val (.int n), s3, s4, t5, t6, .un, .un]) (rgD 0 1 N) 0
    [.obj (.io 0) b, .val (.tup Ns), .val (.int n), .obj .own (.lst (allP f N)), .un, .un, .un, .un, .un] ⟨_, .un, .un, .un, .inl rfl, rfl⟩ ?_
  · obtain ⟨L', k, s3, s4, t5, t6, _, rfl⟩ := hlp
    exact ⟨s3, s4, t5, t6, k⟩
  · intro i d L hd hI
    obtain ⟨rfl, hi⟩ := rg0_at hd
    obtain ⟨s3, s4, s5, s6, h3, rfl⟩ := hI
    obtain ⟨t5, t6, hin⟩ := inn_loop (b := b) (n := n) (s5 := s5) (s6 := s6) hf h3 hi
    obtain ⟨d1, o1⟩ := mdepth hf hl hN (a := (i : Int)) ⟨by omega, by omega⟩
    obtain ⟨d2, o2⟩ := minside hf hl hN (a := (i : Int)) ⟨by omega, by omega⟩
    exact ⟨_, _, S0.s_tg1 .., .inl (out_walk h3 e1 e2 hin (allP_at hi) d1 d2 (row_lc hN rfl) (col_lc hN hi) (msum o1) (msum o2) (msame (pl_dP _ 0) (by omega)) (msame (pl_dP _ 0) (by omega))), _, _, t5, t6, .inr rfl, rfl⟩
theorem right_walk {b b1 : D} {Ns PP : List D} {n : Int} {N : Nat} {s3 s4 s5 s6 : Sl} (h1 : M_Lsizes [b, .int 12] = .ok false (.tup Ns) [b1]) (hl : (Ns.length : Int) = n) (e1 : rgOk n = true) (e2 : n.toNat = N)
    (hp : lcL [4] (.one 4) dYes (dLC [5] (.one 5) (dIRg onRg1 (dACons (dVar 2) dANil)) dYes pairE) (rgD 0 1 N) [] [.obj (.io 0) b1, .val (.tup Ns), .val (.int n), .un, .un, .un, .un, .un, .un] = .ok PP [.obj (.io 0) b1, .val (.tup Ns), .val (.int n), .un, .un, .un, .un, .un, .un])
    (ho : forL (.one 4) outB (rgD 0 1 N) [.obj (.io 0) b1, .val (.tup Ns), .val (.int n), .obj .own (.lst PP), .un, .un, .un, .un, .un] = .nx [.obj (.io 0) b1, .val (.tup Ns), .val (.int n), s3, s4, s5, s6, .un, .un]) : M_Lright [b] = .ok false (.bl true) [b1] := by
  show noExc (runF [.io] 9 (dSeq (dAsg 1 (dFn [.io, .val] M_Lsizes (dACons (dVar 0) (dAFCons (dC (.int 12)) dANil)))) (dSeq (dAsg 2 (dCall gLen (dACons (dVar 1) dANil))) (dSeq (dAsg 3 (dLC [4] (.one 4) (dIRg onRg1 (dACons (dVar 2) dANil)) dYes (dLC [5] (.one 5) (dIRg onRg1 (dACons (dVar 2) dANil)) dYes pairE))) (dSeq (dFor (.one 4) (dIRg onRg1 (dACons (dVar 2) dANil)) outB) (dRet (dC (.bl true)))))))) _ = _
  generalize M_Lsizes = q at *
  generalize outB = W at *
  generalize dLC [5] (.one 5) (dIRg onRg1 (dACons (dVar 2) dANil)) dYes pairE = W2 at *
  walk_at "dh"
theorem mright {b : D} {m : Int} (hb : Box m b) (hm : m ≤ 500000) : ∃ b', M_Lright [b] = .ok false (.bl true) [b'] ∧ Box (m + 100) b' := by
  obtain ⟨b1, ns, h1, h2, h3⟩ := msizes (most := 12) hb (by omega) (by omega) (by omega)
  obtain ⟨r1, r2, r3, r4⟩ := h2
  have r5 : ns.length ≤ 12 := r4
  have hl : (dInts ns).length = ns.length := by simp [dInts]
  have R : RowV (dInts ns) (ns.length : Int) (fun i => ns.getD i.toNat 0) := by
    refine ⟨by omega, fun i h0 h => ?_⟩
    rw [atI_at h0 (by omega)]
    simp only [dInts, List.getElem?_map, List.getD_eq_getElem?_getD]
    rw [List.getElem?_eq_getElem (show i.toNat < ns.length by omega)]
    rfl
  have hi : Inj (ns.length : Int) (fun i => ns.getD i.toNat 0) := by
    intro i j i0 i1 j0 j1 e
    simp only [List.getD_eq_getElem?_getD] at e
    rw [List.getElem?_eq_getElem (show i.toNat < ns.length by omega), List.getElem?_eq_getElem (show j.toNat < ns.length by omega)] at e
    have e' : ns[i.toNat]'(by omega) = ns[j.toNat]'(by omega) := e
    have pw := List.pairwise_iff_getElem.mp r1
    by_cases c : i = j
    · exact c
    · by_cases c2 : i < j
      · exact absurd e' (pw i.toNat j.toNat (by omega) (by omega) (by omega))
      · exact absurd e'.symm (pw j.toNat i.toNat (by omega) (by omega) (by omega))
  obtain ⟨f, hf⟩ := mpairs R hi (by omega)
  have e1 : rgOk (ns.length : Int) = true := rgOk_of (by omega) (by omega)
  have e2 : ((ns.length : Nat) : Int).toNat = ns.length := by omega
  obtain ⟨s3, s4, s5, s6, ho⟩ := out_loop (b := b1) (n := (ns.length : Int)) hf (by omega) r5 e1 e2
  exact ⟨b1, right_walk h1 (by omega) e1 e2 (pairs_out hf r5 e1 e2) ho, h3.mono (by omega)⟩
def lawB : DS := (dSeq (dAsg 2 (dFn [.val, .val] M_Lbox (dAFCons (dVar 0) (dAFCons (dVar 1) dANil)))) (dIfS (dNotT (dTest (dCall gAll (dACons (dLC [3] (.one 3) (dIRg onRg1 (dACons (dC (.int 1)) dANil)) dYes (dFn [.io] M_Lright (dACons (dVar 2) dANil))) dANil)))) (dRet (dC (.bl false))) dNop))
theorem law_lc {ns : List Int} {k : Int} {b : D} (hb : Box 0 b) : ∃ ys b', lcL [3] (.one 3) dYes (dFn [.io] M_Lright (dACons (dVar 2) dANil)) (rgD 0 1 1) [] [.val (.scr ns), .val (.int k), .obj .own b, .un] = .ok ys [.val (.scr ns), .val (.int k), .obj .own b', .un] ∧ gAll [.lst ys] = some (.v (.bl true)) := by
  have hl := lc_inv (vs := [3]) (t := .one 3) (c := dYes) (e := dFn [.io] M_Lright (dACons (dVar 2) dANil)) (I := fun i L => ∃ b, L = [.val (.scr ns), .val (.int k), .obj .own b, .un] ∧ Box (100 * i) b) (F := fun _ y => y = .bl true)
    (rgD 0 1 1) 0 [] [.val (.scr ns), .val (.int k), .obj .own b, .un] ⟨b, rfl, by simpa using hb⟩ (by simp [rgD_len]) ?_
  · obtain ⟨ys, L', h1, h2, h3, b', rfl, h4⟩ := hl
    exact ⟨ys, b', by simpa using h1, all_true (fun j y hy => h3 j y hy)⟩
  · intro j x L hx hL
    obtain ⟨b, rfl, hb⟩ := hL
    obtain ⟨rfl, hj⟩ := rg0_at hx
    obtain ⟨b', k1, k2⟩ := mright hb (by omega)
    refine ⟨[.val (.scr ns), .val (.int k), .obj .own b, .val (.int j)], _, .v (.bl true), [.val (.scr ns), .val (.int k), .obj .own b', .val (.int j)], .bl true, [.val (.scr ns), .val (.int k), .obj .own b', .val (.int j)], rfl, rfl, ?_, rfl, rfl, b', rfl, k2.mono (by omega)⟩
    walk_at "dh"
theorem law_step {ns : List Int} {k : Int} (hk : 0 ≤ k) (hk2 : k ≤ 100) (s2 : Sl) : ∃ b', lawB [.val (.scr ns), .val (.int k), s2, .un] = .nx [.val (.scr ns), .val (.int k), .obj .own b', .un] := by
  obtain ⟨b, h1, h2⟩ := mbox (ns := ns) hk hk2
  obtain ⟨ys, b', h3, h4⟩ := law_lc (ns := ns) (k := k) h2
  refine ⟨b', ?_⟩
  have e1 : rgOk 1 = true := rfl
  have e2 : (1 : Int).toNat = 1 := rfl
  unfold lawB
  walk_at "dh"
theorem mlaw {ns : List Int} (hn : ns.length ≤ 63) : M_law [.scr ns] = .ok false (.bl true) [] := by
  have hlp := for_inv (t := .one 1) (g := lawB) (I := fun _ L => ∃ s1 s2, L = [.val (.scr ns), s1, s2, .un]) (rgD 0 1 (1 + (if (ns.length : Int) < 2 then (ns.length : Int) else 2)).toNat) 0 [.val (.scr ns), .un, .un, .un] ⟨_, _, rfl⟩ ?_
  · obtain ⟨L', p1, s1, s2, rfl⟩ := hlp
    have e1 : rgOk (1 + (if (ns.length : Int) < 2 then (ns.length : Int) else 2)) = true := rgOk_of (by split <;> omega) (by split <;> omega)
    show noExc (runF [.val] 4 g_law) _ = _
    unfold g_law
    unfold lawB at p1
    generalize dSeq (dAsg 2 _) _ = W at p1 ⊢
    walk_at "dh"
  · intro j d L hd hI
    obtain ⟨rfl, hj⟩ := rg0_at hd
    obtain ⟨s1, s2, rfl⟩ := hI
    obtain ⟨b', st⟩ := law_step (ns := ns) (k := (j : Int)) (by omega) (by split at hj <;> omega) s2
    exact ⟨_, _, S0.s_tg1 .., .inl st, _, _, rfl⟩

end K79
end
section
set_option Elab.async false
set_option linter.all false
set_option maxRecDepth 100000
set_option maxHeartbeats 0
namespace K79
open PySem PySem.Spec PyProof.Rows L2 DV
def q_Lbox : He.DefD := ⟨("_law_box", none), "_law_box", "_law_box", defArgs s_Lbox, defBody s_Lbox, defScope s_Lbox, [], []⟩
def q_Ltake : He.DefD := ⟨("_law_take", none), "_law_take", "_law_take", defArgs s_Ltake, defBody s_Ltake, defScope s_Ltake, [], []⟩
def q_Lpick : He.DefD := ⟨("_law_pick", none), "_law_pick", "_law_pick", defArgs s_Lpick, defBody s_Lpick, defScope s_Lpick, [], []⟩
def q_Lshuffled : He.DefD := ⟨("_law_shuffled", none), "_law_shuffled", "_law_shuffled", defArgs s_Lshuffled, defBody s_Lshuffled, defScope s_Lshuffled, [], []⟩
def q_Lsizes : He.DefD := ⟨("_law_sizes", none), "_law_sizes", "_law_sizes", defArgs s_Lsizes, defBody s_Lsizes, defScope s_Lsizes, [], []⟩
def q_Lbigger : He.DefD := ⟨("_law_bigger", none), "_law_bigger", "_law_bigger", defArgs s_Lbigger, defBody s_Lbigger, defScope s_Lbigger, [], []⟩
def q_Lpart : He.DefD := ⟨("_law_part", none), "_law_part", "_law_part", defArgs s_Lpart, defBody s_Lpart, defScope s_Lpart, [], []⟩
def q_Lsum_of : He.DefD := ⟨("_law_sum_of", none), "_law_sum_of", "_law_sum_of", defArgs s_Lsum_of, defBody s_Lsum_of, defScope s_Lsum_of, [], []⟩
def q_Lbehind : He.DefD := ⟨("_law_behind", none), "_law_behind", "_law_behind", defArgs s_Lbehind, defBody s_Lbehind, defScope s_Lbehind, [], []⟩
def q_Lhigher : He.DefD := ⟨("_law_higher", none), "_law_higher", "_law_higher", defArgs s_Lhigher, defBody s_Lhigher, defScope s_Lhigher, [], []⟩
def q_Lpair : He.DefD := ⟨("_law_pair", none), "_law_pair", "_law_pair", defArgs s_Lpair, defBody s_Lpair, defScope s_Lpair, [], []⟩
def q_Lsame : He.DefD := ⟨("_law_same", none), "_law_same", "_law_same", defArgs s_Lsame, defBody s_Lsame, defScope s_Lsame, [], []⟩
def q_look_place : He.DefD := ⟨("look_place", none), "look_place", "look_place", defArgs s_look_place, defBody s_look_place, defScope s_look_place, [], []⟩
def q_look_both : He.DefD := ⟨("look_both", none), "look_both", "look_both", defArgs s_look_both, defBody s_look_both, defScope s_look_both, [], []⟩
def q_distance_to_bigger : He.DefD := ⟨("distance_to_bigger", none), "distance_to_bigger", "distance_to_bigger", defArgs s_distance_to_bigger, defBody s_distance_to_bigger, defScope s_distance_to_bigger, [], []⟩
def q_first_of_three : He.DefD := ⟨("first_of_three", none), "first_of_three", "first_of_three", defArgs s_first_of_three, defBody s_first_of_three, defScope s_first_of_three, [], []⟩
def q_gcd : He.DefD := ⟨("gcd", none), "gcd", "gcd", defArgs s_gcd, defBody s_gcd, defScope s_gcd, [], []⟩
def q_reduced : He.DefD := ⟨("reduced", none), "reduced", "reduced", defArgs s_reduced, defBody s_reduced, defScope s_reduced, [], []⟩
def q_between : He.DefD := ⟨("between", none), "between", "between", defArgs s_between, defBody s_between, defScope s_between, [], []⟩
def q_is_above : He.DefD := ⟨("is_above", none), "is_above", "is_above", defArgs s_is_above, defBody s_is_above, defScope s_is_above, [], []⟩
def q_holder_chance : He.DefD := ⟨("holder_chance", none), "holder_chance", "holder_chance", defArgs s_holder_chance, defBody s_holder_chance, defScope s_holder_chance, [], []⟩
def q_around_chance : He.DefD := ⟨("around_chance", none), "around_chance", "around_chance", defArgs s_around_chance, defBody s_around_chance, defScope s_around_chance, [], []⟩
def q_added : He.DefD := ⟨("added", none), "added", "added", defArgs s_added, defBody s_added, defScope s_added, [], []⟩
def q_mean_depth : He.DefD := ⟨("mean_depth", none), "mean_depth", "mean_depth", defArgs s_mean_depth, defBody s_mean_depth, defScope s_mean_depth, [], []⟩
def q_mean_inside : He.DefD := ⟨("mean_inside", none), "mean_inside", "mean_inside", defArgs s_mean_inside, defBody s_mean_inside, defScope s_mean_inside, [], []⟩
def q_Lright : He.DefD := ⟨("_law_right", none), "_law_right", "_law_right", defArgs s_Lright, defBody s_Lright, defScope s_Lright, [], []⟩
def q_law : He.DefD := ⟨("law", none), "law", "law", defArgs s_law, defBody s_law, defScope s_law, [], []⟩
def fn : List He.DefD := [q_Lbox, q_Ltake, q_Lpick, q_Lshuffled, q_Lsizes, q_Lbigger, q_Lpart, q_Lsum_of, q_Lbehind, q_Lhigher, q_Lpair, q_Lsame, q_look_place, q_look_both, q_distance_to_bigger, q_first_of_three, q_gcd, q_reduced, q_between, q_is_above, q_holder_chance, q_around_chance, q_added, q_mean_depth, q_mean_inside, q_Lright, q_law]
def fa : List He.Fa := [.glo "_law_box", .glo "_law_take", .glo "_law_pick", .glo "_law_shuffled", .glo "_law_sizes", .glo "_law_bigger", .glo "_law_part", .glo "_law_sum_of", .glo "_law_behind", .glo "_law_higher", .glo "_law_pair", .glo "_law_same", .glo "look_place", .glo "look_both", .glo "distance_to_bigger", .glo "first_of_three", .glo "gcd", .glo "reduced", .glo "between", .glo "is_above", .glo "holder_chance", .glo "around_chance", .glo "added", .glo "mean_depth", .glo "mean_inside", .glo "_law_right", .glo "law", .free "abs", .free "all", .free "bool", .free "int", .free "isinstance", .free "len", .free "list", .free "max", .free "min", .free "range", .free "str", .free "tuple", .free "zip"]
abbrev lawR : PySem.W.OpenRow := PySem.W.OpenLaw.row PySem.Challenge.rw_putinside_k79_whole_three_lots_of_gaps
abbrev hk : PySem.W.Hook := He.hookD 4 fa fn
def ob (s : PySem.W.SharedT) : He.AlD := He.obsDG 4 fa fn (HandSHeadRun.getT s)
theorem ob_eq (s : PySem.W.SharedT) : ob s = hk.obs s.abs := He.obsDG_eq (HandSHeadRun.getT_eq s)
def loose : List PySem.Str := ["NoBox", "look_place", "between", "is_above", "gcd", "reduced", "added", "distance_to_bigger", "first_of_three", "look_both", "holder_chance", "around_chance", "mean_depth", "mean_inside", "_law_box", "_law_take", "_law_pick", "_law_same", "_law_shuffled", "_law_sizes", "_law_higher", "_law_part", "_law_sum_of", "_law_behind", "_law_bigger", "_law_pair", "_law_right"]
theorem run (w : World) : HandSHeadRun.RunEq lawR (PySem.W.view lawR.prog [31]) hk ob 3000 loose w := by
  intro os
  kernel_rfl
theorem tx {K : PySem.W.Frag} {h : Heap} {mg : Str → Option Value} (X : K.In h) (G : h.Ns mainGlobals mg) (c : He.SaysD fa fn K) : Tx K mg :=
  ⟨He.free_ok X G (c.fact 27 (f := .free "abs") rfl), He.free_ok X G (c.fact 28 (f := .free "all") rfl), He.free_ok X G (c.fact 29 (f := .free "bool") rfl), He.free_ok X G (c.fact 30 (f := .free "int") rfl), He.free_ok X G (c.fact 31 (f := .free "isinstance") rfl), He.free_ok X G (c.fact 32 (f := .free "len") rfl), He.free_ok X G (c.fact 33 (f := .free "list") rfl), He.free_ok X G (c.fact 34 (f := .free "max") rfl), He.free_ok X G (c.fact 35 (f := .free "min") rfl), He.free_ok X G (c.fact 36 (f := .free "range") rfl), He.free_ok X G (c.fact 37 (f := .free "str") rfl), He.free_ok X G (c.fact 38 (f := .free "tuple") rfl), He.free_ok X G (c.fact 39 (f := .free "zip") rfl), He.glo_ok X G (c.fact 0 (f := .glo "_law_box") rfl), c.def_ 0 (d := q_Lbox) rfl, He.glo_ok X G (c.fact 1 (f := .glo "_law_take") rfl), c.def_ 1 (d := q_Ltake) rfl, He.glo_ok X G (c.fact 2 (f := .glo "_law_pick") rfl), c.def_ 2 (d := q_Lpick) rfl, He.glo_ok X G (c.fact 3 (f := .glo "_law_shuffled") rfl), c.def_ 3 (d := q_Lshuffled) rfl, He.glo_ok X G (c.fact 4 (f := .glo "_law_sizes") rfl), c.def_ 4 (d := q_Lsizes) rfl, He.glo_ok X G (c.fact 5 (f := .glo "_law_bigger") rfl), c.def_ 5 (d := q_Lbigger) rfl, He.glo_ok X G (c.fact 6 (f := .glo "_law_part") rfl), c.def_ 6 (d := q_Lpart) rfl, He.glo_ok X G (c.fact 7 (f := .glo "_law_sum_of") rfl), c.def_ 7 (d := q_Lsum_of) rfl, He.glo_ok X G (c.fact 8 (f := .glo "_law_behind") rfl), c.def_ 8 (d := q_Lbehind) rfl, He.glo_ok X G (c.fact 9 (f := .glo "_law_higher") rfl), c.def_ 9 (d := q_Lhigher) rfl, He.glo_ok X G (c.fact 10 (f := .glo "_law_pair") rfl), c.def_ 10 (d := q_Lpair) rfl, He.glo_ok X G (c.fact 11 (f := .glo "_law_same") rfl), c.def_ 11 (d := q_Lsame) rfl, He.glo_ok X G (c.fact 12 (f := .glo "look_place") rfl), c.def_ 12 (d := q_look_place) rfl, He.glo_ok X G (c.fact 13 (f := .glo "look_both") rfl), c.def_ 13 (d := q_look_both) rfl, He.glo_ok X G (c.fact 14 (f := .glo "distance_to_bigger") rfl), c.def_ 14 (d := q_distance_to_bigger) rfl, He.glo_ok X G (c.fact 15 (f := .glo "first_of_three") rfl), c.def_ 15 (d := q_first_of_three) rfl, He.glo_ok X G (c.fact 16 (f := .glo "gcd") rfl), c.def_ 16 (d := q_gcd) rfl, He.glo_ok X G (c.fact 17 (f := .glo "reduced") rfl), c.def_ 17 (d := q_reduced) rfl, He.glo_ok X G (c.fact 18 (f := .glo "between") rfl), c.def_ 18 (d := q_between) rfl, He.glo_ok X G (c.fact 19 (f := .glo "is_above") rfl), c.def_ 19 (d := q_is_above) rfl, He.glo_ok X G (c.fact 20 (f := .glo "holder_chance") rfl), c.def_ 20 (d := q_holder_chance) rfl, He.glo_ok X G (c.fact 21 (f := .glo "around_chance") rfl), c.def_ 21 (d := q_around_chance) rfl, He.glo_ok X G (c.fact 22 (f := .glo "added") rfl), c.def_ 22 (d := q_added) rfl, He.glo_ok X G (c.fact 23 (f := .glo "mean_depth") rfl), c.def_ 23 (d := q_mean_depth) rfl, He.glo_ok X G (c.fact 24 (f := .glo "mean_inside") rfl), c.def_ 24 (d := q_mean_inside) rfl, He.glo_ok X G (c.fact 25 (f := .glo "_law_right") rfl), c.def_ 25 (d := q_Lright) rfl, He.glo_ok X G (c.fact 26 (f := .glo "law") rfl), c.def_ 26 (d := q_law) rfl⟩
def spLaw (K : PySem.W.Frag) : Sp := fun vs H Q _ => ∃ (a : Addr) (ns : List Int), vs = [.ref a] ∧ SqL K H a (ns.map V.int) ∧ ns.length ≤ 63 ∧ ∀ H', Q (.bl true) H'
theorem facts {P : Program} {w : World} {K : PySem.W.Frag} {h : Heap} {mg : Str → Option Value} {f : Addr} (X : K.In h) (G : h.Ns mainGlobals mg) (hfa : mg ("law" : Str) = some (.ref f)) (c : He.SaysD fa fn K) :
    ∃ fd : FuncData, (∀ (s : Shared) (v : Value), BindsTo s fd ⟨[v], []⟩ [("_law_script", v)]) ∧ ∀ base : Heap, K.In base → base.Ns mainGlobals mg → FnOk P w K mg base CX0 11 f fd ["_law_script"] (spLaw K) := by
  have T := tx X G c
  have e := hfa.symm.trans T.g_law
  cases e
  obtain ⟨fd, F⟩ := T.d_law
  have b := FunD.bindsA (ps := ["_law_script"]) F fun _ _ _ _ _ _ us hl => match us, hl with | [_], _ => rfl
  refine ⟨fd, fun s v => b s [v] rfl, fun base _ _ => ?_⟩
  obtain ⟨fd2, kp, bn, ok, lk⟩ := (ok_law (P := P) (w := w) (base := base) T).ex
  cases lk.uniq (.of F)
  refine ok.imp fun vs H Q E h => ?_
  obtain ⟨a, ns, rfl, hS, hl, hQ⟩ := h
  refine ⟨H, [.scr ns], [], fun _ _ z => z, .val (.scr hS) .nil, by simp, ?_⟩
  rw [mlaw hl]
  intro v H' G' _ r
  cases r
  exact hQ H'
end K79
open PySem PySem.W PySem.Calls PyProof.Rows
theorem PySem.Challenge.cw_putinside_k79_whole_three_lots_of_gaps_holds : PySem.Challenge.rw_putinside_k79_whole_three_lots_of_gaps.Holds := by
  w_on; o_law
  refine HandSHeadRun.head_any (r := OpenLaw.row PySem.Challenge.rw_putinside_k79_whole_three_lots_of_gaps) (q := view (OpenLaw.row PySem.Challenge.rw_putinside_k79_whole_three_lots_of_gaps).prog [31]) (H := K79.hk) (ob := K79.ob) (M := 3000) (loose := K79.loose) (d := HandSHeadRun.topDef (OpenLaw.row PySem.Challenge.rw_putinside_k79_whole_three_lots_of_gaps).prog 31) (kwd := []) K79.ob_eq
    (by kernel_rfl) (fun s => by kernel_rfl) K79.run (by kernel_rfl) (by kernel_rfl) (by kernel_rfl) (by rfl) (by first | assumption | decide +kernel) (by decide +kernel) ⟨rfl, rfl, rfl, rfl, rfl, by decide +kernel⟩ ?hw ?hc
  case hw => w_witness2
  case hc =>
    refine L2.walk_ofE (l := PySem.Challenge.rw_putinside_k79_whole_three_lots_of_gaps) (n := 63) (k := 11) (x := "_law_script") (CX := L2.CX0) rfl (by decide) (by kernel_rfl) ⟨rfl, by decide, by decide⟩ ?F (fun _ _ _ _ z => z)
    intro w mg fa h Y G hmg0
    obtain ⟨K, KX, c⟩ := Y
    have hmg : mg ("law" : PySem.Str) = some (.ref fa) := by
      have e : (HandSHeadRun.topDef (OpenLaw.row PySem.Challenge.rw_putinside_k79_whole_three_lots_of_gaps).prog 31).name = ("law" : PySem.Str) := by kernel_rfl
      rw [← e]
      exact hmg0
    obtain ⟨fd, hb, hF⟩ := K79.facts (P := (PySem.Challenge.rw_putinside_k79_whole_three_lots_of_gaps).prog) (w := w) KX G hmg c
    exact ⟨K, fd, K79.spLaw K, KX, hb, fun H a ns hl _ hS => ⟨a, ns, rfl, hS, hl, fun _ => rfl⟩, hF⟩
end
