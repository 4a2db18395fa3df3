import PyProof.Rows.All
import Wide.All
import OpenK.AllK
import Wide.FinOn
import HandS.ForMost
import HandS.Evl
import HandS.TupMul
import HandS.TupLe
import HandS.Zip
import HandS.SetFor
import HandS.WideBits
import HandS.IsInst
import HandS.Style
import HandS.Flow
import HandS.Wide
import HandS.More
import HandS.SortInts
import HandS.Conv
import KE.KDictPairs
import KE.KTupSum
import PySem.Challenge.RW_mostclauses_k21_nets_mean_counts
set_option Elab.async false
set_option linter.all false
set_option maxRecDepth 100000
set_option maxHeartbeats 4000000
/-! # Lw: what is frozen, what is one's own; data; states told by slots -/
namespace Lw
open PySem L2

/-! ### data -/
inductive D where
  | raw (v : V)
  | non
  | bl (b : Bool)
  | int (i : Int)
  | str (x : Str)
  | lst (xs : List D)
  | tup (xs : List D)
  | tupZ (xs : List D)
  | dct (kvs : List (Key × D))

abbrev Ex := Evl.Ex

/-- a tuple that is known to have no dict of its own -/
def TupZ (F : Hp) (a : Addr) (xs : List V) : Prop := ∃ (o : Obj) (its : Array Value) (n : Nat), F a = some (.frz o (.tup xs)) ∧ o.cls = .type "tuple" ∧ o.dict = none ∧ o.data = .seq its n
theorem TupZ.sq {K : PySem.W.Frag} {F : Hp} {a : Addr} {xs : List V} : TupZ F a xs → SqT K F a xs := fun ⟨o, _, _, h, _⟩ => .inl (.inr ⟨o, h⟩)
mutual
inductive Rp (K : PySem.W.Frag) (F : Hp) : V → D → Prop
  | raw (v : V) : Rp K F v (.raw v)
  | non : Rp K F .non .non
  | bl (b : Bool) : Rp K F (.bl b) (.bl b)
  | int (i : Int) : Rp K F (.int i) (.int i)
  | str (x : Str) : Rp K F (.str x) (.str x)
  | lst {a : Addr} {xs : List V} {ds : List D} : F a = some (.lst xs) → RpAll K F xs ds → Rp K F (.ref a) (.lst ds)
  | tup {a : Addr} {xs : List V} {ds : List D} : SqT K F a xs → RpAll K F xs ds → Rp K F (.ref a) (.tup ds)
  | tupZ {a : Addr} {xs : List V} {ds : List D} : TupZ F a xs → RpAll K F xs ds → Rp K F (.ref a) (.tupZ ds)
  | dct {a : Addr} {kvs : List (Key × V)} {ds : List (Key × D)} : F a = some (.dK kvs) → RpKV K F kvs ds → Rp K F (.ref a) (.dct ds)
inductive RpAll (K : PySem.W.Frag) (F : Hp) : List V → List D → Prop
  | nil : RpAll K F [] []
  | cons {v : V} {vs : List V} {d : D} {ds : List D} : Rp K F v d → RpAll K F vs ds → RpAll K F (v :: vs) (d :: ds)
inductive RpKV (K : PySem.W.Frag) (F : Hp) : List (Key × V) → List (Key × D) → Prop
  | nil : RpKV K F [] []
  | cons {k : Key} {v : V} {vs : List (Key × V)} {d : D} {ds : List (Key × D)} : Rp K F v d → RpKV K F vs ds → RpKV K F ((k, v) :: vs) ((k, d) :: ds)
end

section
variable {K : PySem.W.Frag} {F G H : Hp}
mutual
theorem Rp.mono (e : Ex F G) : ∀ {v : V} {d : D}, Rp K F v d → Rp K G v d
  | _, _, .raw v => .raw v
  | _, _, .non => .non
  | _, _, .bl b => .bl b
  | _, _, .int i => .int i
  | _, _, .str x => .str x
  | _, _, .lst h r => .lst (e _ _ h) (RpAll.mono e r)
  | _, _, .tup h r => .tup (Evl.ex_t e h) (RpAll.mono e r)
  | _, _, .tupZ ⟨o, its, n, h, q⟩ r => .tupZ ⟨o, its, n, e _ _ h, q⟩ (RpAll.mono e r)
  | _, _, .dct h r => .dct (e _ _ h) (RpKV.mono e r)
theorem RpAll.mono (e : Ex F G) : ∀ {v : List V} {d : List D}, RpAll K F v d → RpAll K G v d
  | _, _, .nil => .nil
  | _, _, .cons h r => .cons (Rp.mono e h) (RpAll.mono e r)
theorem RpKV.mono (e : Ex F G) : ∀ {v : List (Key × V)} {d : List (Key × D)}, RpKV K F v d → RpKV K G v d
  | _, _, .nil => .nil
  | _, _, .cons h r => .cons (Rp.mono e h) (RpKV.mono e r)
end
theorem RpAll.len : ∀ {v : List V} {d : List D}, RpAll K F v d → v.length = d.length
  | _, _, .nil => rfl
  | _, _, .cons _ r => by rw [List.length_cons, List.length_cons, RpAll.len r]
theorem RpAll.append : ∀ {v w : List V} {d e : List D}, RpAll K F v d → RpAll K F w e → RpAll K F (v ++ w) (d ++ e)
  | _, _, _, _, .nil, s => s
  | _, _, _, _, .cons h r, s => .cons h (RpAll.append r s)
theorem RpAll.get : ∀ {v : List V} {d : List D} {i : Nat} {x : D}, RpAll K F v d → d[i]? = some x → ∃ u, v[i]? = some u ∧ Rp K F u x
  | _, _, _, _, .nil, e => by simp at e
  | _, _, 0, _, .cons h _, e => by simp at e; subst e; exact ⟨_, rfl, h⟩
  | _, _, i + 1, x, .cons _ r, e => by
    obtain ⟨u, h1, h2⟩ := RpAll.get (i := i) (x := x) r (by simpa using e)
    exact ⟨u, by simpa using h1, h2⟩
theorem RpAll.getV : ∀ {v : List V} {d : List D} {i : Nat} {u : V}, RpAll K F v d → v[i]? = some u → ∃ x, d[i]? = some x ∧ Rp K F u x
  | _, _, _, _, .nil, e => by simp at e
  | _, _, 0, _, .cons h _, e => by simp at e; subst e; exact ⟨_, rfl, h⟩
  | _, _, i + 1, x, .cons _ r, e => by
    obtain ⟨u, h1, h2⟩ := RpAll.getV (i := i) r (by simpa using e)
    exact ⟨u, by simpa using h1, h2⟩
theorem RpAll.take : ∀ {v : List V} {d : List D} (n : Nat), RpAll K F v d → RpAll K F (v.take n) (d.take n)
  | _, _, 0, _ => .nil
  | _, _, _ + 1, .nil => .nil
  | _, _, n + 1, .cons h r => .cons h (RpAll.take n r)
theorem RpAll.drop : ∀ {v : List V} {d : List D} (n : Nat), RpAll K F v d → RpAll K F (v.drop n) (d.drop n)
  | _, _, 0, r => r
  | _, _, _ + 1, .nil => .nil
  | _, _, n + 1, .cons _ r => RpAll.drop n r
theorem RpAll.rep : ∀ {v : List V} {d : List D} (n : Nat), RpAll K F v d → RpAll K F (List.replicate n v).flatten (List.replicate n d).flatten
  | _, _, 0, _ => .nil
  | _, _, n + 1, r => by
    rw [List.replicate_succ, List.replicate_succ, List.flatten_cons, List.flatten_cons]
    exact r.append (RpAll.rep n r)
theorem RpAll.set : ∀ {v : List V} {d : List D} {u : V} {x : D} (i : Nat), RpAll K F v d → Rp K F u x → RpAll K F (v.set i u) (d.set i x)
  | _, _, _, _, _, .nil, _ => .nil
  | _, _, _, _, 0, .cons _ r, q => .cons q r
  | _, _, _, _, i + 1, .cons h r, q => .cons h (RpAll.set i r q)
theorem RpAll.erase : ∀ {v : List V} {d : List D} (i : Nat), RpAll K F v d → RpAll K F (v.eraseIdx i) (d.eraseIdx i)
  | _, _, _, .nil => .nil
  | _, _, 0, .cons _ r => r
  | _, _, i + 1, .cons h r => .cons h (RpAll.erase i r)
theorem RpAll.rev {v : List V} {d : List D} (r : RpAll K F v d) : RpAll K F v.reverse d.reverse := by
  induction v generalizing d with
  | nil => cases r; exact .nil
  | cons a v ih =>
    cases r with
    | cons h r =>
      rw [List.reverse_cons, List.reverse_cons]
      exact (ih r).append (.cons h .nil)
theorem Rp.int_eq {v : V} {i : Int} (r : Rp K F v (.int i)) : v = .int i := by cases r; rfl
theorem Rp.bl_eq {v : V} {i : Bool} (r : Rp K F v (.bl i)) : v = .bl i := by cases r; rfl
theorem Rp.str_eq {v : V} {i : Str} (r : Rp K F v (.str i)) : v = .str i := by cases r; rfl
theorem Rp.non_eq {v : V} (r : Rp K F v .non) : v = .non := by cases r; rfl
theorem Rp.raw_eq {v u : V} (r : Rp K F v (.raw u)) : v = u := by cases r; rfl
theorem Rp.lst_of {v : V} {ds : List D} (r : Rp K F v (.lst ds)) : ∃ a xs, v = .ref a ∧ F a = some (.lst xs) ∧ RpAll K F xs ds := by cases r with | lst h q => exact ⟨_, _, rfl, h, q⟩
theorem Rp.tup_of {v : V} {ds : List D} (r : Rp K F v (.tup ds)) : ∃ a xs, v = .ref a ∧ SqT K F a xs ∧ RpAll K F xs ds := by cases r with | tup h q => exact ⟨_, _, rfl, h, q⟩
theorem Rp.wk {v : V} {ds : List D} (r : Rp K F v (.tupZ ds)) : Rp K F v (.tup ds) := by cases r with | tupZ h q => exact .tup h.sq q
theorem Rp.tupZ_of {v : V} {ds : List D} (r : Rp K F v (.tupZ ds)) : ∃ a xs, v = .ref a ∧ TupZ F a xs ∧ RpAll K F xs ds := by cases r with | tupZ h q => exact ⟨_, _, rfl, h, q⟩
theorem Rp.dct_of {v : V} {ds : List (Key × D)} (r : Rp K F v (.dct ds)) : ∃ a kvs, v = .ref a ∧ F a = some (.dK kvs) ∧ RpKV K F kvs ds := by cases r with | dct h q => exact ⟨_, _, rfl, h, q⟩
end

/-- lists and tuples of numbers -/
abbrev dI (ns : List Int) : List D := ns.map D.int
theorem RpAll.ints {K : PySem.W.Frag} {F : Hp} : ∀ {ns : List Int} {v : List V}, RpAll K F v (ns.map D.int) → v = ns.map V.int
  | [], _, r => by cases r; rfl
  | n :: ns, _, r => by
    rw [List.map_cons] at r
    cases r with
    | cons h r => rw [h.int_eq, RpAll.ints r]; rfl
theorem RpAll.of_ints {K : PySem.W.Frag} {F : Hp} : ∀ (ns : List Int), RpAll K F (ns.map V.int) (ns.map D.int)
  | [] => .nil
  | n :: ns => .cons (.int n) (RpAll.of_ints ns)
theorem RpAll.strs {K : PySem.W.Frag} {F : Hp} : ∀ {ns : List Str} {v : List V}, RpAll K F v (ns.map D.str) → v = ns.map V.str
  | [], _, r => by cases r; rfl
  | n :: ns, _, r => by
    rw [List.map_cons] at r
    cases r with
    | cons h r => rw [h.str_eq, RpAll.strs r]; rfl
theorem RpAll.of_strs {K : PySem.W.Frag} {F : Hp} : ∀ (ns : List Str), RpAll K F (ns.map V.str) (ns.map D.str)
  | [] => .nil
  | n :: ns => .cons (.str n) (RpAll.of_strs ns)
theorem RpAll.bls {K : PySem.W.Frag} {F : Hp} : ∀ {ns : List Bool} {v : List V}, RpAll K F v (ns.map D.bl) → v = ns.map V.bl
  | [], _, r => by cases r; rfl
  | n :: ns, _, r => by
    rw [List.map_cons] at r
    cases r with
    | cons h r => rw [h.bl_eq, RpAll.bls r]; rfl

/-! ### worlds: F frozen, h the part that is changed by methods, H all -/
structure Ok (F h H : Hp) : Prop where
  ef : Ex F H
  eh : Ex h H
  dj : ∀ b o, h b = some o → F b = none
/-- a step of the world -/
structure Nx (F h H G h' H' : Hp) : Prop where
  ok : Ok G h' H'
  ex : Ex F G
  out : ∀ b o, H b = some o → h b = none → H' b = some o
  stay : ∀ b o, H b = some o → ∃ o', H' b = some o'
  newG : ∀ b o, G b = some o → F b = none → H b = none
  newh : ∀ b o, h' b = some o → h b = none → H b = none
theorem Nx.refl {F h H : Hp} (ok : Ok F h H) : Nx F h H F h H :=
  ⟨ok, Evl.Ex.refl _, fun _ _ e _ => e, fun _ o e => ⟨o, e⟩, fun _ _ e n => (by rw [e] at n; cases n), fun _ _ e n => (by rw [e] at n; cases n)⟩
theorem Nx.trans {F h H F1 h1 H1 F2 h2 H2 : Hp} (a : Nx F h H F1 h1 H1) (b : Nx F1 h1 H1 F2 h2 H2) : Nx F h H F2 h2 H2 where
  ok := b.ok
  ex := a.ex.trans b.ex
  out := fun x o e n => by
    have e1 := a.out x o e n
    refine b.out x o e1 ?_
    cases q : h1 x with
    | none => rfl
    | some u => rw [a.newh x u q n] at e; cases e
  stay := fun x o e => by
    obtain ⟨o1, e1⟩ := a.stay x o e
    exact b.stay x o1 e1
  newG := fun x o e n => by
    cases q : F1 x with
    | some u => exact a.newG x u q n
    | none =>
      have z := b.newG x o e q
      cases r : H x with
      | none => rfl
      | some u =>
        obtain ⟨o1, e1⟩ := a.stay x u r
        rw [z] at e1; cases e1
  newh := fun x o e n => by
    cases q : h1 x with
    | some u => exact a.newh x u q n
    | none =>
      have z := b.newh x o e q
      cases r : H x with
      | none => rfl
      | some u =>
        obtain ⟨o1, e1⟩ := a.stay x u r
        rw [z] at e1; cases e1
/-- a new object, frozen at once -/
theorem Nx.new {F h H : Hp} {p : Addr} {o : HO} (ok : Ok F h H) (hp : H p = none) : Nx F h H (upd F p o) h (upd H p o) := by
  have fp : F p = none := Evl.fresh_back ok.ef hp
  have hhp : h p = none := Evl.fresh_back ok.eh hp
  refine ⟨⟨?_, ok.eh.trans (Evl.Ex.new hp), fun b u e => ?_⟩, Evl.Ex.new fp, fun b u e _ => Evl.Ex.new hp b u e, fun b u e => ⟨u, Evl.Ex.new hp b u e⟩, fun b u e n => ?_, fun _ _ e n => by rw [e] at n; cases n⟩
  · intro b u e
    by_cases hb : b = p
    · subst hb; rw [upd_same] at e ⊢; exact e
    · rw [upd_ne hb] at e ⊢; exact ok.ef b u e
  · have hb : b ≠ p := fun z => by rw [z, hhp] at e; cases e
    rw [upd_ne hb]; exact ok.dj b u e
  · by_cases hb : b = p
    · subst hb; exact hp
    · rw [upd_ne hb] at e; rw [e] at n; cases n
/-- a new object, not frozen -/
theorem Nx.raw {F h H : Hp} {p : Addr} {o : HO} (ok : Ok F h H) (hp : H p = none) : Nx F h H F h (upd H p o) :=
  ⟨⟨ok.ef.trans (Evl.Ex.new hp), ok.eh.trans (Evl.Ex.new hp), ok.dj⟩, Evl.Ex.refl _, fun b u e _ => Evl.Ex.new hp b u e, fun b u e => ⟨u, Evl.Ex.new hp b u e⟩, fun _ _ e n => (by rw [e] at n; cases n), fun _ _ e n => (by rw [e] at n; cases n)⟩
theorem Ok.ff {F h H : Hp} (ok : Ok F h H) {p : Addr} (hp : H p = none) : F p = none := Evl.fresh_back ok.ef hp
theorem Ok.fh {F h H : Hp} (ok : Ok F h H) {p : Addr} (hp : H p = none) : h p = none := Evl.fresh_back ok.eh hp

/-! ### slots -/
inductive Sl where
  | un
  | val (d : D)
  | own (d : D)
/-- a local list or dict of one's own, at a -/
def Lc (K : PySem.W.Frag) (H0 F h H : Hp) (a : Addr) : D → Prop
  | .lst ds => F a = none ∧ h a = none ∧ H0 a = none ∧ ∃ xs, H a = some (.lst xs) ∧ RpAll K F xs ds
  | .dct ds => F a = none ∧ h a = none ∧ H0 a = none ∧ ∃ kvs, H a = some (.dK kvs) ∧ RpKV K F kvs ds
  | _ => False
theorem Lc.nx {K : PySem.W.Frag} {H0 F h H G h' H' : Hp} {a : Addr} : ∀ {d : D}, Lc K H0 F h H a d → Nx F h H G h' H' → Lc K H0 G h' H' a d
  | .lst ds, ⟨f, g, z, xs, e, r⟩, n => by
    refine ⟨?_, ?_, z, xs, n.out a _ e g, r.mono n.ex⟩
    · cases q : G a with
      | none => rfl
      | some u => rw [n.newG a u q f] at e; cases e
    · cases q : h' a with
      | none => rfl
      | some u => rw [n.newh a u q g] at e; cases e
  | .dct ds, ⟨f, g, z, xs, e, r⟩, n => by
    refine ⟨?_, ?_, z, xs, n.out a _ e g, r.mono n.ex⟩
    · cases q : G a with
      | none => rfl
      | some u => rw [n.newG a u q f] at e; cases e
    · cases q : h' a with
      | none => rfl
      | some u => rw [n.newh a u q g] at e; cases e
  | .raw _, z, _ => z.elim
  | .non, z, _ => z.elim
  | .bl _, z, _ => z.elim
  | .int _, z, _ => z.elim
  | .str _, z, _ => z.elim
  | .tup _, z, _ => z.elim
  | .tupZ _, z, _ => z.elim
theorem Lc.there {K : PySem.W.Frag} {H0 F h H : Hp} {a : Addr} : ∀ {d : D}, Lc K H0 F h H a d → ∃ o, H a = some o
  | .lst ds, ⟨f, g, z, xs, e, r⟩ => ⟨_, e⟩
  | .dct ds, ⟨f, g, z, xs, e, r⟩ => ⟨_, e⟩
  | .raw _, z => z.elim
  | .non, z => z.elim
  | .bl _, z => z.elim
  | .int _, z => z.elim
  | .str _, z => z.elim
  | .tup _, z => z.elim
  | .tupZ _, z => z.elim
theorem Lc.frees {K : PySem.W.Frag} {H0 F h H : Hp} {a : Addr} : ∀ {d : D}, Lc K H0 F h H a d → F a = none ∧ h a = none ∧ H0 a = none
  | .lst ds, ⟨f, g, z, xs, e, r⟩ => ⟨f, g, z⟩
  | .dct ds, ⟨f, g, z, xs, e, r⟩ => ⟨f, g, z⟩
  | .raw _, z => z.elim
  | .non, z => z.elim
  | .bl _, z => z.elim
  | .int _, z => z.elim
  | .str _, z => z.elim
  | .tup _, z => z.elim
  | .tupZ _, z => z.elim
/-- another's object changes -/
theorem Lc.upd {K : PySem.W.Frag} {H0 F h H : Hp} {a b : Addr} {o : HO} (ne : a ≠ b) : ∀ {d : D}, Lc K H0 F h H a d → Lc K H0 F h (upd H b o) a d
  | .lst ds, ⟨f, g, z, xs, e, r⟩ => ⟨f, g, z, xs, by rw [upd_ne ne]; exact e, r⟩
  | .dct ds, ⟨f, g, z, xs, e, r⟩ => ⟨f, g, z, xs, by rw [upd_ne ne]; exact e, r⟩
  | .raw _, z => z.elim
  | .non, z => z.elim
  | .bl _, z => z.elim
  | .int _, z => z.elim
  | .str _, z => z.elim
  | .tup _, z => z.elim
  | .tupZ _, z => z.elim

/-- the slots tell what the values are -/
structure Sat (K : PySem.W.Frag) (H0 F h H : Hp) (env : List Sl) (σ : L2.St) : Prop where
  len : σ.length = env.length
  old : ∀ b o, H0 b = some o → ∃ o', H b = some o'
  val : ∀ (i : Nat) d, env[i]? = some (Sl.val d) → ∃ v, σ[i]? = some (some v) ∧ Rp K F v d
  own : ∀ (i : Nat) d, env[i]? = some (Sl.own d) → ∃ a, σ[i]? = some (some (.ref a)) ∧ Lc K H0 F h H a d
  sep : ∀ (i j : Nat) d e a, env[i]? = some (Sl.own d) → env[j]? = some (Sl.own e) → σ[i]? = some (some (.ref a)) → σ[j]? = some (some (.ref a)) → i = j
theorem Sat.nx {K : PySem.W.Frag} {H0 F h H G h' H' : Hp} {env : List Sl} {σ : St} (s : Sat K H0 F h H env σ) (n : Nx F h H G h' H') : Sat K H0 G h' H' env σ :=
  ⟨s.len, fun b o e => let ⟨o1, e1⟩ := s.old b o e; n.stay b o1 e1, fun i d e => let ⟨v, a, b⟩ := s.val i d e; ⟨v, a, b.mono n.ex⟩, fun i d e => let ⟨v, a, b⟩ := s.own i d e; ⟨v, a, b.nx n⟩, s.sep⟩
theorem Sat.set {K : PySem.W.Frag} {H0 F h H : Hp} {env : List Sl} {σ : St} (s : Sat K H0 F h H env σ) {v : V} {d : D} (r : Rp K F v d) (i : Nat) : Sat K H0 F h H (env.set i (Sl.val d)) (σ.set i (some v)) := by
  refine ⟨by rw [List.length_set, List.length_set, s.len], s.old, fun j e q => ?_, fun j e q => ?_, fun j k e1 e2 a q1 q2 q3 q4 => ?_⟩
  · by_cases hj : i = j
    · subst hj
      have hi : i < env.length := by
        have := (List.getElem?_eq_some_iff.mp q).1; rw [List.length_set] at this; exact this
      rw [List.getElem?_set_self hi] at q
      cases q
      exact ⟨v, List.getElem?_set_self (by rw [s.len]; exact hi), r⟩
    · rw [List.getElem?_set_ne hj] at q
      obtain ⟨u, q1, q2⟩ := s.val j e q
      exact ⟨u, by rw [List.getElem?_set_ne hj]; exact q1, q2⟩
  · by_cases hj : i = j
    · subst hj
      have hi : i < env.length := by
        have := (List.getElem?_eq_some_iff.mp q).1; rw [List.length_set] at this; exact this
      rw [List.getElem?_set_self hi] at q
      cases q
    · rw [List.getElem?_set_ne hj] at q
      obtain ⟨u, q1, q2⟩ := s.own j e q
      exact ⟨u, by rw [List.getElem?_set_ne hj]; exact q1, q2⟩
  · have nj : ∀ {m e}, (env.set i (Sl.val d))[m]? = some (Sl.own e) → i ≠ m := fun {m e} q z => by
      subst z
      have hi : i < env.length := by
        have := (List.getElem?_eq_some_iff.mp q).1; rw [List.length_set] at this; exact this
      rw [List.getElem?_set_self hi] at q
      cases q
    have n1 := nj q1
    have n2 := nj q2
    rw [List.getElem?_set_ne n1] at q1 q3
    rw [List.getElem?_set_ne n2] at q2 q4
    exact s.sep j k e1 e2 a q1 q2 q3 q4
theorem Sat.wipe1 {K : PySem.W.Frag} {H0 F h H : Hp} {env : List Sl} {σ : St} (s : Sat K H0 F h H env σ) (i : Nat) (o : Option V) : Sat K H0 F h H (env.set i Sl.un) (σ.set i o) := by
  have nj : ∀ {m e}, (env.set i Sl.un)[m]? = some e → e ≠ Sl.un → i ≠ m := fun {m e} q ne z => by
    subst z
    have hi : i < env.length := by
      have := (List.getElem?_eq_some_iff.mp q).1; rw [List.length_set] at this; exact this
    rw [List.getElem?_set_self hi] at q
    exact ne (Option.some.inj q).symm
  refine ⟨by rw [List.length_set, List.length_set, s.len], s.old, fun j e q => ?_, fun j e q => ?_, fun j k e1 e2 a q1 q2 q3 q4 => ?_⟩
  · have n1 := nj q (by intro z; cases z)
    rw [List.getElem?_set_ne n1] at q ⊢
    exact s.val j e q
  · have n1 := nj q (by intro z; cases z)
    rw [List.getElem?_set_ne n1] at q ⊢
    exact s.own j e q
  · have n1 := nj q1 (by intro z; cases z)
    have n2 := nj q2 (by intro z; cases z)
    rw [List.getElem?_set_ne n1] at q1 q3
    rw [List.getElem?_set_ne n2] at q2 q4
    exact s.sep j k e1 e2 a q1 q2 q3 q4
end Lw
namespace Lw
open PySem L2

/-- what is so of the own part -/
structure Iv where
  p : Hp → Hp → Prop
  mono : ∀ {F G h : Hp}, Ex F G → (∀ b o, h b = some o → G b = none) → p F h → p G h
/-- the own part is just this -/
def Iv.eq (h0 : Hp) : Iv := ⟨fun _ h => h = h0, fun _ _ e => e⟩

/-- what is known of the frozen part besides -/
structure Gh where
  p : Hp → Prop
  mono : ∀ {F G : Hp}, Ex F G → p F → p G
def Gh.nil : Gh := ⟨fun _ => True, fun _ _ => trivial⟩
def Gh.val (K : PySem.W.Frag) (v : V) (d : D) (g : Gh) : Gh := ⟨fun F => Rp K F v d ∧ g.p F, fun e q => ⟨q.1.mono e, g.mono e q.2⟩⟩
def Gh.seq (K : PySem.W.Frag) (a : Addr) (xs : List V) (ds : List D) (g : Gh) : Gh := ⟨fun F => (SqL K F a xs ∧ RpAll K F xs ds) ∧ g.p F, fun e q => ⟨⟨Evl.ex_l e q.1.1, q.1.2.mono e⟩, g.mono e q.2⟩⟩
def Gh.sqt (K : PySem.W.Frag) (a : Addr) (xs : List V) (ds : List D) (g : Gh) : Gh := ⟨fun F => (SqT K F a xs ∧ RpAll K F xs ds) ∧ g.p F, fun e q => ⟨⟨Evl.ex_t e q.1.1, q.1.2.mono e⟩, g.mono e q.2⟩⟩
/-- the state since the entry (F0, h0, H0): gs is known besides -/
def State (K : PySem.W.Frag) (F0 h0 H0 : Hp) (I : Iv) (env : List Sl) (gs : Gh) (σ : L2.St) (H : Hp) : Prop :=
  ∃ F h, Nx F0 h0 H0 F h H ∧ I.p F h ∧ Sat K H0 F h H env σ ∧ gs.p F

/-! ### readings that change nothing -/
def Ev (K : PySem.W.Frag) (te : TE) (env : List Sl) (d : D) : Prop :=
  ∀ (H0 F h H : Hp) (σ : L2.St), Ok F h H → Sat K H0 F h H env σ → ∀ Q : VK, (∀ v G H', Nx F h H G h H' → Rp K G v d → Q v H') → te σ H Q
/-- a list or a dict that is read: frozen, or one's own -/
def Rr (K : PySem.W.Frag) (H0 F h H : Hp) (v : V) (d : D) : Prop := Rp K F v d ∨ ∃ a, v = .ref a ∧ Lc K H0 F h H a d
def EvR (K : PySem.W.Frag) (te : TE) (env : List Sl) (d : D) : Prop :=
  ∀ (H0 F h H : Hp) (σ : L2.St), Ok F h H → Sat K H0 F h H env σ → ∀ Q : VK, (∀ v G H', Nx F h H G h H' → Rr K H0 G h H' v d → Q v H') → te σ H Q
def EvT (K : PySem.W.Frag) (tt : TT) (env : List Sl) (b : Bool) : Prop :=
  ∀ (H0 F h H : Hp) (σ : L2.St), Ok F h H → Sat K H0 F h H env σ → ∀ Q : Bool → Hp → Prop, (∀ G H', Nx F h H G h H' → Q b H') → tt σ H Q
def EvA (K : PySem.W.Frag) (ta : TA) (env : List Sl) (ds : List D) : Prop :=
  ∀ (H0 F h H : Hp) (σ : L2.St), Ok F h H → Sat K H0 F h H env σ → ∀ Q : List V → Hp → Prop, (∀ vs G H', Nx F h H G h H' → RpAll K G vs ds → Q vs H') → ta σ H Q
def EvO (K : PySem.W.Frag) (to : TO) (env : List Sl) (o : Option Int) : Prop :=
  ∀ (H0 F h H : Hp) (σ : L2.St), Ok F h H → Sat K H0 F h H env σ → ∀ Q : Option Int → Hp → Prop, (∀ G H', Nx F h H G h H' → Q o H') → to σ H Q
/-- by values -/
def Rv2 (K : PySem.W.Frag) (r : R2) (x y z : D) : Prop :=
  ∀ (F h H : Hp) (vx vy : V), Ok F h H → Rp K F vx x → Rp K F vy y → ∀ Q : VK, (∀ v G H', Nx F h H G h H' → Rp K G v z → Q v H') → r vx vy H Q
/-- the left one may be one's own -/
def Rv2L (K : PySem.W.Frag) (r : R2) (x y z : D) : Prop :=
  ∀ (H0 F h H : Hp) (vx vy : V), Ok F h H → Rr K H0 F h H vx x → Rp K F vy y → ∀ Q : VK, (∀ v G H', Nx F h H G h H' → Rp K G v z → Q v H') → r vx vy H Q
def Rv2R (K : PySem.W.Frag) (r : R2) (x y z : D) : Prop :=
  ∀ (H0 F h H : Hp) (vx vy : V), Ok F h H → Rp K F vx x → Rr K H0 F h H vy y → ∀ Q : VK, (∀ v G H', Nx F h H G h H' → Rp K G v z → Q v H') → r vx vy H Q
def Rv1 (K : PySem.W.Frag) (r : V → Hp → VK → Prop) (x z : D) : Prop :=
  ∀ (H0 F h H : Hp) (vx : V), Ok F h H → Rr K H0 F h H vx x → ∀ Q : VK, (∀ v G H', Nx F h H G h H' → Rp K G v z → Q v H') → r vx H Q
def RvC (K : PySem.W.Frag) (r : List V → Hp → VK → Prop) (xs : List D) (z : D) : Prop :=
  ∀ (F h H : Hp) (vs : List V), Ok F h H → RpAll K F vs xs → ∀ Q : VK, (∀ v G H', Nx F h H G h H' → Rp K G v z → Q v H') → r vs H Q

section
variable {K : PySem.W.Frag} {env : List Sl} {ta tb te tx : TE} {t u : TT} {d x y z : D} {r : R2} {tA tr : TA}

theorem Rr.nx {H0 F h H G h' H' : Hp} {v : V} (q : Rr K H0 F h H v d) (n : Nx F h H G h' H') : Rr K H0 G h' H' v d := by
  rcases q with q | ⟨a, e, q⟩
  · exact .inl (q.mono n.ex)
  · exact .inr ⟨a, e, q.nx n⟩
theorem Rr.lst {H0 F h H : Hp} {v : V} {ds : List D} (ok : Ok F h H) (q : Rr K H0 F h H v (.lst ds)) : ∃ a xs, v = .ref a ∧ H a = some (.lst xs) ∧ RpAll K F xs ds := by
  rcases q with q | ⟨a, e, f, g, z, xs, ha, rr⟩
  · obtain ⟨a, xs, e, hs, rr⟩ := q.lst_of
    exact ⟨a, xs, e, ok.ef _ _ hs, rr⟩
  · exact ⟨a, xs, e, ha, rr⟩
theorem Rr.dct {H0 F h H : Hp} {v : V} {ds : List (Key × D)} (ok : Ok F h H) (q : Rr K H0 F h H v (.dct ds)) : ∃ a xs, v = .ref a ∧ H a = some (.dK xs) ∧ RpKV K F xs ds := by
  rcases q with q | ⟨a, e, f, g, z, xs, ha, rr⟩
  · obtain ⟨a, xs, e, hs, rr⟩ := q.dct_of
    exact ⟨a, xs, e, ok.ef _ _ hs, rr⟩
  · exact ⟨a, xs, e, ha, rr⟩
theorem Ev.rd (h : Ev K te env d) : EvR K te env d := fun H0 F h1 H σ ok s Q k => h H0 F h1 H σ ok s Q fun v G H' n q => k v G H' n (.inl q)
theorem Ev.to {d' : D} (h : Ev K te env d) (e : d = d') : Ev K te env d' := e ▸ h
theorem EvR.to {d' : D} (h : EvR K te env d) (e : d = d') : EvR K te env d' := e ▸ h
theorem EvT.to {b b' : Bool} (h : EvT K t env b) (e : b = b') : EvT K t env b' := e ▸ h
theorem EvA.to {ds ds' : List D} (h : EvA K tA env ds) (e : ds = ds') : EvA K tA env ds' := e ▸ h
theorem Ev.wk {ds : List D} (h : Ev K te env (.tupZ ds)) : Ev K te env (.tup ds) := fun H0 F h1 H σ ok s Q k => h H0 F h1 H σ ok s Q fun v G H' n r => k v G H' n r.wk
theorem ev_var {i : Nat} (e : env[i]? = some (Sl.val d)) : Ev K (tVar i) env d := fun H0 F h H σ ok s Q k => by
  obtain ⟨v, a, b⟩ := s.val i d e
  exact ⟨v, a, k v F H (Nx.refl ok) b⟩
theorem evr_own {i : Nat} (e : env[i]? = some (Sl.own d)) : EvR K (tVar i) env d := fun H0 F h H σ ok s Q k => by
  obtain ⟨a, e1, b⟩ := s.own i d e
  exact ⟨.ref a, e1, k _ F H (Nx.refl ok) (.inr ⟨a, rfl, b⟩)⟩
theorem ev_c {v : V} (e : ∀ F, Rp K F v d) : Ev K (tC v) env d := fun H0 F h H σ ok s Q k => k v F H (Nx.refl ok) (e F)
theorem ev_int {i : Int} : Ev K (tC (.int i)) env (.int i) := ev_c fun _ => .int i
theorem ev_bl {i : Bool} : Ev K (tC (.bl i)) env (.bl i) := ev_c fun _ => .bl i
theorem ev_str {i : Str} : Ev K (tC (.str i)) env (.str i) := ev_c fun _ => .str i
theorem ev_non : Ev K (tC .non) env .non := ev_c fun _ => .non
theorem ev_op (ha : Ev K ta env x) (hb : Ev K tb env y) (hr : Rv2 K r x y z) : Ev K (tOp r ta tb) env z := fun H0 F h H σ ok s Q k =>
  ha H0 F h H σ ok s _ fun vx G1 H1 n1 r1 => hb H0 G1 h H1 σ n1.ok (s.nx n1) _ fun vy G2 H2 n2 r2 => hr G2 h H2 vx vy n2.ok (r1.mono n2.ex) r2 Q fun v G H' n3 r3 => k v G H' ((n1.trans n2).trans n3) r3
theorem ev_opL (ha : EvR K ta env x) (hb : Ev K tb env y) (hr : Rv2L K r x y z) : Ev K (tOp r ta tb) env z := fun H0 F h H σ ok s Q k =>
  ha H0 F h H σ ok s _ fun vx G1 H1 n1 r1 => hb H0 G1 h H1 σ n1.ok (s.nx n1) _ fun vy G2 H2 n2 r2 => hr H0 G2 h H2 vx vy n2.ok (r1.nx n2) r2 Q fun v G H' n3 r3 => k v G H' ((n1.trans n2).trans n3) r3
theorem ev_opR (ha : Ev K ta env x) (hb : EvR K tb env y) (hr : Rv2R K r x y z) : Ev K (tOp r ta tb) env z := fun H0 F h H σ ok s Q k =>
  ha H0 F h H σ ok s _ fun vx G1 H1 n1 r1 => hb H0 G1 h H1 σ n1.ok (s.nx n1) _ fun vy G2 H2 n2 r2 => hr H0 G2 h H2 vx vy n2.ok (r1.mono n2.ex) r2 Q fun v G H' n3 r3 => k v G H' ((n1.trans n2).trans n3) r3
theorem ev_un {r1 : V → Hp → VK → Prop} (ha : EvR K ta env x) (hr : Rv1 K r1 x z) : Ev K (tUn r1 ta) env z := fun H0 F h H σ ok s Q k =>
  ha H0 F h H σ ok s _ fun vx G1 H1 n1 q1 => hr H0 G1 h H1 vx n1.ok q1 Q fun v G H' n3 r3 => k v G H' (n1.trans n3) r3
theorem ea_nil : EvA K tNil env [] := fun H0 F h H σ ok s Q k => k [] F H (Nx.refl ok) .nil
theorem ea_cons {ds : List D} (ha : Ev K ta env x) (hr : EvA K tr env ds) : EvA K (tCons ta tr) env (x :: ds) := fun H0 F h H σ ok s Q k =>
  ha H0 F h H σ ok s _ fun vx G1 H1 n1 r1 => hr H0 G1 h H1 σ n1.ok (s.nx n1) _ fun vs G2 H2 n2 r2 => k (vx :: vs) G2 H2 (n1.trans n2) (.cons (r1.mono n2.ex) r2)
theorem ev_cb {rc : List V → Hp → VK → Prop} {ds : List D} (ha : EvA K tA env ds) (hr : RvC K rc ds z) : Ev K (tCB rc tA) env z := fun H0 F h H σ ok s Q k =>
  ha H0 F h H σ ok s _ fun vs G1 H1 n1 r1 => hr G1 h H1 vs n1.ok r1 Q fun v G H' n3 r3 => k v G H' (n1.trans n3) r3
theorem ev_tup {ds : List D} (ha : EvA K tA env ds) (hl : ds.length ≤ sizeLine) : Ev K (tTup tA) env (.tup ds) := fun H0 F h H σ ok s Q k =>
  ha H0 F h H σ ok s _ fun vs G1 H1 n1 r1 => ⟨by rw [r1.len]; exact hl, fun p hp => k (.ref p) _ _ (n1.trans (Nx.new n1.ok hp)) (.tup (.inl (.inl upd_same)) (r1.mono (Evl.Ex.new (n1.ok.ff hp))))⟩
theorem ev_lst {ds : List D} (ha : EvA K tA env ds) (hl : ds.length ≤ sizeLine) : Ev K (tLst tA) env (.lst ds) := fun H0 F h H σ ok s Q k =>
  ha H0 F h H σ ok s _ fun vs G1 H1 n1 r1 => ⟨by rw [r1.len]; exact hl, fun p hp => k (.ref p) _ _ (n1.trans (Nx.new n1.ok hp)) (.lst upd_same (r1.mono (Evl.Ex.new (n1.ok.ff hp))))⟩
theorem ev_if {b : Bool} (h : EvT K t env b) (h1 : b = true → Ev K ta env z) (h2 : b = false → Ev K tb env z) : Ev K (tIf t ta tb) env z := fun H0 F h' H σ ok s Q k =>
  h H0 F h' H σ ok s _ fun G1 H1 n1 => by
    cases b with
    | true =>
      show ta σ H1 Q
      exact h1 rfl H0 G1 h' H1 σ n1.ok (s.nx n1) Q fun v G H' n r => k v G H' (n1.trans n) r
    | false =>
      show tb σ H1 Q
      exact h2 rfl H0 G1 h' H1 σ n1.ok (s.nx n1) Q fun v G H' n r => k v G H' (n1.trans n) r

/-! ### tests -/
theorem et_test {b : Bool} (h : Ev K te env (.bl b)) : EvT K (tTest te) env b := fun H0 F h' H σ ok s Q k =>
  h H0 F h' H σ ok s _ fun v G H' n r => ⟨b, r.bl_eq, k G H' n⟩
theorem et_B {b : Bool} (h : Ev K te env (.bl b)) : EvT K (tB te) env b := fun H0 F h' H σ ok s Q k =>
  h H0 F h' H σ ok s _ fun v G H' n r => ⟨b, r.bl_eq, k G H' n⟩
theorem et_and {a b : Bool} (h1 : EvT K t env a) (h2 : a = true → EvT K u env b) : EvT K (tAnd t u) env (a && b) := fun H0 F h' H σ ok s Q k =>
  h1 H0 F h' H σ ok s _ fun G1 H1 n1 => by
    cases a with
    | true =>
      show u σ H1 Q
      exact h2 rfl H0 G1 h' H1 σ n1.ok (s.nx n1) Q fun G H' n => k G H' (n1.trans n)
    | false =>
      show Q false H1
      exact k G1 H1 n1
theorem et_or {a b : Bool} (h1 : EvT K t env a) (h2 : a = false → EvT K u env b) : EvT K (tOr t u) env (a || b) := fun H0 F h' H σ ok s Q k =>
  h1 H0 F h' H σ ok s _ fun G1 H1 n1 => by
    cases a with
    | true =>
      show Q true H1
      exact k G1 H1 n1
    | false =>
      show u σ H1 Q
      exact h2 rfl H0 G1 h' H1 σ n1.ok (s.nx n1) Q fun G H' n => k G H' (n1.trans n)
theorem et_not {a : Bool} (h1 : EvT K t env a) : EvT K (tNot t) env (!a) := fun H0 F h' H σ ok s Q k => h1 H0 F h' H σ ok s _ fun G H' n => k G H' n
theorem et_yes : EvT K tYes env true := fun H0 F h H σ ok s Q k => k F H (Nx.refl ok)
theorem ev_andV {a b : Bool} (h1 : Ev K ta env (.bl a)) (h2 : a = true → Ev K tb env (.bl b)) : Ev K (tAndV ta tb) env (.bl (a && b)) := fun H0 F h' H σ ok s Q k =>
  h1 H0 F h' H σ ok s _ fun v G1 H1 n1 r1 => ⟨a, r1.bl_eq, by
    cases a with
    | true =>
      show tb σ H1 Q
      exact h2 rfl H0 G1 h' H1 σ n1.ok (s.nx n1) Q fun v G H' n r => k v G H' (n1.trans n) r
    | false =>
      show Q (.bl false) H1
      exact k _ G1 H1 n1 (.bl false)⟩
theorem ev_orV {a b : Bool} (h1 : Ev K ta env (.bl a)) (h2 : a = false → Ev K tb env (.bl b)) : Ev K (tOrV ta tb) env (.bl (a || b)) := fun H0 F h' H σ ok s Q k =>
  h1 H0 F h' H σ ok s _ fun v G1 H1 n1 r1 => ⟨a, r1.bl_eq, by
    cases a with
    | true =>
      show Q (.bl true) H1
      exact k _ G1 H1 n1 (.bl true)
    | false =>
      show tb σ H1 Q
      exact h2 rfl H0 G1 h' H1 σ n1.ok (s.nx n1) Q fun v G H' n r => k v G H' (n1.trans n) r⟩
theorem ev_notV {a : Bool} (h1 : Ev K ta env (.bl a)) : Ev K (tNotV ta) env (.bl (!a)) := fun H0 F h' H σ ok s Q k =>
  h1 H0 F h' H σ ok s _ fun v G1 H1 n1 r1 => ⟨a, r1.bl_eq, k _ G1 H1 n1 (.bl _)⟩
/-- a datum's truth -/
def dTru : D → Option Bool
  | .non => some false
  | .bl b => some b
  | .int i => some (i != 0)
  | .str y => some ((y.length : Int) != 0)
  | .lst xs => some (!xs.isEmpty)
  | .tup xs => some (!xs.isEmpty)
  | .tupZ xs => some (!xs.isEmpty)
  | .dct xs => some (!xs.isEmpty)
  | .raw _ => none
theorem isE {F : Hp} {xs : List V} {ds : List D} (r : RpAll K F xs ds) : (!xs.isEmpty) = !ds.isEmpty := by cases r <;> rfl
theorem isEK {F : Hp} {xs : List (Key × V)} {ds : List (Key × D)} (r : RpKV K F xs ds) : (!xs.isEmpty) = !ds.isEmpty := by cases r <;> rfl
theorem truOf {H0 F h H : Hp} {v : V} {b : Bool} (ok : Ok F h H) (q : Rr K H0 F h H v d) (e : dTru d = some b) (hs : ∀ y, d = .str y → y.length ≤ sizeLine) : TruV K v H b := by
  cases d with
  | raw _ => cases e
  | non =>
    rcases q with q | ⟨a, _, q⟩
    · cases e; rw [q.non_eq]; exact rfl
    · exact q.elim
  | bl c =>
    rcases q with q | ⟨a, _, q⟩
    · cases e; rw [q.bl_eq]; exact rfl
    · exact q.elim
  | int i =>
    rcases q with q | ⟨a, _, q⟩
    · cases e; rw [q.int_eq]; exact rfl
    · exact q.elim
  | str y =>
    rcases q with q | ⟨a, _, q⟩
    · cases e; rw [q.str_eq]; exact ⟨hs y rfl, rfl⟩
    · exact q.elim
  | lst ds =>
    obtain ⟨a, xs, rfl, hq, rr⟩ := q.lst ok
    cases e
    exact .inl ⟨xs, .inl (.inl hq), (isE rr).symm⟩
  | tup ds =>
    rcases q with q | ⟨a, _, q⟩
    · obtain ⟨a, xs, rfl, hq, rr⟩ := q.tup_of
      cases e
      exact .inr (.inl ⟨xs, Evl.ex_t ok.ef hq, (isE rr).symm⟩)
    · exact q.elim
  | tupZ ds =>
    rcases q with q | ⟨a, _, q⟩
    · obtain ⟨a, xs, rfl, hq, rr⟩ := q.wk.tup_of
      cases e
      exact .inr (.inl ⟨xs, Evl.ex_t ok.ef hq, (isE rr).symm⟩)
    · exact q.elim
  | dct ds =>
    obtain ⟨a, xs, rfl, hq, rr⟩ := q.dct ok
    cases e
    exact .inr (.inr ⟨xs, hq, (isEK rr).symm⟩)
end
end Lw
namespace Lw
open PySem L2

section
variable {K : PySem.W.Frag}
/-! ### wiping -/
def wipeE (env : List Sl) : List Nat → List Sl
  | [] => env
  | v :: vs => (wipeE env vs).set v Sl.un
theorem Sat.wipe {H0 F h H : Hp} {env : List Sl} {σ : L2.St} (s : Sat K H0 F h H env σ) : ∀ vs : List Nat, Sat K H0 F h H (wipeE env vs) (L2.wipe σ vs)
  | [] => s
  | v :: vs => (Sat.wipe s vs).wipe1 v none
theorem wipe_get (σ : L2.St) : ∀ (vs : List Nat) (i : Nat), (L2.wipe σ vs)[i]? = if i ∈ vs ∧ i < σ.length then some none else σ[i]?
  | [], i => by simp [L2.wipe]
  | v :: vs, i => by
    show ((L2.wipe σ vs).set v none)[i]? = _
    rw [List.getElem?_set]
    by_cases e : v = i
    · subst e
      rw [if_pos rfl, L2.wipe_length]
      by_cases hl : v < σ.length
      · rw [if_pos hl, if_pos ⟨List.mem_cons_self, hl⟩]
      · rw [if_neg hl, if_neg (fun q => hl q.2)]
        exact (List.getElem?_eq_none_iff.mpr (Nat.le_of_not_lt hl)).symm
    · rw [if_neg e, wipe_get σ vs i]
      by_cases q : i ∈ vs ∧ i < σ.length
      · rw [if_pos q, if_pos ⟨List.mem_cons_of_mem _ q.1, q.2⟩]
      · rw [if_neg q, if_neg (fun z => q ⟨(List.mem_cons.mp z.1).resolve_left (fun r => e r.symm), z.2⟩)]
theorem wipe_set {σ : L2.St} {vs : List Nat} {j : Nat} {o : Option V} (hj : j ∈ vs) : L2.wipe ((L2.wipe σ vs).set j o) vs = L2.wipe σ vs := by
  apply List.ext_getElem?
  intro i
  rw [wipe_get, List.length_set, L2.wipe_length, wipe_get, List.getElem?_set, L2.wipe_length]
  by_cases q : i ∈ vs ∧ i < σ.length
  · rw [if_pos q, if_pos q]
  · rw [if_neg q, if_neg q]
    by_cases e : j = i
    · subst e
      rw [if_pos rfl]
      have hl : ¬ j < σ.length := fun z => q ⟨hj, z⟩
      rw [if_neg hl]
      exact (List.getElem?_eq_none_iff.mpr (Nat.le_of_not_lt hl)).symm
    · rw [if_neg e, wipe_get, if_neg q]

/-! ### a new list or dict of one's own -/
def EvN (K : PySem.W.Frag) (te : TE) (env : List Sl) (d : D) : Prop :=
  ∀ (H0 F h H : Hp) (σ : L2.St), Ok F h H → Sat K H0 F h H env σ → ∀ Q : VK, (∀ p G H', Nx F h H G h H' → H p = none → Lc K H0 G h H' p d → Q (.ref p) H') → te σ H Q
theorem Sat.old_none {H0 F h H : Hp} {env : List Sl} {σ : L2.St} (s : Sat K H0 F h H env σ) {p : Addr} (hp : H p = none) : H0 p = none := by
  cases q : H0 p with
  | none => rfl
  | some o =>
    obtain ⟨o', e⟩ := s.old p o q
    rw [hp] at e; cases e
/-- freezing -/
theorem freeze {H0 F h H : Hp} {p : Addr} : ∀ {d : D}, Lc K H0 F h H p d → Ok F h H → ∃ G, Ok G h H ∧ Ex F G ∧ Rp K G (.ref p) d ∧ (∀ b o, G b = some o → F b = none → b = p)
  | .lst ds, ⟨f, g, z, xs, e, r⟩, ok => by
    refine ⟨upd F p (.lst xs), ⟨fun b u q => ?_, ok.eh, fun b u q => ?_⟩, Evl.Ex.new f, .lst upd_same (r.mono (Evl.Ex.new f)), fun b o q n => ?_⟩
    · by_cases hb : b = p
      · subst hb; rw [upd_same] at q; rw [← q]; exact e
      · rw [upd_ne hb] at q; exact ok.ef b u q
    · have hb : b ≠ p := fun z => by rw [z, g] at q; cases q
      rw [upd_ne hb]; exact ok.dj b u q
    · by_cases hb : b = p
      · exact hb
      · rw [upd_ne hb] at q; rw [q] at n; cases n
  | .dct ds, ⟨f, g, z, xs, e, r⟩, ok => by
    refine ⟨upd F p (.dK xs), ⟨fun b u q => ?_, ok.eh, fun b u q => ?_⟩, Evl.Ex.new f, .dct upd_same (r.mono (Evl.Ex.new f)), fun b o q n => ?_⟩
    · by_cases hb : b = p
      · subst hb; rw [upd_same] at q; rw [← q]; exact e
      · rw [upd_ne hb] at q; exact ok.ef b u q
    · have hb : b ≠ p := fun z => by rw [z, g] at q; cases q
      rw [upd_ne hb]; exact ok.dj b u q
    · by_cases hb : b = p
      · exact hb
      · rw [upd_ne hb] at q; rw [q] at n; cases n
  | .raw _, z, _ => z.elim
  | .non, z, _ => z.elim
  | .bl _, z, _ => z.elim
  | .int _, z, _ => z.elim
  | .str _, z, _ => z.elim
  | .tup _, z, _ => z.elim
  | .tupZ _, z, _ => z.elim
theorem Nx.freeze {F h H F1 H1 G : Hp} {p : Addr} (n : Nx F h H F1 h H1) (ok : Ok G h H1) (ex : Ex F1 G) (hp : H p = none) (only : ∀ b o, G b = some o → F1 b = none → b = p) : Nx F h H G h H1 where
  ok := ok
  ex := n.ex.trans ex
  out := n.out
  stay := n.stay
  newG := fun b o e f => by
    cases q : F1 b with
    | some u => exact n.newG b u q f
    | none => rw [only b o e q]; exact hp
  newh := n.newh
theorem EvN.ev {te : TE} {env : List Sl} {d : D} (hN : EvN K te env d) : Ev K te env d := fun H0 F h H σ ok s Q k =>
  hN H0 F h H σ ok s Q fun p G1 H1 n hp lc => by
    obtain ⟨G, ok2, ex2, rp, only⟩ := Lw.freeze lc n.ok
    exact k (.ref p) G H1 (n.freeze ok2 ex2 hp only) rp
theorem EvN.to {te : TE} {env : List Sl} {d d' : D} (h : EvN K te env d) (e : d = d') : EvN K te env d' := e ▸ h
section
variable {env : List Sl} {ta tb te : TE} {tA : TA} {t : TT} {d x y z : D}
theorem lc_new {H0 F h H : Hp} {σ : L2.St} {p : Addr} {xs : List V} {ds : List D} (ok : Ok F h H) (s : Sat K H0 F h H env σ) (hp : H p = none) (r : RpAll K F xs ds) : Lc K H0 F h (upd H p (.lst xs)) p (.lst ds) :=
  ⟨ok.ff hp, ok.fh hp, s.old_none hp, xs, upd_same, r⟩
/-- stepping on to a new list: what is asked is the list itself -/
theorem en_lst {ds : List D} (ha : EvA K tA env ds) (hl : ds.length ≤ sizeLine) : EvN K (tLst tA) env (.lst ds) := fun H0 F h H σ ok s Q k =>
  ha H0 F h H σ ok s _ fun vs G1 H1 n1 r1 => ⟨by rw [r1.len]; exact hl, fun p hp => k p G1 _ (n1.trans (Nx.raw n1.ok hp)) (n1_none n1 hp) (lc_new n1.ok (s.nx n1) hp r1)⟩
where
  n1_none {F h H G h' H' : Hp} {p : Addr} (n : Nx F h H G h' H') (hp : H' p = none) : H p = none := by
    cases q : H p with
    | none => rfl
    | some o =>
      obtain ⟨o', e⟩ := n.stay p o q
      rw [hp] at e; cases e
theorem Nx.was {F h H G h' H' : Hp} {p : Addr} (n : Nx F h H G h' H') (hp : H' p = none) : H p = none := en_lst.n1_none n hp
theorem en_dnewK : EvN K tDNewK env (.dct []) := fun H0 F h H σ ok s Q k p hp => k p F _ (Nx.raw ok hp) hp ⟨ok.ff hp, ok.fh hp, s.old_none hp, [], upd_same, .nil⟩

/-! ### statements -/
variable {F0 h0 H0 H : Hp} {I : Iv} {gs : Gh} {σ : L2.St} {En : Ends} {tu tw : TS}
theorem State.ok_nx {F h : Hp} (I : Iv) (n0 : Nx F0 h0 H0 F h H) {G H' : Hp} (n : Nx F h H G h H') (hI : I.p F h) (s : Sat K H0 F h H env σ) (hg : gs.p F) : State K F0 h0 H0 I env gs σ H' :=
  ⟨G, h, n0.trans n, I.mono n.ex n.ok.dj hI, s.nx n, gs.mono n.ex hg⟩
/-- evaluate, the value is at hand -/
theorem s_ev (S : State K F0 h0 H0 I env gs σ H) (e : Ev K te env d) {Q : VK} (k : ∀ v H', State K F0 h0 H0 I env (Gh.val K v d gs) σ H' → Q v H') : te σ H Q := by
  obtain ⟨F, h, n0, hI, s, hg⟩ := S
  refine e H0 F h H σ n0.ok s Q fun v G H' n r => k v H' ⟨G, h, n0.trans n, I.mono n.ex n.ok.dj hI, s.nx n, r, gs.mono n.ex hg⟩
theorem s_t {b : Bool} (S : State K F0 h0 H0 I env gs σ H) (e : EvT K t env b) {Q : Bool → Hp → Prop} (k : ∀ H', State K F0 h0 H0 I env gs σ H' → Q b H') : t σ H Q := by
  obtain ⟨F, h, n0, hI, s, hg⟩ := S
  exact e H0 F h H σ n0.ok s Q fun G H' n => k H' (State.ok_nx I n0 n hI s hg)
theorem s_set {i : Nat} (S : State K F0 h0 H0 I env gs σ H) (e : Ev K te env d) (k : ∀ σ' H', State K F0 h0 H0 I (env.set i (Sl.val d)) gs σ' H' → En.nx σ' H') : tAsg te (gName i) En σ H := by
  obtain ⟨F, h, n0, hI, s, hg⟩ := S
  exact e H0 F h H σ n0.ok s _ fun v G H' n r => k _ H' ⟨G, h, n0.trans n, I.mono n.ex n.ok.dj hI, (s.nx n).set r i, gs.mono n.ex hg⟩
theorem Sat.setOwn {H0 F h H : Hp} (s : Sat K H0 F h H env σ) {p : Addr} {d : D} (lc : Lc K H0 F h H p d) (i : Nat) (hn : ∀ (j : Nat) e, env[j]? = some (Sl.own e) → σ[j]? ≠ some (some (V.ref p))) : Sat K H0 F h H (env.set i (Sl.own d)) (σ.set i (some (V.ref p))) := by
  have self : ∀ {m e}, (env.set i (Sl.own d))[m]? = some e → i = m → e = Sl.own d ∧ i < env.length := fun {m e} q z => by
    subst z
    have hi : i < env.length := by
      have := (List.getElem?_eq_some_iff.mp q).1; rw [List.length_set] at this; exact this
    rw [List.getElem?_set_self hi] at q
    exact ⟨(Option.some.inj q).symm, hi⟩
  refine ⟨by rw [List.length_set, List.length_set, s.len], s.old, fun j e q => ?_, fun j e q => ?_, fun j k e1 e2 a q1 q2 q3 q4 => ?_⟩
  · by_cases hj : i = j
    · obtain ⟨z, _⟩ := self q hj; cases z
    · rw [List.getElem?_set_ne hj] at q ⊢; exact s.val j e q
  · by_cases hj : i = j
    · obtain ⟨z, hi⟩ := self q hj
      subst hj
      cases z
      exact ⟨p, List.getElem?_set_self (by rw [s.len]; exact hi), lc⟩
    · rw [List.getElem?_set_ne hj] at q ⊢; exact s.own j e q
  · by_cases h1 : i = j
    · by_cases h2 : i = k
      · exact h1.symm.trans h2
      · obtain ⟨z, hi⟩ := self q1 h1
        subst h1
        rw [List.getElem?_set_ne h2] at q2 q4
        rw [List.getElem?_set_self (by rw [s.len]; exact hi)] at q3
        have ea : V.ref p = V.ref a := Option.some.inj (Option.some.inj q3)
        cases ea
        exact absurd q4 (hn k e2 q2)
    · by_cases h2 : i = k
      · obtain ⟨z, hi⟩ := self q2 h2
        subst h2
        rw [List.getElem?_set_ne h1] at q1 q3
        rw [List.getElem?_set_self (by rw [s.len]; exact hi)] at q4
        have ea : V.ref p = V.ref a := Option.some.inj (Option.some.inj q4)
        cases ea
        exact absurd q3 (hn j e1 q1)
      · rw [List.getElem?_set_ne h1] at q1 q3
        rw [List.getElem?_set_ne h2] at q2 q4
        exact s.sep j k e1 e2 a q1 q2 q3 q4
theorem s_setN {i : Nat} (S : State K F0 h0 H0 I env gs σ H) (e : EvN K te env d) (k : ∀ σ' H', State K F0 h0 H0 I (env.set i (Sl.own d)) gs σ' H' → En.nx σ' H') : tAsg te (gName i) En σ H := by
  obtain ⟨F, h, n0, hI, s, hg⟩ := S
  refine e H0 F h H σ n0.ok s _ fun p G H' n hp lc => k _ H' ⟨G, h, n0.trans n, I.mono n.ex n.ok.dj hI, (s.nx n).setOwn lc i fun j e q z => ?_, gs.mono n.ex hg⟩
  obtain ⟨a, ea, la⟩ := s.own j e q
  rw [ea] at z
  cases z
  obtain ⟨o, eo⟩ := la.there
  rw [hp] at eo; cases eo
/-- a list of one's own is frozen -/
theorem s_freeze {i : Nat} (S : State K F0 h0 H0 I env gs σ H) (hi : env[i]? = some (Sl.own d)) : State K F0 h0 H0 I (env.set i (Sl.val d)) gs σ H := by
  obtain ⟨F, h, n0, hI, s, hg⟩ := S
  obtain ⟨a, ea, la⟩ := s.own i d hi
  obtain ⟨G, ok2, ex2, rp, only⟩ := Lw.freeze la n0.ok
  have n1 : Nx F0 h0 H0 G h H := by
    refine ⟨ok2, n0.ex.trans ex2, n0.out, n0.stay, fun b o e f => ?_, n0.newh⟩
    cases q : F b with
    | some u => exact n0.newG b u q f
    | none => rw [only b o e q]; exact la.frees.2.2
  have lt : i < σ.length := (List.getElem?_eq_some_iff.mp ea).1
  refine ⟨G, h, n1, I.mono ex2 ok2.dj hI, ?_, gs.mono ex2 hg⟩
  have self : ∀ {m e}, (env.set i (Sl.val d))[m]? = some e → i = m → e = Sl.val d := fun {m e} q z => by
    subst z
    have hi : i < env.length := by
      have := (List.getElem?_eq_some_iff.mp q).1; rw [List.length_set] at this; exact this
    rw [List.getElem?_set_self hi] at q
    exact (Option.some.inj q).symm
  refine ⟨by rw [List.length_set, s.len], s.old, fun j e q => ?_, fun j e q => ?_, fun j k e1 e2 b q1 q2 q3 q4 => ?_⟩
  · by_cases hj : i = j
    · cases self q hj
      subst hj
      exact ⟨.ref a, ea, rp⟩
    · rw [List.getElem?_set_ne hj] at q
      obtain ⟨v, e1, r1⟩ := s.val j e q
      exact ⟨v, e1, r1.mono ex2⟩
  · by_cases hj : i = j
    · cases self q hj
    · rw [List.getElem?_set_ne hj] at q
      obtain ⟨b, e1, l1⟩ := s.own j e q
      refine ⟨b, e1, ?_⟩
      have hb : b ≠ a := fun z => by
        subst z
        exact hj (s.sep i j d e b hi q ea e1)
      cases e with
      | lst ds =>
        obtain ⟨f, g, z, xs, w, r⟩ := l1
        refine ⟨?_, g, z, xs, w, r.mono ex2⟩
        cases t : G b with
        | none => rfl
        | some u => exact absurd (only b u t f) hb
      | dct ds =>
        obtain ⟨f, g, z, xs, w, r⟩ := l1
        refine ⟨?_, g, z, xs, w, r.mono ex2⟩
        cases t : G b with
        | none => rfl
        | some u => exact absurd (only b u t f) hb
      | _ => exact l1.elim
  · by_cases h1 : i = j
    · cases self q1 h1
    · by_cases h2 : i = k
      · cases self q2 h2
      · rw [List.getElem?_set_ne h1] at q1
        rw [List.getElem?_set_ne h2] at q2
        exact s.sep j k e1 e2 b q1 q2 q3 q4
theorem s_if {b : Bool} (S : State K F0 h0 H0 I env gs σ H) (e : EvT K t env b) (k1 : b = true → ∀ H', State K F0 h0 H0 I env gs σ H' → tu En σ H') (k2 : b = false → ∀ H', State K F0 h0 H0 I env gs σ H' → tw En σ H') : tIfS t tu tw En σ H :=
  s_t (Q := fun b H1 => if b = true then tu En σ H1 else tw En σ H1) S e fun H' S' => by
    cases b with
    | true =>
      show tu En σ H'
      exact k1 rfl H' S'
    | false =>
      show tw En σ H'
      exact k2 rfl H' S'
/-- what a return owes -/
def Done (K : PySem.W.Frag) (F0 h0 H0 : Hp) (I : Iv) (d : D) (Q : VK) : Prop := ∀ v F h H, Nx F0 h0 H0 F h H → I.p F h → Rp K F v d → Q v H
theorem s_ret (S : State K F0 h0 H0 I env gs σ H) (e : Ev K te env d) (k : Done K F0 h0 H0 I d En.rt) : tRet te En σ H := by
  obtain ⟨F, h, n0, hI, s, hg⟩ := S
  exact e H0 F h H σ n0.ok s _ fun v G H' n r => k v G h H' (n0.trans n) (I.mono n.ex n.ok.dj hI) r
theorem s_drop (S : State K F0 h0 H0 I env gs σ H) (e : Ev K te env d) (k : ∀ H', State K F0 h0 H0 I env gs σ H' → En.nx σ H') : tDrop te En σ H := by
  obtain ⟨F, h, n0, hI, s, hg⟩ := S
  exact e H0 F h H σ n0.ok s _ fun v G H' n r => k H' (State.ok_nx I n0 n hI s hg)
theorem s_augI {i : Nat} {f : Int → Int → Int} {a b : Int} (S : State K F0 h0 H0 I env gs σ H) (hi : env[i]? = some (Sl.val (.int a))) (e : Ev K te env (.int b)) (k : ∀ σ' H', State K F0 h0 H0 I (env.set i (Sl.val (.int (f a b)))) gs σ' H' → En.nx σ' H') : tAug i te (ipI f) En σ H := by
  obtain ⟨F, h, n0, hI, s, hg⟩ := S
  obtain ⟨v, e1, r1⟩ := s.val i _ hi
  refine ⟨v, e1, e H0 F h H σ n0.ok s _ fun w G H' n r => ⟨a, b, r1.int_eq, r.int_eq, k _ H' ⟨G, h, n0.trans n, I.mono n.ex n.ok.dj hI, (s.nx n).set (.int _) i, gs.mono n.ex hg⟩⟩⟩
/-- a change of one's own list -/
theorem Sat.change {H0 F h H : Hp} (s : Sat K H0 F h H env σ) {i : Nat} {p : Addr} {d d' : D} {o : HO} (hi : env[i]? = some (Sl.own d)) (ep : σ[i]? = some (some (V.ref p))) (lc : Lc K H0 F h (upd H p o) p d') (lc0 : Lc K H0 F h H p d) :
    Sat K H0 F h (upd H p o) (env.set i (Sl.own d')) σ := by
  have self : ∀ {m e}, (env.set i (Sl.own d'))[m]? = some e → i = m → e = Sl.own d' := fun {m e} q z => by
    subst z
    have hi : i < env.length := by
      have := (List.getElem?_eq_some_iff.mp q).1; rw [List.length_set] at this; exact this
    rw [List.getElem?_set_self hi] at q
    exact (Option.some.inj q).symm
  refine ⟨by rw [List.length_set, s.len], fun b u e => ?_, fun j e q => ?_, fun j e q => ?_, fun j k e1 e2 b q1 q2 q3 q4 => ?_⟩
  · have hb : b ≠ p := fun z => by rw [z, lc0.frees.2.2] at e; cases e
    rw [upd_ne hb]; exact s.old b u e
  · by_cases hj : i = j
    · cases self q hj
    · rw [List.getElem?_set_ne hj] at q; exact s.val j e q
  · by_cases hj : i = j
    · cases self q hj
      subst hj
      exact ⟨p, ep, lc⟩
    · rw [List.getElem?_set_ne hj] at q
      obtain ⟨b, e1, l1⟩ := s.own j e q
      refine ⟨b, e1, l1.upd fun z => ?_⟩
      subst z
      exact hj (s.sep i j d e b hi q ep e1)
  · have old : ∀ {m e}, (env.set i (Sl.own d'))[m]? = some (Sl.own e) → ∃ e', env[m]? = some (Sl.own e') := fun {m e} q => by
      by_cases hm : i = m
      · subst hm; exact ⟨d, hi⟩
      · rw [List.getElem?_set_ne hm] at q; exact ⟨e, q⟩
    obtain ⟨d1, z1⟩ := old q1
    obtain ⟨d2, z2⟩ := old q2
    exact s.sep j k d1 d2 b z1 z2 q3 q4
theorem Nx.own {F h H : Hp} {p : Addr} {o : HO} {H0 : Hp} {d : D} (n : Nx F0 h0 H0 F h H) (lc : Lc K H0 F h H p d) : Nx F0 h0 H0 F h (upd H p o) := by
  obtain ⟨f, g, z⟩ := lc.frees
  have nf : ∀ b u, F b = some u → b ≠ p := fun b u e q => by rw [q, f] at e; cases e
  have nh : ∀ b u, h b = some u → b ≠ p := fun b u e q => by rw [q, g] at e; cases e
  have n0 : ∀ b u, H0 b = some u → b ≠ p := fun b u e q => by rw [q, z] at e; cases e
  exact ⟨⟨fun b u e => by rw [upd_ne (nf b u e)]; exact n.ok.ef b u e, fun b u e => by rw [upd_ne (nh b u e)]; exact n.ok.eh b u e, n.ok.dj⟩, n.ex,
    fun b u e q => by rw [upd_ne (n0 b u e)]; exact n.out b u e q, fun b u e => by
      rw [upd_ne (n0 b u e)]; exact n.stay b u e, n.newG, n.newh⟩
theorem s_append {i : Nat} {ds : List D} (S : State K F0 h0 H0 I env gs σ H) (hi : env[i]? = some (Sl.own (.lst ds))) (e : Ev K te env d) (hl : ds.length < sizeLine)
    (k : ∀ H', State K F0 h0 H0 I (env.set i (Sl.own (.lst (ds ++ [d])))) gs σ H' → En.nx σ H') : tDrop (tBM K "list" rAppend (tVar i) (tCons te tNil)) En σ H := by
  obtain ⟨F, h, n0, hI, s, hg⟩ := S
  obtain ⟨p, ep, lc⟩ := s.own i _ hi
  obtain ⟨f, g, z, xs, ex, rx⟩ := id lc
  refine ⟨.ref p, ep, .inl ⟨rfl, xs, .inl (.inl ex)⟩, e H0 F h H σ n0.ok s _ fun v G H' n r => ?_⟩
  have lc1 := lc.nx n
  obtain ⟨f1, g1, z1, ys, ey, ry⟩ := id lc1
  refine ⟨p, ys, v, rfl, rfl, ey, by rw [ry.len]; exact hl, ?_⟩
  refine k _ ⟨G, h, (n0.trans n).own lc1, I.mono n.ex n.ok.dj hI, (s.nx n).change hi ep ⟨f1, g1, z1, _, upd_same, ry.append (.cons r .nil)⟩ lc1, gs.mono n.ex hg⟩
end
end
end Lw
namespace Lw
open PySem L2

section
variable {K : PySem.W.Frag} {env : List Sl} {ta tb te tl : TE} {tA tr : TA} {t : TT} {d x y z : D}
variable {F0 h0 H0 H : Hp} {I : Iv} {gs : Gh} {σ : L2.St} {En : Ends} {tu tw : TS}

/-! ### the slots in another order -/
theorem Sat.map {H0 F h H : Hp} {env env' : List Sl} {σ σ' : L2.St} (s : Sat K H0 F h H env σ) (f : Nat → Nat) (hl : σ'.length = env'.length)
    (hf : ∀ (j : Nat) e, env'[j]? = some e → e ≠ Sl.un → env[f j]? = some e ∧ σ'[j]? = σ[f j]?)
    (inj : ∀ (i j : Nat) d e, env'[i]? = some (Sl.own d) → env'[j]? = some (Sl.own e) → f i = f j → i = j) : Sat K H0 F h H env' σ' := by
  refine ⟨hl, s.old, fun j e q => ?_, fun j e q => ?_, fun j k e1 e2 a q1 q2 q3 q4 => ?_⟩
  · obtain ⟨q1, q2⟩ := hf j _ q (by intro z; cases z)
    obtain ⟨v, e1, r⟩ := s.val _ _ q1
    exact ⟨v, by rw [q2]; exact e1, r⟩
  · obtain ⟨q1, q2⟩ := hf j _ q (by intro z; cases z)
    obtain ⟨v, e1, r⟩ := s.own _ _ q1
    exact ⟨v, by rw [q2]; exact e1, r⟩
  · obtain ⟨z1, w1⟩ := hf j _ q1 (by intro z; cases z)
    obtain ⟨z2, w2⟩ := hf k _ q2 (by intro z; cases z)
    rw [w1] at q3
    rw [w2] at q4
    exact inj j k e1 e2 q1 q2 (s.sep _ _ e1 e2 a z1 z2 q3 q4)
/-- the first of the values at hand goes to a slot -/
theorem Sat.move {H0 F h H : Hp} {env ss : List Sl} {σ ws : L2.St} {s0 : Sl} {w0 : Option V} (hl : σ.length = env.length) (s : Sat K H0 F h H (env ++ s0 :: ss) (σ ++ w0 :: ws)) (i : Nat) (hi : i < env.length) :
    Sat K H0 F h H (env.set i s0 ++ ss) (σ.set i w0 ++ ws) := by
  have l2 := s.len
  rw [List.length_append, List.length_append, List.length_cons, List.length_cons] at l2
  have get : ∀ j : Nat, (env.set i s0 ++ ss)[j]? = (env ++ s0 :: ss)[if j = i then env.length else if j < env.length then j else j + 1]? ∧ (σ.set i w0 ++ ws)[j]? = (σ ++ w0 :: ws)[if j = i then env.length else if j < env.length then j else j + 1]? := by
    intro j
    by_cases h1 : j = i
    · subst h1
      rw [if_pos rfl]
      have a1 : (env.set j s0 ++ ss)[j]? = some s0 := by rw [List.getElem?_append_left (by rw [List.length_set]; exact hi), List.getElem?_set_self hi]
      have a2 : (env ++ s0 :: ss)[env.length]? = some s0 := by rw [List.getElem?_append_right (Nat.le_refl _), Nat.sub_self]; rfl
      have a3 : (σ.set j w0 ++ ws)[j]? = some w0 := by rw [List.getElem?_append_left (by rw [List.length_set, hl]; exact hi), List.getElem?_set_self (by rw [hl]; exact hi)]
      have a4 : (σ ++ w0 :: ws)[env.length]? = some w0 := by rw [List.getElem?_append_right (by rw [hl]; exact Nat.le_refl _), hl, Nat.sub_self]; rfl
      exact ⟨a1.trans a2.symm, a3.trans a4.symm⟩
    · rw [if_neg h1]
      by_cases h2 : j < env.length
      · rw [if_pos h2]
        have a1 : (env.set i s0 ++ ss)[j]? = env[j]? := by rw [List.getElem?_append_left (by rw [List.length_set]; exact h2), List.getElem?_set_ne (fun z => h1 z.symm)]
        have a2 : (env ++ s0 :: ss)[j]? = env[j]? := List.getElem?_append_left h2
        have a3 : (σ.set i w0 ++ ws)[j]? = σ[j]? := by rw [List.getElem?_append_left (by rw [List.length_set, hl]; exact h2), List.getElem?_set_ne (fun z => h1 z.symm)]
        have a4 : (σ ++ w0 :: ws)[j]? = σ[j]? := List.getElem?_append_left (by rw [hl]; exact h2)
        exact ⟨a1.trans a2.symm, a3.trans a4.symm⟩
      · rw [if_neg h2]
        have e1 : j + 1 - env.length = (j - env.length) + 1 := by omega
        have a1 : (env.set i s0 ++ ss)[j]? = ss[j - env.length]? := by rw [List.getElem?_append_right (by rw [List.length_set]; omega), List.length_set]
        have a2 : (env ++ s0 :: ss)[j + 1]? = ss[j - env.length]? := by rw [List.getElem?_append_right (by omega), e1]; rfl
        have a3 : (σ.set i w0 ++ ws)[j]? = ws[j - env.length]? := by rw [List.getElem?_append_right (by rw [List.length_set, hl]; omega), List.length_set, hl]
        have a4 : (σ ++ w0 :: ws)[j + 1]? = ws[j - env.length]? := by rw [List.getElem?_append_right (by rw [hl]; omega), hl, e1]; rfl
        exact ⟨a1.trans a2.symm, a3.trans a4.symm⟩
  refine s.map (fun j => if j = i then env.length else if j < env.length then j else j + 1) (by rw [List.length_append, List.length_append, List.length_set, List.length_set]; omega) (fun j e q _ => ?_) (fun a b d e q1 q2 q => ?_)
  · obtain ⟨g1, g2⟩ := get j
    exact ⟨by rw [← g1]; exact q, g2⟩
  · by_cases h1 : a = i
    · by_cases h2 : b = i
      · rw [h1, h2]
      · simp only [if_pos h1, if_neg h2] at q
        split at q <;> omega
    · by_cases h2 : b = i
      · simp only [if_neg h1, if_pos h2] at q
        split at q <;> omega
      · simp only [if_neg h1, if_neg h2] at q
        split at q <;> split at q <;> omega
theorem Sat.left {H0 F h H : Hp} {env ss : List Sl} {σ ws : L2.St} (hl : σ.length = env.length) (s : Sat K H0 F h H (env ++ ss) (σ ++ ws)) : Sat K H0 F h H env σ := by
  refine s.map id hl (fun j e q _ => ?_) (fun a b d e q1 q2 q => q)
  have hj := (List.getElem?_eq_some_iff.mp q).1
  show (env ++ ss)[j]? = some e ∧ σ[j]? = (σ ++ ws)[j]?
  rw [List.getElem?_append_left hj, List.getElem?_append_left (by rw [hl]; exact hj)]
  exact ⟨q, rfl⟩

/-! ### arguments that may be new lists of one's own -/
def EvAS (K : PySem.W.Frag) (ta : TA) (env : List Sl) (ss : List Sl) : Prop :=
  ∀ (H0 F h H : Hp) (σ : L2.St) (xs : List Sl) (ws : L2.St), σ.length = env.length → Ok F h H → Sat K H0 F h H (env ++ xs) (σ ++ ws) → ∀ Q : List V → Hp → Prop,
    (∀ vs G H', Nx F h H G h H' → vs.length = ss.length → Sat K H0 G h H' (env ++ (xs ++ ss)) (σ ++ (ws ++ vs.map some)) → Q vs H') → ta σ H Q
theorem Sat.push {H0 F h H : Hp} {env : List Sl} {σ : L2.St} (s : Sat K H0 F h H env σ) {v : V} {d : D} (r : Rp K F v d) : Sat K H0 F h H (env ++ [Sl.val d]) (σ ++ [some v]) := by
  have s1 : Sat K H0 F h H (env ++ [Sl.un]) (σ ++ [none]) := by
    refine s.map id (by rw [List.length_append, List.length_append, s.len]; rfl) (fun j e q ne => ?_) (fun a b d e q1 q2 q => q)
    by_cases hj : j < env.length
    · rw [List.getElem?_append_left hj] at q
      exact ⟨q, by show (σ ++ [none])[j]? = σ[j]?; rw [List.getElem?_append_left (by rw [s.len]; exact hj)]⟩
    · rw [List.getElem?_append_right (by omega)] at q
      cases h : j - env.length with
      | zero => rw [h] at q; exact absurd (Option.some.inj q).symm ne
      | succ n => rw [h] at q; simp at q
  have s2 := s1.set r env.length
  have e1 : (env ++ [Sl.un]).set env.length (Sl.val d) = env ++ [Sl.val d] := by rw [List.set_append_right _ _ (Nat.le_refl _), Nat.sub_self]; rfl
  have e2 : (σ ++ [none]).set env.length (some v) = σ ++ [some v] := by rw [List.set_append_right _ _ (by rw [s.len]; exact Nat.le_refl _), s.len, Nat.sub_self]; rfl
  rw [e1, e2] at s2
  exact s2
theorem Sat.pushOwn {H0 F h H : Hp} {env : List Sl} {σ : L2.St} (s : Sat K H0 F h H env σ) {p : Addr} {d : D} (lc : Lc K H0 F h H p d) (hn : ∀ (j : Nat) e, env[j]? = some (Sl.own e) → σ[j]? ≠ some (some (V.ref p))) : Sat K H0 F h H (env ++ [Sl.own d]) (σ ++ [some (V.ref p)]) := by
  have s1 : Sat K H0 F h H (env ++ [Sl.un]) (σ ++ [none]) := by
    refine s.map id (by rw [List.length_append, List.length_append, s.len]; rfl) (fun j e q ne => ?_) (fun a b d e q1 q2 q => q)
    by_cases hj : j < env.length
    · rw [List.getElem?_append_left hj] at q
      exact ⟨q, by show (σ ++ [none])[j]? = σ[j]?; rw [List.getElem?_append_left (by rw [s.len]; exact hj)]⟩
    · rw [List.getElem?_append_right (by omega)] at q
      cases h : j - env.length with
      | zero => rw [h] at q; exact absurd (Option.some.inj q).symm ne
      | succ n => rw [h] at q; simp at q
  have s2 := s1.setOwn lc env.length fun j e q z => by
    by_cases hj : j < env.length
    · rw [List.getElem?_append_left hj] at q
      rw [List.getElem?_append_left (by rw [s.len]; exact hj)] at z
      exact hn j e q z
    · rw [List.getElem?_append_right (by omega)] at q
      cases h : j - env.length with
      | zero => rw [h] at q; cases q
      | succ n => rw [h] at q; simp at q
  have e1 : (env ++ [Sl.un]).set env.length (Sl.own d) = env ++ [Sl.own d] := by rw [List.set_append_right _ _ (Nat.le_refl _), Nat.sub_self]; rfl
  have e2 : (σ ++ [none]).set env.length (some (V.ref p)) = σ ++ [some (V.ref p)] := by rw [List.set_append_right _ _ (by rw [s.len]; exact Nat.le_refl _), s.len, Nat.sub_self]; rfl
  rw [e1, e2] at s2
  exact s2
theorem Sat.fresh {H0 F h H : Hp} {env : List Sl} {σ : L2.St} (s : Sat K H0 F h H env σ) {p : Addr} (hp : H p = none) : ∀ (j : Nat) e, env[j]? = some (Sl.own e) → σ[j]? ≠ some (some (V.ref p)) := fun j e q z => by
  obtain ⟨a, ea, la⟩ := s.own j e q
  rw [ea] at z
  cases z
  obtain ⟨o, eo⟩ := la.there
  rw [hp] at eo; cases eo
theorem eas_nil : EvAS K tNil env [] := fun H0 F h H σ xs ws hl ok s Q k => k [] F H (Nx.refl ok) rfl (by simpa using s)
theorem eas_val {ss : List Sl} (ha : Ev K te env d) (hr : EvAS K tr env ss) : EvAS K (tCons te tr) env (Sl.val d :: ss) := fun H0 F h H σ xs ws hl ok s Q k =>
  ha H0 F h H σ ok (s.left hl) _ fun v G1 H1 n1 r1 => by
    have s1 := (s.nx n1).push r1
    rw [List.append_assoc, List.append_assoc] at s1
    refine hr H0 G1 h H1 σ (xs ++ [Sl.val d]) (ws ++ [some v]) hl n1.ok s1 _ fun vs G2 H2 n2 l2 s2 => k (v :: vs) G2 H2 (n1.trans n2) (by rw [List.length_cons, List.length_cons, l2]) ?_
    simpa [List.append_assoc] using s2
theorem eas_new {ss : List Sl} (ha : EvN K te env d) (hr : EvAS K tr env ss) : EvAS K (tCons te tr) env (Sl.own d :: ss) := fun H0 F h H σ xs ws hl ok s Q k =>
  ha H0 F h H σ ok (s.left hl) _ fun p G1 H1 n1 hp lc => by
    have s1 := (s.nx n1).pushOwn lc (s.fresh hp)
    rw [List.append_assoc, List.append_assoc] at s1
    refine hr H0 G1 h H1 σ (xs ++ [Sl.own d]) (ws ++ [some (V.ref p)]) hl n1.ok s1 _ fun vs G2 H2 n2 l2 s2 => k (V.ref p :: vs) G2 H2 (n1.trans n2) (by rw [List.length_cons, List.length_cons, l2]) ?_
    simpa [List.append_assoc] using s2
theorem s_as {ss : List Sl} (S : State K F0 h0 H0 I env gs σ H) (e : EvAS K tA env ss) {Q : List V → Hp → Prop} (k : ∀ vs H', vs.length = ss.length → State K F0 h0 H0 I (env ++ ss) gs (σ ++ vs.map some) H' → Q vs H') : tA σ H Q := by
  obtain ⟨F, h, n0, hI, s, hg⟩ := S
  refine e H0 F h H σ [] [] s.len n0.ok (by simpa using s) Q fun vs G H' n l s' => k vs H' l ⟨G, h, n0.trans n, I.mono n.ex n.ok.dj hI, by simpa using s', gs.mono n.ex hg⟩
theorem State.len (S : State K F0 h0 H0 I env gs σ H) : σ.length = env.length := by
  obtain ⟨F, h, n0, hI, s, hg⟩ := S
  exact s.len
theorem State.move {ss : List Sl} {ws : L2.St} {s0 : Sl} {w0 : Option V} (hl : σ.length = env.length) (S : State K F0 h0 H0 I (env ++ s0 :: ss) gs (σ ++ w0 :: ws) H) (i : Nat) (hi : i < env.length) : State K F0 h0 H0 I (env.set i s0 ++ ss) gs (σ.set i w0 ++ ws) H := by
  obtain ⟨F, h, n0, hI, s, hg⟩ := S
  exact ⟨F, h, n0, hI, s.move hl i hi, hg⟩
/-- a, b = x, y of local names -/
theorem s_par {i j : Nat} {s1 s2 : Sl} (S : State K F0 h0 H0 I env gs σ H) (e : EvAS K tA env [s1, s2]) (hi : i < env.length) (hj : j < env.length) (k : ∀ σ' H', State K F0 h0 H0 I ((env.set i s1).set j s2) gs σ' H' → En.nx σ' H') : tPar i j tA En σ H := by
  have hl := S.len
  refine s_as S e fun vs H' l S1 => ?_
  match vs, l with
  | [v, w], _ =>
    have S2 := State.move hl S1 i hi
    have S3 := State.move (by rw [List.length_set, List.length_set]; exact hl) S2 j (by rw [List.length_set]; exact hj)
    refine ⟨v, w, rfl, k _ H' ?_⟩
    simpa using S3
theorem s_par3 {i j m : Nat} {s1 s2 s3 : Sl} (S : State K F0 h0 H0 I env gs σ H) (e : EvAS K tA env [s1, s2, s3]) (hi : i < env.length) (hj : j < env.length) (hm : m < env.length) (k : ∀ σ' H', State K F0 h0 H0 I (((env.set i s1).set j s2).set m s3) gs σ' H' → En.nx σ' H') : tPar3 i j m tA En σ H := by
  have hl := S.len
  refine s_as S e fun vs H' l S1 => ?_
  match vs, l with
  | [u, v, w], _ =>
    have S2 := State.move hl S1 i hi
    have S3 := State.move (by rw [List.length_set, List.length_set]; exact hl) S2 j (by rw [List.length_set]; exact hj)
    have S4 := State.move (by rw [List.length_set, List.length_set, List.length_set, List.length_set]; exact hl) S3 m (by rw [List.length_set, List.length_set]; exact hm)
    refine ⟨u, v, w, rfl, k _ H' ?_⟩
    simpa using S4

/-! ### targets -/
def Tg (K : PySem.W.Frag) (g : TG) (env : List Sl) (d : D) (env' : List Sl) : Prop :=
  ∀ (H0 F h H : Hp) (σ : L2.St) (v : V), Ok F h H → Sat K H0 F h H env σ → Rp K F v d → ∀ Q : L2.St → Hp → Prop, (∀ σ', Sat K H0 F h H env' σ' → Q σ' H) → g v σ H Q
def Tgs (K : PySem.W.Frag) (g : TGs) (env : List Sl) (ds : List D) (env' : List Sl) : Prop :=
  ∀ (H0 F h H : Hp) (σ : L2.St) (vs : List V), Ok F h H → Sat K H0 F h H env σ → RpAll K F vs ds → ∀ Q : L2.St → Hp → Prop, (∀ σ', Sat K H0 F h H env' σ' → Q σ' H) → g vs σ H Q
theorem tg_name {i : Nat} : Tg K (gName i) env d (env.set i (Sl.val d)) := fun H0 F h H σ v ok s r Q k => k _ (s.set r i)
theorem tgs_nil : Tgs K gNil env [] env := fun H0 F h H σ vs ok s r Q k => by
  cases r
  exact ⟨rfl, k σ s⟩
theorem tgs_cons {g : TG} {gg : TGs} {ds : List D} {env' env'' : List Sl} (h1 : Tg K g env d env') (h2 : Tgs K gg env' ds env'') : Tgs K (gCons g gg) env (d :: ds) env'' := fun H0 F h H σ vs ok s r Q k => by
  cases r with
  | cons r rr => exact ⟨_, _, rfl, h1 H0 F h H σ _ ok s r _ fun σ' s' => h2 H0 F h H σ' _ ok s' rr Q k⟩
theorem tg_tup {gg : TGs} {ds : List D} {env' : List Sl} {n : Nat} (hn : ds.length = n) (h : Tgs K gg env ds env') : Tg K (gTup K n gg) env (.tup ds) env' := fun H0 F hh H σ v ok s r Q k => by
  obtain ⟨a, xs, e, hs, rr⟩ := r.tup_of
  exact ⟨a, xs, e, Evl.ex_t ok.ef hs, by rw [rr.len, hn], h H0 F hh H σ xs ok s rr Q k⟩
theorem s_asg {g : TG} {env' : List Sl} (S : State K F0 h0 H0 I env gs σ H) (e : Ev K te env d) (hg : Tg K g env d env') (k : ∀ σ' H', State K F0 h0 H0 I env' gs σ' H' → En.nx σ' H') : tAsg te g En σ H := by
  obtain ⟨F, h, n0, hI, s, hgs⟩ := S
  exact e H0 F h H σ n0.ok s _ fun v G H' n r => hg H0 G h H' σ v n.ok (s.nx n) r _ fun σ' s' => k σ' H' ⟨G, h, n0.trans n, I.mono n.ex n.ok.dj hI, s', gs.mono n.ex hgs⟩

/-! ### loops -/
def Nxt (K : PySem.W.Frag) (F0 h0 H0 : Hp) (gs : Gh) (P : Nat → List Sl → Iv → Prop) (k : Nat) : L2.St → Hp → Prop := fun σ H => ∃ env I, P k env I ∧ State K F0 h0 H0 I env gs σ H
theorem State.tail {v : V} (S : State K F0 h0 H0 I env (Gh.val K v d gs) σ H) : State K F0 h0 H0 I env gs σ H := by
  obtain ⟨F, h, n0, hI, s, hgs⟩ := S
  exact ⟨F, h, n0, hI, s, hgs.2⟩
/-- while: a word with its measure -/
theorem s_while (S : State K F0 h0 H0 I env gs σ H) (P : Nat → List Sl → Iv → Prop) (m0 : Nat) (p0 : P m0 env I)
    (step : ∀ (m : Nat) env' I' σ' H', P m env' I' → State K F0 h0 H0 I' env' gs σ' H' → ∃ b, EvT K t env' b ∧
      (b = true → ∀ H2, State K F0 h0 H0 I' env' gs σ' H2 → ∃ N : L2.St → Hp → Prop, (∀ σ3 H3, N σ3 H3 → ∃ m', m' < m ∧ Nxt K F0 h0 H0 gs P m' σ3 H3) ∧ tu { En with nx := N, ct := N, bk := En.nx } σ' H2) ∧
      (b = false → ∀ H2, State K F0 h0 H0 I' env' gs σ' H2 → En.nx σ' H2)) : tWhile t tu En σ H := by
  refine ⟨Nxt K F0 h0 H0 gs P, ⟨m0, env, I, p0, S⟩, ?_⟩
  rintro m σ' H' ⟨env', I', p, S'⟩
  obtain ⟨b, et, k1, k2⟩ := step m env' I' σ' H' p S'
  refine s_t S' et fun H2 S2 => ?_
  cases b with
  | true =>
    rw [if_pos rfl]
    obtain ⟨N, hN, q⟩ := k1 rfl H2 S2
    exact ⟨N, hN, q⟩
  | false =>
    rw [if_neg Bool.false_ne_true]
    exact k2 rfl H2 S2

end
end Lw
namespace Lw
open PySem L2

section
variable {K : PySem.W.Frag} {env : List Sl} {ta tb te tl : TE} {tA tr : TA} {t tt : TT} {d x y z : D}
variable {F0 h0 H0 H : Hp} {I : Iv} {gs : Gh} {σ : L2.St} {En : Ends} {tu tw : TS}

/-! ### what is walked -/
/-- J yields the data ds, while gz is known -/
structure Src (K : PySem.W.Frag) (J : It) (gz : Gh) (ds : List D) : Prop where
  go : ∀ (i : Nat) (F h H : Hp) (d : D), Ok F h H → gz.p F → ds[i]? = some d → J.go i H ∧ ∀ v H', J.yld i H v H' → ∃ G, Nx F h H G h H' ∧ Rp K G v d
  stop : ∀ (F h H : Hp), Ok F h H → gz.p F → J.stop ds.length H
def EvI (K : PySem.W.Frag) (wi : TI) (env : List Sl) (ds : List D) : Prop :=
  ∀ (H0 F h H : Hp) (σ : L2.St), Ok F h H → Sat K H0 F h H env σ → ∀ R : It → Hp → Prop, (∀ J gz G H', Nx F h H G h H' → Src K J gz ds → gz.p G → R J H') → wi σ H R
theorem EvI.to {wi : TI} {ds ds' : List D} (h : EvI K wi env ds) (e : ds = ds') : EvI K wi env ds' := e ▸ h
theorem src_list {a : Addr} {xs : List V} {ds : List D} : Src K (Itl K a) (Gh.seq K a xs ds Gh.nil) ds where
  go := fun i F h H d ok g e => by
    obtain ⟨⟨hs, rr⟩, _⟩ := g
    obtain ⟨u, hu, ru⟩ := rr.get e
    refine ⟨⟨xs, u, Evl.ex_l ok.ef hs, hu⟩, ?_⟩
    rintro v H' ⟨rfl, q⟩
    have q := q xs (Evl.ex_l ok.ef hs)
    rw [hu] at q
    cases q
    exact ⟨F, Nx.refl ok, ru⟩
  stop := fun F h H ok g => ⟨xs, Evl.ex_l ok.ef g.1.1, by rw [g.1.2.len]; exact Nat.le_refl _⟩
theorem src_tup {a : Addr} {xs : List V} {ds : List D} : Src K (Itt K a) (Gh.sqt K a xs ds Gh.nil) ds where
  go := fun i F h H d ok g e => by
    obtain ⟨⟨hs, rr⟩, _⟩ := g
    obtain ⟨u, hu, ru⟩ := rr.get e
    refine ⟨⟨xs, u, Evl.ex_t ok.ef hs, hu⟩, ?_⟩
    rintro v H' ⟨rfl, q⟩
    have q := q xs (Evl.ex_t ok.ef hs)
    rw [hu] at q
    cases q
    exact ⟨F, Nx.refl ok, ru⟩
  stop := fun F h H ok g => ⟨xs, Evl.ex_t ok.ef g.1.1, by rw [g.1.2.len]; exact Nat.le_refl _⟩
theorem ei_list {ds : List D} (e : Ev K tl env (.lst ds)) : EvI K (iList K tl) env ds := fun H0 F h H σ ok s R k =>
  e H0 F h H σ ok s _ fun v G H' n r => by
    obtain ⟨a, xs, rfl, hs, rr⟩ := r.lst_of
    have hs : SqL K G a xs := .inl (.inl hs)
    exact ⟨a, rfl, ⟨xs, Evl.ex_l n.ok.ef hs⟩, k _ _ G H' n src_list ⟨⟨hs, rr⟩, trivial⟩⟩
theorem ei_tup {ds : List D} (e : Ev K tl env (.tup ds)) : EvI K (iTup K tl) env ds := fun H0 F h H σ ok s R k =>
  e H0 F h H σ ok s _ fun v G H' n r => by
    obtain ⟨a, xs, rfl, hs, rr⟩ := r.tup_of
    exact ⟨a, rfl, ⟨xs, Evl.ex_t n.ok.ef hs⟩, k _ _ G H' n src_tup ⟨⟨hs, rr⟩, trivial⟩⟩
def enumD (ds : List D) : List D := ds.mapIdx fun i d => .tup [.int (i : Nat), d]
def zipD (ds es : List D) : List D := List.zipWith (fun d e => D.tup [d, e]) ds es
def rngD (lo : Int) (n : Nat) : List D := (List.range n).map fun (i : Nat) => .int (lo + i)
theorem src_enum {a : Addr} {xs : List V} {ds : List D} : Src K (Ite K a) (Gh.seq K a xs ds Gh.nil) (enumD ds) where
  go := fun i F h H d ok g e => by
    obtain ⟨⟨hs, rr⟩, _⟩ := g
    unfold enumD at e
    rw [List.getElem?_mapIdx] at e
    cases q : ds[i]? with
    | none => rw [q] at e; cases e
    | some d0 =>
      rw [q] at e
      cases e
      obtain ⟨u, hu, ru⟩ := rr.get q
      refine ⟨⟨xs, u, Evl.ex_l ok.ef hs, hu⟩, ?_⟩
      rintro v H' ⟨T, x, rfl, hT, rfl, q⟩
      have q := q xs (Evl.ex_l ok.ef hs)
      rw [hu] at q
      cases q
      have n2 := Nx.new (o := .tup [.int (i : Nat), u]) ok hT
      exact ⟨_, n2, .tup (.inl (.inl upd_same)) (.cons (.int _) (.cons (ru.mono n2.ex) .nil))⟩
  stop := fun F h H ok g => ⟨xs, Evl.ex_l ok.ef g.1.1, by unfold enumD; rw [List.length_mapIdx, g.1.2.len]; exact Nat.le_refl _⟩
theorem ei_enum {ds : List D} (e : EvA K tA env [.lst ds]) : EvI K (iEnum K tA) env (enumD ds) := fun H0 F h H σ ok s R k =>
  e H0 F h H σ ok s _ fun vs G H' n r => by
    cases r with
    | cons r rn =>
      cases rn
      obtain ⟨a, xs, rfl, hs, rr⟩ := r.lst_of
      have hs : SqL K G a xs := .inl (.inl hs)
      exact ⟨a, xs, rfl, Evl.ex_l n.ok.ef hs, k _ _ G H' n src_enum ⟨⟨hs, rr⟩, trivial⟩⟩
theorem src_zip {a b : Addr} {xs ys : List V} {ds es : List D} : Src K (Itz K a b) (Gh.seq K a xs ds (Gh.seq K b ys es Gh.nil)) (zipD ds es) where
  go := fun i F h H d ok g e => by
    obtain ⟨⟨hs, rr⟩, ⟨hs2, rr2⟩, _⟩ := g
    unfold zipD at e
    rw [List.getElem?_zipWith] at e
    cases q : ds[i]? with
    | none => rw [q] at e; cases e
    | some d0 =>
      cases q2 : es[i]? with
      | none => rw [q, q2] at e; cases e
      | some e0 =>
        rw [q, q2] at e
        cases e
        obtain ⟨u, hu, ru⟩ := rr.get q
        obtain ⟨u2, hu2, ru2⟩ := rr2.get q2
        refine ⟨⟨xs, ys, u, u2, Evl.ex_l ok.ef hs, Evl.ex_l ok.ef hs2, hu, hu2⟩, ?_⟩
        rintro v H' ⟨T, x, y, rfl, hT, rfl, q, q2⟩
        have q := q xs (Evl.ex_l ok.ef hs)
        have q2 := q2 ys (Evl.ex_l ok.ef hs2)
        rw [hu] at q
        rw [hu2] at q2
        cases q
        cases q2
        have n2 := Nx.new (o := .tup [u, u2]) ok hT
        exact ⟨_, n2, .tup (.inl (.inl upd_same)) (.cons (ru.mono n2.ex) (.cons (ru2.mono n2.ex) .nil))⟩
  stop := fun F h H ok g => ⟨xs, ys, Evl.ex_l ok.ef g.1.1, Evl.ex_l ok.ef g.2.1.1, by
    unfold zipD
    rw [List.length_zipWith, ← g.1.2.len, ← g.2.1.2.len]
    omega⟩
theorem ei_zip {ds es : List D} (e : EvA K tA env [.lst ds, .lst es]) : EvI K (iZip K tA) env (zipD ds es) := fun H0 F h H σ ok s R k =>
  e H0 F h H σ ok s _ fun vs G H' n r => by
    cases r with
    | cons r rn =>
      cases rn with
      | cons r2 rn =>
        cases rn
        obtain ⟨a, xs, rfl, hs, rr⟩ := r.lst_of
        have hs : SqL K G a xs := .inl (.inl hs)
        obtain ⟨b, ys, rfl, hs2, rr2⟩ := r2.lst_of
        have hs2 : SqL K G b ys := .inl (.inl hs2)
        exact ⟨a, b, xs, ys, rfl, Evl.ex_l n.ok.ef hs, Evl.ex_l n.ok.ef hs2, k _ _ G H' n src_zip ⟨⟨hs, rr⟩, ⟨hs2, rr2⟩, trivial⟩⟩
theorem src_rng {lo : Int} {n : Nat} : Src K (Itr lo n) Gh.nil (rngD lo n) where
  go := fun i F h H d ok g e => by
    unfold rngD at e
    rw [List.getElem?_map] at e
    cases q : (List.range n)[i]? with
    | none => rw [q] at e; cases e
    | some m =>
      rw [q] at e
      cases e
      have hi : i < n := by
        have := (List.getElem?_eq_some_iff.mp q).1; rw [List.length_range] at this; exact this
      have em : m = i := by
        rw [List.getElem?_range hi] at q
        exact (Option.some.inj q).symm
      subst em
      refine ⟨hi, ?_⟩
      rintro v H' ⟨rfl, rfl⟩
      exact ⟨F, Nx.refl ok, .int _⟩
  stop := fun F h H ok g => by
    show n ≤ (rngD lo n).length
    unfold rngD
    rw [List.length_map, List.length_range]
    exact Nat.le_refl _
theorem ei_rng1 {j : Int} (e : EvA K tA env [.int j]) (hj : -(2 ^ 62) ≤ j ∧ j < 2 ^ 62) : EvI K (iRng1 tA) env (rngD 0 j.toNat) := fun H0 F h H σ ok s R k =>
  e H0 F h H σ ok s _ fun vs G H' n r => by
    cases r with
    | cons r rn =>
      cases rn
      cases r
      exact ⟨j, rfl, hj.1, hj.2, k _ _ G H' n src_rng trivial⟩
theorem ei_rng2 {i j : Int} (e : EvA K tA env [.int i, .int j]) (hj : -(2 ^ 62) ≤ i ∧ i < 2 ^ 62 ∧ -(2 ^ 62) ≤ j ∧ j < 2 ^ 62) : EvI K (iRng2 tA) env (rngD i (j - i).toNat) := fun H0 F h H σ ok s R k =>
  e H0 F h H σ ok s _ fun vs G H' n r => by
    cases r with
    | cons r rn =>
      cases rn with
      | cons r2 rn =>
        cases rn
        cases r
        cases r2
        exact ⟨i, j, rfl, hj, k _ _ G H' n src_rng trivial⟩
/-- the signs of a text -/
def sgnD (x : Str) : List D := x.cps.toList.map fun c => .str ⟨#[c]⟩
theorem src_str {x : Str} : Src K (Its x) Gh.nil (sgnD x) where
  go := fun i F h H d ok g e => by
    unfold sgnD at e
    rw [List.getElem?_map] at e
    cases q : x.cps.toList[i]? with
    | none => rw [q] at e; cases e
    | some m =>
      rw [q] at e
      cases e
      have hi : i < x.cps.size := by
        have := (List.getElem?_eq_some_iff.mp q).1; rw [Array.length_toList] at this; exact this
      refine ⟨hi, ?_⟩
      rintro v H' ⟨rfl, c, hc, rfl⟩
      have : c = m := by
        rw [Array.getElem?_toList] at q
        rw [q] at hc
        exact (Option.some.inj hc).symm
      subst this
      exact ⟨F, Nx.refl ok, .str _⟩
  stop := fun F h H ok g => by
    show x.cps.size ≤ (sgnD x).length
    unfold sgnD
    rw [List.length_map, Array.length_toList]
    exact Nat.le_refl _
theorem ei_str {x : Str} (e : Ev K te env (.str x)) : EvI K (iStr te) env (sgnD x) := fun H0 F h H σ ok s R k =>
  e H0 F h H σ ok s _ fun v G H' n r => ⟨x, r.str_eq, k _ _ G H' n src_str trivial⟩

/-! ### for -/
def Gh.and (a b : Gh) : Gh := ⟨fun F => a.p F ∧ b.p F, fun e q => ⟨a.mono e q.1, b.mono e q.2⟩⟩
theorem s_for {wi : TI} {g : TG} {ds : List D} (S : State K F0 h0 H0 I env gs σ H) (e : EvI K wi env ds) (P : Nat → List Sl → Iv → Prop) (p0 : P 0 env I)
    (step : ∀ (k : Nat) d env' I', ds[k]? = some d → P k env' I' → ∃ env'', Tg K g env' d env'' ∧ ∀ gs' σ' H', State K F0 h0 H0 I' env'' gs' σ' H' → tu { En with nx := Nxt K F0 h0 H0 gs' P (k + 1), ct := Nxt K F0 h0 H0 gs' P (k + 1), bk := En.nx } σ' H')
    (fin : ∀ env' I' σ' H', P ds.length env' I' → State K F0 h0 H0 I' env' gs σ' H' → En.nx σ' H') : tFor wi g tu En σ H := by
  obtain ⟨F, h, n0, hI, s, hgs⟩ := S
  refine e H0 F h H σ n0.ok s _ fun J gz G H1 n1 src hz => ?_
  refine ⟨fun i m σ H => m = ds.length - i ∧ i ≤ ds.length ∧ Nxt K F0 h0 H0 (gz.and gs) P i σ H, ⟨ds.length, by simp, Nat.zero_le _, env, I, p0, G, h, n0.trans n1, I.mono n1.ex n1.ok.dj hI, s.nx n1, hz, gs.mono n1.ex hgs⟩, ?_⟩
  rintro i m σ' H' ⟨rfl, hi, env', I', p, F', h', n', hI', s', hz', hgs'⟩
  by_cases hlt : i < ds.length
  · have hd : ds[i]? = some ds[i] := List.getElem?_eq_getElem hlt
    obtain ⟨hgo, hy⟩ := src.go i F' h' H' _ n'.ok hz' hd
    obtain ⟨env'', hg, step⟩ := step i _ env' I' hd p
    refine .inr ⟨hgo, Nxt K F0 h0 H0 (gz.and gs) P (i + 1), fun σ2 H2 q => ⟨ds.length - (i + 1), by omega, rfl, hlt, q⟩, fun v H2 y => ?_⟩
    obtain ⟨G2, n2, r2⟩ := hy v H2 y
    exact hg H0 G2 h' H2 σ' v n2.ok (s'.nx n2) r2 _ fun σ2 s2 => step (gz.and gs) σ2 H2 ⟨G2, h', n'.trans n2, I'.mono n2.ex n2.ok.dj hI', s2, gz.mono n2.ex hz', gs.mono n2.ex hgs'⟩
  · have ei : i = ds.length := by omega
    subst ei
    exact .inl ⟨src.stop F' h' H' n'.ok hz', fin env' I' σ' H' p ⟨F', h', n', hI', s', hgs'⟩⟩

/-! ### comprehensions that change nothing -/
theorem Nx.put {F1 h1 H1 G h H : Hp} {p : Addr} {o : HO} (n : Nx F1 h1 H1 G h H) (hG : G p = none) (hh : h p = none) (h0 : H1 p = none) (hH : ∃ u, H p = some u) : Nx F1 h1 H1 G h (upd H p o) := by
  have nf : ∀ b u, G b = some u → b ≠ p := fun b u e q => by rw [q, hG] at e; cases e
  have nh : ∀ b u, h b = some u → b ≠ p := fun b u e q => by rw [q, hh] at e; cases e
  have n0 : ∀ b u, H1 b = some u → b ≠ p := fun b u e q => by rw [q, h0] at e; cases e
  exact ⟨⟨fun b u e => by rw [upd_ne (nf b u e)]; exact n.ok.ef b u e, fun b u e => by rw [upd_ne (nh b u e)]; exact n.ok.eh b u e, n.ok.dj⟩, n.ex,
    fun b u e q => by rw [upd_ne (n0 b u e)]; exact n.out b u e q, fun b u e => by rw [upd_ne (n0 b u e)]; exact n.stay b u e, n.newG, n.newh⟩
theorem en_lc {α : Type} {wi : TI} {g : TG} {vs : List Nat} {xs : List α} {enc : α → D} {tgt : α → List Sl} (c : α → Bool) (f : α → D) (e : EvI K wi env (xs.map enc)) (hz : xs.length < sizeLine)
    (hg : ∀ x ∈ xs, Tg K g (wipeE env vs) (enc x) (tgt x)) (hw : ∀ (σ : L2.St) (v : V) (H : Hp) (Q : L2.St → Hp → Prop), g v (L2.wipe σ vs) H Q → g v (L2.wipe σ vs) H fun σ2 H2 => L2.wipe σ2 vs = L2.wipe σ vs ∧ Q σ2 H2)
    (ht : ∀ x ∈ xs, EvT K tt (tgt x) (c x)) (hf : ∀ x ∈ xs, c x = true → Ev K te (tgt x) (f x)) : EvN K (tLc wi g tt te vs) env (.lst ((xs.filter c).map f)) := by
  intro H0 F h H σ ok s Q k
  refine e H0 F h H σ ok s _ fun J gz F1 H1 n1 src hz1 Dl hD => ?_
  have hD0 : H Dl = none := n1.was hD
  have nr := Nx.raw (o := .lst []) n1.ok hD
  let Pv : Nat → Hp → Prop := fun i H' => ∃ G, Nx F1 h H1 G h H' ∧ Lc K H0 G h H' Dl (.lst (((xs.take i).filter c).map f))
  refine ⟨fun i m H' => m = xs.length - i ∧ i ≤ xs.length ∧ Pv i H', ⟨xs.length, by simp, Nat.zero_le _, F1, nr, lc_new n1.ok (s.nx n1) hD .nil⟩, ?_⟩
  rintro i m H' ⟨rfl, hi, G, n, lc⟩
  by_cases hlt : i < xs.length
  · have hx : xs[i]? = some xs[i] := List.getElem?_eq_getElem hlt
    have hd : (xs.map enc)[i]? = some (enc xs[i]) := by rw [List.getElem?_map, hx]; rfl
    have hmem : xs[i] ∈ xs := List.getElem_mem hlt
    obtain ⟨hgo, hy⟩ := src.go i G h H' _ n.ok (gz.mono n.ex hz1) hd
    refine .inr ⟨hgo, Pv (i + 1), fun H2 q => ⟨xs.length - (i + 1), by omega, rfl, hlt, q⟩, fun v H2 y => ?_⟩
    obtain ⟨G2, n2, r2⟩ := hy v H2 y
    have sw := ((s.nx (n1.trans (n.trans n2))).wipe vs)
    refine hw σ v H2 _ (hg _ hmem H0 G2 h H2 (L2.wipe σ vs) v n2.ok sw r2 _ fun σ2 s2 => ?_)
    have tk : xs.take (i + 1) = xs.take i ++ [xs[i]] := by rw [List.take_add_one, hx]; rfl
    refine ht _ hmem H0 G2 h H2 σ2 n2.ok s2 _ fun G3 H3 n3 => ?_
    have n13 := n.trans (n2.trans n3)
    have lc3 := lc.nx (n2.trans n3)
    cases hc : c xs[i] with
    | true =>
      show te σ2 H3 _
      refine hf _ hmem hc H0 G3 h H3 σ2 n3.ok (s2.nx n3) _ fun v4 G4 H4 n4 r4 => ?_
      have lc4 := lc3.nx n4
      obtain ⟨a1, a2, a3, us, a4, a5⟩ := id lc4
      have ln := a5.len
      have lle : us.length < sizeLine := by
        rw [ln, List.length_map]
        have := List.length_filter_le c (xs.take i)
        rw [List.length_take] at this
        omega
      refine ⟨us, a4, lle, G4, (n13.trans n4).put a1 a2 hD ⟨_, a4⟩, a1, a2, a3, _, upd_same, ?_⟩
      rw [tk, List.filter_append, List.map_append, List.filter_cons, if_pos hc]
      exact a5.append (.cons r4 .nil)
    | false =>
      show Pv (i + 1) H3
      refine ⟨G3, n13, ?_⟩
      rw [tk, List.filter_append, List.filter_cons, if_neg (by rw [hc]; exact Bool.false_ne_true), List.filter_nil, List.append_nil]
      exact lc3
  · have ei : i = xs.length := by omega
    subst ei
    rw [List.take_length] at lc
    refine .inl ⟨?_, k Dl G H' (n1.trans n) hD0 lc⟩
    have := src.stop G h H' n.ok (gz.mono n.ex hz1)
    rw [List.length_map] at this
    exact this
/-- the target a name -/
theorem en_lcn {α : Type} {wi : TI} {j : Nat} {vs : List Nat} {xs : List α} {enc : α → D} (c : α → Bool) (f : α → D) (e : EvI K wi env (xs.map enc)) (hz : xs.length < sizeLine) (hj : j ∈ vs)
    (ht : ∀ x ∈ xs, EvT K tt ((wipeE env vs).set j (Sl.val (enc x))) (c x)) (hf : ∀ x ∈ xs, c x = true → Ev K te ((wipeE env vs).set j (Sl.val (enc x))) (f x)) : EvN K (tLc wi (gName j) tt te vs) env (.lst ((xs.filter c).map f)) :=
  en_lc (tgt := fun x => (wipeE env vs).set j (Sl.val (enc x))) c f e hz (fun _ _ => tg_name) (fun σ v H Q q => ⟨wipe_set hj, q⟩) ht hf
/-- without a test -/
theorem en_map {α : Type} {wi : TI} {j : Nat} {vs : List Nat} {xs : List α} {enc : α → D} (f : α → D) (e : EvI K wi env (xs.map enc)) (hz : xs.length < sizeLine) (hj : j ∈ vs)
    (hf : ∀ x ∈ xs, Ev K te ((wipeE env vs).set j (Sl.val (enc x))) (f x)) : EvN K (tLc wi (gName j) tYes te vs) env (.lst (xs.map f)) := by
  have := en_lcn (te := te) (tt := tYes) (fun _ => true) f e hz hj (fun _ _ => et_yes) (fun x hx _ => hf x hx)
  rw [List.filter_eq_self.mpr (fun _ _ => rfl)] at this
  exact this
end
end Lw
namespace Lw
open PySem PySem.Spec PyProof.Rows L2

section
variable {K : PySem.W.Frag} {env : List Sl} {ta tb te tl : TE} {tA tr : TA} {t tt : TT} {d x y z : D}
variable {F0 h0 H0 H : Hp} {I : Iv} {gs : Gh} {σ : L2.St} {En : Ends} {tu tw : TS}

/-! ### operators -/
theorem rv_I0 {g : Int → Int → V} {i j : Int} {z : D} (hz : ∀ F, Rp K F (g i j) z) : Rv2 K (rI0 g) (.int i) (.int j) z := fun F h H vx vy ok rx ry Q k => ⟨i, j, rx.int_eq, ry.int_eq, k _ F H (Nx.refl ok) (hz F)⟩
theorem rv_I {C : Int → Int → Prop} {g : Int → Int → V} {i j : Int} {z : D} (hc : C i j) (hz : ∀ F, Rp K F (g i j) z) : Rv2 K (rI C g) (.int i) (.int j) z := fun F h H vx vy ok rx ry Q k => ⟨i, j, rx.int_eq, ry.int_eq, hc, k _ F H (Nx.refl ok) (hz F)⟩
/-- whole numbers give a whole number -/
theorem ev_ii {g : Int → Int → Int} {i j : Int} (ha : Ev K ta env (.int i)) (hb : Ev K tb env (.int j)) : Ev K (tOp (rI0 fun i j => .int (g i j)) ta tb) env (.int (g i j)) := ev_op ha hb (rv_I0 fun _ => .int _)
theorem ev_iiC {C : Int → Int → Prop} {g : Int → Int → Int} {i j : Int} (ha : Ev K ta env (.int i)) (hb : Ev K tb env (.int j)) (hc : C i j) : Ev K (tOp (rI C fun i j => .int (g i j)) ta tb) env (.int (g i j)) := ev_op ha hb (rv_I hc fun _ => .int _)
/-- whole numbers give a truth -/
theorem ev_ib {g : Int → Int → Bool} {i j : Int} (ha : Ev K ta env (.int i)) (hb : Ev K tb env (.int j)) : Ev K (tOp (rI0 fun i j => .bl (g i j)) ta tb) env (.bl (g i j)) := ev_op ha hb (rv_I0 fun _ => .bl _)
theorem ev_neg {i : Int} (ha : Ev K ta env (.int i)) : Ev K (tUn (rU fun i => .int (-i)) ta) env (.int (-i)) := fun H0 F h H σ ok s Q k =>
  ha H0 F h H σ ok s _ fun v G H' n r => ⟨i, r.int_eq, k _ G H' n (.int _)⟩
/-- number + truth -/
theorem ev_addB {i : Int} {b : Bool} (ha : Ev K ta env (.int i)) (hb : Ev K tb env (.bl b)) : Ev K (tOp (fun x y H Q => ∃ i k, x = .int i ∧ y = .bl k ∧ Q (.int (i + PyProof.Rows.b2i k)) H) ta tb) env (.int (i + PyProof.Rows.b2i b)) :=
  ev_op ha hb fun F h H vx vy ok rx ry Q k => ⟨i, b, rx.int_eq, ry.bl_eq, k _ F H (Nx.refl ok) (.int _)⟩
/-- a < b < c of numbers -/
theorem ev_chain {g g' : Int → Int → Bool} {tc : TE} {i j l : Int} (ha : Ev K ta env (.int i)) (hb : Ev K tb env (.int j)) (hc : g i j = true → Ev K tc env (.int l)) :
    Ev K (tChain (rI0 fun i j => .bl (g i j)) (rI0 fun i j => .bl (g' i j)) ta tb tc) env (.bl (g i j && g' j l)) := fun H0 F h H σ ok s Q k =>
  ha H0 F h H σ ok s _ fun vx G1 H1 n1 r1 => hb H0 G1 h H1 σ n1.ok (s.nx n1) _ fun vy G2 H2 n2 r2 => ⟨i, j, r1.int_eq, r2.int_eq, g i j, rfl, by
    cases e : g i j with
    | true =>
      rw [e] at k
      rw [if_pos rfl]
      exact hc e H0 G2 h H2 σ n2.ok ((s.nx n1).nx n2) _ fun vz G3 H3 n3 r3 => ⟨j, l, r2.int_eq, r3.int_eq, k _ G3 H3 ((n1.trans n2).trans n3) (.bl _)⟩
    | false =>
      rw [e] at k
      rw [if_neg Bool.false_ne_true]
      exact k _ G2 H2 (n1.trans n2) (.bl false)⟩

/-! ### data as the library tells them -/
mutual
inductive Py : D → PyData → Prop
  | non : Py .non .none
  | bl (b : Bool) : Py (.bl b) (.bool b)
  | int (i : Int) : Py (.int i) (.int i)
  | str (x : Str) : Py (.str x) (.str x)
  | lst {ds : List D} {es : List PyData} : PyAll ds es → Py (.lst ds) (.list es)
  | tup {ds : List D} {es : List PyData} : PyAll ds es → Py (.tup ds) (.tuple es)
inductive PyAll : List D → List PyData → Prop
  | nil : PyAll [] []
  | cons {d : D} {ds : List D} {e : PyData} {es : List PyData} : Py d e → PyAll ds es → PyAll (d :: ds) (e :: es)
end
mutual
theorem Py.dp {F : Hp} : ∀ {v : V} {d : D} {e : PyData}, Py d e → Rp K F v d → Dp K F v e
  | _, _, _, .non, r => by rw [r.non_eq]; exact .non
  | _, _, _, .bl b, r => by rw [r.bl_eq]; exact .bl b
  | _, _, _, .int i, r => by rw [r.int_eq]; exact .int i
  | _, _, _, .str x, r => by rw [r.str_eq]; exact .str x
  | _, _, _, .lst q, r => by
    obtain ⟨a, xs, rfl, hs, rr⟩ := r.lst_of
    exact .lst (.inl (.inl hs)) (PyAll.dp q rr)
  | _, _, _, .tup q, r => by
    obtain ⟨a, xs, rfl, hs, rr⟩ := r.tup_of
    exact .tup hs (PyAll.dp q rr)
theorem PyAll.dp {F : Hp} : ∀ {vs : List V} {ds : List D} {es : List PyData}, PyAll ds es → RpAll K F vs ds → DpAll K F vs es
  | _, _, _, .nil, r => by cases r; exact .nil
  | _, _, _, .cons q qs, r => by
    cases r with
    | cons r rs => exact .cons (Py.dp q r) (PyAll.dp qs rs)
end
theorem PyAll.ints : ∀ ns : List Int, PyAll (ns.map D.int) (ns.map PyData.int)
  | [] => .nil
  | n :: ns => .cons (.int n) (PyAll.ints ns)
theorem ev_eqD {p q : PyData} {b : Bool} (ha : Ev K ta env x) (hb : Ev K tb env y) (hx : Py x p) (hy : Py y q) (sx : SeqAt.shaped p = true) (sy : SeqAt.shaped q = true) (e : PyData.eqv p q = b) : Ev K (tOp (rEqD K) ta tb) env (.bl b) :=
  ev_op ha hb fun F h H vx vy ok rx ry Q k => ⟨p, q, hx.dp (rx.mono ok.ef), hy.dp (ry.mono ok.ef), sx, sy, by rw [e]; exact k _ F H (Nx.refl ok) (.bl b)⟩
theorem ev_neD {p q : PyData} {b : Bool} (ha : Ev K ta env x) (hb : Ev K tb env y) (hx : Py x p) (hy : Py y q) (sx : SeqAt.shaped p = true) (sy : SeqAt.shaped q = true) (e : PyData.eqv p q = b) : Ev K (tOp (rNeD K) ta tb) env (.bl (!b)) :=
  ev_op ha hb fun F h H vx vy ok rx ry Q k => ⟨p, q, hx.dp (rx.mono ok.ef), hy.dp (ry.mono ok.ef), sx, sy, by rw [e]; exact k _ F H (Nx.refl ok) (.bl _)⟩
def dScal : D → Option V
  | .non => some .non
  | .bl b => some (.bl b)
  | .int i => some (.int i)
  | .str x => some (.str x)
  | _ => none
theorem dScal_eq {F : Hp} {v u : V} {d : D} (e : dScal d = some u) (r : Rp K F v d) : v = u := by
  cases d with
  | non => cases e; exact r.non_eq
  | bl b => cases e; exact r.bl_eq
  | int b => cases e; exact r.int_eq
  | str b => cases e; exact r.str_eq
  | _ => cases e
theorem ev_eqS {u w : V} {b : Bool} (ha : Ev K ta env x) (hb : Ev K tb env y) (hx : dScal x = some u) (hy : dScal y = some w) (hs : scal u w = true) (e : decide (u = w) = b) : Ev K (tOp rEq ta tb) env (.bl b) :=
  ev_op ha hb fun F h H vx vy ok rx ry Q k => by
    rw [dScal_eq hx rx, dScal_eq hy ry]
    exact ⟨hs, by rw [e]; exact k _ F H (Nx.refl ok) (.bl _)⟩
theorem ev_neS {u w : V} {b : Bool} (ha : Ev K ta env x) (hb : Ev K tb env y) (hx : dScal x = some u) (hy : dScal y = some w) (hs : scal u w = true) (e : decide (u = w) = b) : Ev K (tOp rNe ta tb) env (.bl (!b)) :=
  ev_op ha hb fun F h H vx vy ok rx ry Q k => by
    rw [dScal_eq hx rx, dScal_eq hy ry]
    exact ⟨hs, by rw [e]; exact k _ F H (Nx.refl ok) (.bl _)⟩
theorem ev_eqI {i j : Int} (ha : Ev K ta env (.int i)) (hb : Ev K tb env (.int j)) : Ev K (tOp rEq ta tb) env (.bl (decide (i = j))) :=
  ev_eqS ha hb rfl rfl rfl (decide_eq_decide.mpr ⟨fun e => V.int.inj e, fun e => by rw [e]⟩)
theorem ev_neI {i j : Int} (ha : Ev K ta env (.int i)) (hb : Ev K tb env (.int j)) : Ev K (tOp rNe ta tb) env (.bl (!decide (i = j))) :=
  ev_neS ha hb rfl rfl rfl (decide_eq_decide.mpr ⟨fun e => V.int.inj e, fun e => by rw [e]⟩)
theorem ev_eqStr {i j : Str} (ha : Ev K ta env (.str i)) (hb : Ev K tb env (.str j)) : Ev K (tOp rEq ta tb) env (.bl (decide (i = j))) :=
  ev_eqS ha hb rfl rfl rfl (decide_eq_decide.mpr ⟨fun e => V.str.inj e, fun e => by rw [e]⟩)
theorem ev_neStr {i j : Str} (ha : Ev K ta env (.str i)) (hb : Ev K tb env (.str j)) : Ev K (tOp rNe ta tb) env (.bl (!decide (i = j))) :=
  ev_neS ha hb rfl rfl rfl (decide_eq_decide.mpr ⟨fun e => V.str.inj e, fun e => by rw [e]⟩)

/-! ### lists and tuples -/
theorem RpAll.atI {F : Hp} {xs : List V} {ds : List D} {i : Int} (r : RpAll K F xs ds) (e : L2.atI ds i = some d) : ∃ v, L2.atI xs i = some v ∧ Rp K F v d := by
  unfold L2.atI at e ⊢
  rw [r.len]
  cases q : ixN ds.length i with
  | none => rw [q] at e; cases e
  | some j =>
    rw [q] at e
    exact r.get e
theorem ev_ixL {ds : List D} {i : Int} (ha : EvR K ta env (.lst ds)) (hb : Ev K tb env (.int i)) (e : L2.atI ds i = some d) : Ev K (tOp (rIxL K) ta tb) env d :=
  ev_opL ha hb fun H0 F h H vx vy ok rx ry Q k => by
    obtain ⟨a, xs, rfl, hs, rr⟩ := rx.lst ok
    obtain ⟨v, hv, rv⟩ := rr.atI e
    exact ⟨a, xs, i, v, rfl, ry.int_eq, .inl (.inl hs), hv, k v F H (Nx.refl ok) rv⟩
theorem ev_ixT {ds : List D} {i : Int} (ha : Ev K ta env (.tup ds)) (hb : Ev K tb env (.int i)) (e : L2.atI ds i = some d) : Ev K (tOp (rIxT K) ta tb) env d :=
  ev_op ha hb fun F h H vx vy ok rx ry Q k => by
    obtain ⟨a, xs, rfl, hs, rr⟩ := rx.tup_of
    obtain ⟨v, hv, rv⟩ := rr.atI e
    exact ⟨a, xs, i, v, rfl, ry.int_eq, Evl.ex_t ok.ef hs, hv, k v F H (Nx.refl ok) rv⟩
abbrev rLen (K : PySem.W.Frag) : List V → Hp → VK → Prop := fun xs H Q => ∃ p ys, xs = [.ref p] ∧ (SqL K H p ys ∨ SqT K H p ys) ∧ Q (.int (ys.length : Nat)) H
theorem ev_lenL {ds : List D} (ha : EvR K ta env (.lst ds)) : Ev K (tCB (rLen K) (tCons ta tNil)) env (.int (ds.length : Nat)) := fun H0 F h H σ ok s Q k =>
  ha H0 F h H σ ok s _ fun v G H' n r => by
    obtain ⟨a, xs, rfl, hs, rr⟩ := r.lst n.ok
    exact ⟨a, xs, rfl, .inl (.inl (.inl hs)), by rw [rr.len]; exact k _ G H' n (.int _)⟩
theorem ev_lenT {ds : List D} (ha : Ev K ta env (.tup ds)) : Ev K (tCB (rLen K) (tCons ta tNil)) env (.int (ds.length : Nat)) := fun H0 F h H σ ok s Q k =>
  ha H0 F h H σ ok s _ fun v G H' n r => by
    obtain ⟨a, xs, rfl, hs, rr⟩ := r.tup_of
    exact ⟨a, xs, rfl, .inr (Evl.ex_t n.ok.ef hs), by rw [rr.len]; exact k _ G H' n (.int _)⟩
abbrev rLenS : List V → Hp → VK → Prop := fun xs H Q => ∃ z, xs = [.str z] ∧ z.length ≤ sizeLine ∧ Q (.int (z.length : Nat)) H
theorem ev_lenS {w : Str} (ha : Ev K ta env (.str w)) (hl : w.length ≤ sizeLine) : Ev K (tCB rLenS (tCons ta tNil)) env (.int (w.length : Nat)) := fun H0 F h H σ ok s Q k =>
  ha H0 F h H σ ok s _ fun v G H' n r => ⟨w, by rw [r.str_eq], hl, k _ G H' n (.int _)⟩
/-- list + list, list * number: new lists -/
theorem en_cat {ds es : List D} (ha : EvR K ta env (.lst ds)) (hb : EvR K tb env (.lst es)) (hl : ds.length + es.length ≤ sizeLine) : EvN K (tOp rCat ta tb) env (.lst (ds ++ es)) := fun H0 F h H σ ok s Q k =>
  ha H0 F h H σ ok s _ fun vx G1 H1 n1 r1 => hb H0 G1 h H1 σ n1.ok (s.nx n1) _ fun vy G2 H2 n2 r2 => by
    obtain ⟨a, xs, rfl, hs, rr⟩ := (r1.nx n2).lst n2.ok
    obtain ⟨b, ys, rfl, hs2, rr2⟩ := r2.lst n2.ok
    exact ⟨a, b, xs, ys, rfl, rfl, hs, hs2, by rw [rr.len, rr2.len]; exact hl, fun p hp => k p G2 _ ((n1.trans n2).trans (Nx.raw n2.ok hp)) ((n1.trans n2).was hp) (lc_new n2.ok ((s.nx n1).nx n2) hp (rr.append rr2))⟩
theorem en_rep {ds : List D} {m : Int} (ha : EvR K ta env (.lst ds)) (hb : Ev K tb env (.int m)) (h1 : -(2 ^ 63) ≤ m) (h2 : m < 2 ^ 63) (hl : ds.length * m.toNat ≤ sizeLine) : EvN K (tOp rRep ta tb) env (.lst (List.replicate m.toNat ds).flatten) := fun H0 F h H σ ok s Q k =>
  ha H0 F h H σ ok s _ fun vx G1 H1 n1 r1 => hb H0 G1 h H1 σ n1.ok (s.nx n1) _ fun vy G2 H2 n2 r2 => by
    obtain ⟨a, xs, rfl, hs, rr⟩ := (r1.nx n2).lst n2.ok
    exact ⟨a, m, xs, rfl, r2.int_eq, hs, h1, h2, by rw [rr.len]; exact hl, fun p hp => k p G2 _ ((n1.trans n2).trans (Nx.raw n2.ok hp)) ((n1.trans n2).was hp) (lc_new n2.ok ((s.nx n1).nx n2) hp (rr.rep _))⟩
/-- slices of lists -/
def cutD (ds : List D) (lo hi : Option Int) : List D := (ds.drop (HT.sIx ds.length 0 lo)).take (HT.sIx ds.length ds.length hi - HT.sIx ds.length 0 lo)
theorem RpAll.cut {F : Hp} {xs : List V} {ds : List D} (r : RpAll K F xs ds) (lo hi : Option Int) : RpAll K F (cutV xs lo hi) (cutD ds lo hi) := by
  unfold cutV cutD
  rw [r.len]
  exact (r.drop _).take _
theorem eo_none : EvO K tNoPart env none := fun H0 F h H σ ok s Q k => k F H (Nx.refl ok)
theorem eo_some {i : Int} (h : Ev K te env (.int i)) : EvO K (tPart te) env (some i) := fun H0 F h1 H σ ok s Q k => h H0 F h1 H σ ok s _ fun v G H' n r => ⟨i, r.int_eq, k G H' n⟩
theorem en_slL {ds : List D} {to1 to2 : TO} {lo hi : Option Int} (ha : EvR K ta env (.lst ds)) (h1 : EvO K to1 env lo) (h2 : EvO K to2 env hi) : EvN K (tSl (rSlL K) ta to1 to2) env (.lst (cutD ds lo hi)) := fun H0 F h H σ ok s Q k =>
  ha H0 F h H σ ok s _ fun vx G1 H1 n1 r1 => h1 H0 G1 h H1 σ n1.ok (s.nx n1) _ fun G2 H2 n2 => h2 H0 G2 h H2 σ n2.ok ((s.nx n1).nx n2) _ fun G3 H3 n3 => by
    obtain ⟨a, xs, rfl, hs, rr⟩ := (r1.nx (n2.trans n3)).lst n3.ok
    have n := n1.trans (n2.trans n3)
    exact ⟨a, xs, rfl, .inl (.inl hs), fun p hp => k p G3 _ (n.trans (Nx.raw n3.ok hp)) (n.was hp) (lc_new n3.ok (s.nx n) hp (rr.cut lo hi))⟩
/-- slices of tuples, not the whole -/
theorem ev_slT {ds : List D} {to1 to2 : TO} {lo hi : Option Int} (ha : Ev K ta env (.tup ds)) (h1 : EvO K to1 env lo) (h2 : EvO K to2 env hi) (hw : ¬ (HT.sIx ds.length 0 lo = 0 ∧ HT.sIx ds.length ds.length hi = ds.length)) : Ev K (tSl (rSlT K) ta to1 to2) env (.tup (cutD ds lo hi)) := fun H0 F h H σ ok s Q k =>
  ha H0 F h H σ ok s _ fun vx G1 H1 n1 r1 => h1 H0 G1 h H1 σ n1.ok (s.nx n1) _ fun G2 H2 n2 => h2 H0 G2 h H2 σ n2.ok ((s.nx n1).nx n2) _ fun G3 H3 n3 => by
    obtain ⟨a, xs, rfl, hs, rr⟩ := (r1.mono (n2.trans n3).ex).tup_of
    have n := n1.trans (n2.trans n3)
    exact ⟨a, xs, rfl, Evl.ex_t n3.ok.ef hs, by rw [rr.len]; exact hw, fun p hp => k _ _ _ (n.trans (Nx.new n3.ok hp)) (.tup (.inl (.inl upd_same)) ((rr.cut lo hi).mono (Evl.Ex.new (n3.ok.ff hp))))⟩
/-- tuple + tuple, the left one not empty -/
theorem ev_catT {ds es : List D} (ha : Ev K ta env (.tup ds)) (hb : Ev K tb env (.tup es)) (hd : ds ≠ []) (hl : ds.length + es.length ≤ sizeLine) : Ev K (tOp (rCatT K) ta tb) env (.tup (ds ++ es)) :=
  ev_op ha hb fun F h H vx vy ok rx ry Q k => by
    obtain ⟨a, xs, rfl, hs, rr⟩ := rx.tup_of
    obtain ⟨b, ys, rfl, hs2, rr2⟩ := ry.tup_of
    refine ⟨a, b, xs, ys, rfl, rfl, Evl.ex_t ok.ef hs, Evl.ex_t ok.ef hs2, fun e => hd ?_, by rw [rr.len, rr2.len]; exact hl, fun e => ?_, fun e p hp => k _ _ _ (Nx.new ok hp) (.tup (.inl (.inl upd_same)) ((rr.append rr2).mono (Evl.Ex.new (ok.ff hp))))⟩
    · subst e; cases rr; rfl
    · subst e
      cases rr2
      rw [List.append_nil] at k
      exact k _ F H (Nx.refl ok) (.tup hs rr)
/-- tuple * number -/
theorem ev_repT {ds : List D} {m : Int} (ha : Ev K ta env (.tup ds)) (hb : Ev K tb env (.int m)) (hd : ds ≠ []) (h1 : 2 ≤ m) (h2 : m ≤ 1000) (hl : ds.length ≤ 1000) : Ev K (tOp (rRepT K) ta tb) env (.tup (List.replicate m.toNat ds).flatten) :=
  ev_op ha hb fun F h H vx vy ok rx ry Q k => by
    obtain ⟨a, xs, rfl, hs, rr⟩ := rx.tup_of
    refine ⟨a, m, xs, rfl, ry.int_eq, Evl.ex_t ok.ef hs, fun e => hd ?_, h1, h2, by rw [rr.len]; exact hl, fun p hp => k _ _ _ (Nx.new ok hp) (.tup (.inl (.inl upd_same)) ((rr.rep _).mono (Evl.Ex.new (ok.ff hp))))⟩
    subst e; cases rr; rfl

/-! ### built-ins -/
theorem ev_sum {ns : List Int} (ha : EvR K ta env (.lst (dI ns))) : Ev K (tCB (rSum K) (tCons ta tNil)) env (.int ns.sum) := fun H0 F h H σ ok s Q k =>
  ha H0 F h H σ ok s _ fun v G H' n r => by
    obtain ⟨a, xs, rfl, hs, rr⟩ := r.lst n.ok
    have e := rr.ints
    subst e
    exact ⟨a, ns, rfl, .inl (.inl hs), k _ G H' n (.int _)⟩
abbrev rMax2 : List V → Hp → VK → Prop := fun xs H Q => ∃ i j, xs = [.int i, .int j] ∧ Q (.int (if j > i then j else i)) H
abbrev rMin2 : List V → Hp → VK → Prop := fun xs H Q => ∃ i j, xs = [.int i, .int j] ∧ Q (.int (if j < i then j else i)) H
theorem ev_max2 {i j : Int} (ha : Ev K ta env (.int i)) (hb : Ev K tb env (.int j)) : Ev K (tCB rMax2 (tCons ta (tCons tb tNil))) env (.int (max i j)) :=
  ev_cb (ea_cons ha (ea_cons hb ea_nil)) fun F h H vs ok r Q k => by
    cases r with
    | cons r rn => cases rn with
      | cons r2 rn =>
        cases rn; cases r; cases r2
        refine ⟨i, j, rfl, ?_⟩
        have : (if j > i then j else i) = max i j := by split <;> omega
        rw [this]
        exact k _ F H (Nx.refl ok) (.int _)
theorem ev_min2 {i j : Int} (ha : Ev K ta env (.int i)) (hb : Ev K tb env (.int j)) : Ev K (tCB rMin2 (tCons ta (tCons tb tNil))) env (.int (min i j)) :=
  ev_cb (ea_cons ha (ea_cons hb ea_nil)) fun F h H vs ok r Q k => by
    cases r with
    | cons r rn => cases rn with
      | cons r2 rn =>
        cases rn; cases r; cases r2
        refine ⟨i, j, rfl, ?_⟩
        have : (if j < i then j else i) = min i j := by split <;> omega
        rw [this]
        exact k _ F H (Nx.refl ok) (.int _)
theorem ev_bits {i : Int} (ha : Ev K ta env (.int i)) : Ev K (tBits ta) env (.int (Builtin.Int.intBits i : Nat)) := fun H0 F h H σ ok s Q k =>
  ha H0 F h H σ ok s _ fun v G H' n r => ⟨i, r.int_eq, k _ G H' n (.int _)⟩
theorem ev_countI {ns : List Int} {m : Int} (ha : EvR K ta env (.lst (dI ns))) (hb : Ev K tb env (.int m)) : Ev K (tBM K "list" (rCntI K) ta (tCons tb tNil)) env (.int (ns.count m : Nat)) := fun H0 F h H σ ok s Q k =>
  ha H0 F h H σ ok s _ fun v G H1 n1 r1 => by
    obtain ⟨a, xs, rfl, hs, rr⟩ := id (r1.lst n1.ok)
    refine ⟨.inl ⟨rfl, xs, .inl (.inl hs)⟩, hb H0 G h H1 σ n1.ok (s.nx n1) _ fun v2 G2 H2 n2 r2 => ?_⟩
    obtain ⟨a2, xs2, e2, hs2, rr2⟩ := (r1.nx n2).lst n2.ok
    cases e2
    have e := rr2.ints
    subst e
    exact ⟨a, ns, m, rfl, by rw [r2.int_eq], .inl (.inl hs2), k _ G2 H2 (n1.trans n2) (.int _)⟩

/-! ### defs that change nothing -/
/-- the promise: of arguments ds the answer d, by R -/
def pSp (K : PySem.W.Frag) (n : Nat) (R : List D → D → Prop) : Sp := fun vs H Q _ => ∃ F h ds d, Ok F h H ∧ RpAll K F vs ds ∧ ds.length = n ∧ R ds d ∧ ∀ v G H', Nx F h H G h H' → Rp K G v d → Q v H'
theorem ev_call {n : Nat} {R : List D → D → Prop} {E : XK} {ds : List D} (ha : EvA K tA env ds) (hn : ds.length = n) (hR : R ds d) : Ev K (tCall (pSp K n R) [] E tA) env d := fun H0 F h H σ ok s Q k =>
  ha H0 F h H σ ok s _ fun vs G H1 n1 r1 => by
    show pSp K n R (vs ++ []) H1 Q E
    rw [List.append_nil]
    exact ⟨G, h, ds, d, n1.ok, r1, hn, hR, fun v G2 H2 n2 r2 => k v G2 H2 (n1.trans n2) r2⟩
theorem sat_start {F h H : Hp} {vs : List V} {ds : List D} {N ps : List Str} (ok : Ok F h H) (r : RpAll K F vs ds) (hn : ds.length = ps.length) (hN : ps.length ≤ N.length) : Sat K H F h H (ds.map Sl.val ++ List.replicate (N.length - ps.length) Sl.un) (L2.start N vs) := by
  have lv := r.len
  unfold L2.start
  refine ⟨by simp; omega, fun b o e => ⟨o, e⟩, fun i d e => ?_, fun i d e => ?_, fun i j d e a q1 _ _ _ => ?_⟩
  · by_cases hi : i < ds.length
    · rw [List.getElem?_append_left (by rw [List.length_map]; exact hi), List.getElem?_map] at e
      cases q : ds[i]? with
      | none => rw [q] at e; cases e
      | some x =>
        rw [q] at e
        cases e
        obtain ⟨v, hv, rv⟩ := r.get q
        refine ⟨v, ?_, rv⟩
        rw [List.getElem?_append_left (by rw [List.length_map, lv]; exact hi), List.getElem?_map, hv]
        rfl
    · rw [List.getElem?_append_right (by rw [List.length_map]; omega), List.getElem?_replicate] at e
      split at e <;> cases e
  all_goals
    first
      | (have e := e; exact absurd e (noOwn i d))
      | exact absurd q1 (noOwn i d)
where
  noOwn {ds : List D} {m : Nat} (i : Nat) (d : D) : (ds.map Sl.val ++ List.replicate m Sl.un)[i]? ≠ some (Sl.own d) := fun e => by
    by_cases hi : i < ds.length
    · rw [List.getElem?_append_left (by rw [List.length_map]; exact hi), List.getElem?_map] at e
      cases q : ds[i]? with
      | none => rw [q] at e; cases e
      | some x => rw [q] at e; cases e
    · rw [List.getElem?_append_right (by rw [List.length_map]; omega), List.getElem?_replicate] at e
      split at e <;> cases e
section
variable {P : Program} {w : World} {mg : Str → Option Value} {base : Heap}
theorem ok_pure {x qual : Str} {st : Stmt} {f : Addr} {fd : FuncData} {N ps : List Str} {k : Nat} {R : List D → D → Prop} (F : Fun K x qual st f fd) (S : FnScope N ps (defScope st))
    (hbody : ∀ (cdv : Value) (A : Around) (outer : List Env) (s : Shared) (H : Hp) (E : XK), Room k (A.deeper (envOfC qual (defScope st) s.heap.objs.size f cdv)) →
      ∃ t, PSs (cxOf L2.CX0 P w K mg base N qual (defScope st) f cdv A outer s H E).nox (defBody st) t ∧
        ∀ (F0 h0 : Hp) (σ : L2.St) (ds : List D) (d : D) (Q : VK), R ds d → ds.length = ps.length → State K F0 h0 H (Iv.eq h0) (ds.map Sl.val ++ List.replicate (N.length - ps.length) Sl.un) Gh.nil σ H → Done K F0 h0 H (Iv.eq h0) d Q → t { nx := fun _ H' => Q .non H', rt := Q } σ H) :
    FnOk P w K mg base L2.CX0 (k + 1) f fd ps (pSp K ps.length R) := by
  have hN : ps.length ≤ N.length := by have := congrArg List.length S.pre; rw [List.length_take] at this; omega
  refine F.ok S (fun vs H Q E h => ?_) (fun cdv A outer s H vs Q E hr h => ?_)
  · obtain ⟨F, hh, ds, d, ok, r, hn, _⟩ := h
    rw [r.len, hn]
  · obtain ⟨F, hh, ds, d, ok, r, hn, hR, kk⟩ := h
    obtain ⟨t, ht, hq⟩ := hbody cdv A outer s H E hr
    refine ⟨t, ht, hq F hh _ ds d Q hR hn ⟨F, hh, Nx.refl ok, rfl, sat_start ok r hn hN, trivial⟩ fun v G h' H' n e rr => ?_⟩
    have e : h' = hh := e
    subst e
    exact kk v G H' n rr
end
end
end Lw
namespace Lw
open PySem PySem.Spec PyProof.Rows L2

/-- a def that may be called by its name -/
structure Cal (P : Program) (w : World) (K : PySem.W.Frag) (mg : Str → Option Value) (base : Heap) (k : Nat) (x : Str) (sp : Sp) : Prop where
  ex : ∃ (f : Addr) (fd : FuncData) (ps : List Str), FnOk P w K mg base L2.CX0 k f fd ps sp ∧ mg x = some (.ref f) ∧ PySem.W.keepIn K (.ref f) = true ∧ Binds K fd ps []
section
variable {X : Cx} {k j : Nat} {C : Addr} {x m : Str} {sp : Sp} {p pos apos : Pos} {e o : Expr} {es : List Expr} {ta : TE} {t : TA}
theorem pe_cal (c : Cal X.prog X.w X.K X.mg X.base k x sp) (hr : Room j X.A) (hk : k ≤ j) (hg : Gl X x) (ha : PA X (e :: es) t)
    (he : starEach (e :: es) X.env = (false, eval e X.env) :: starEach es X.env := by rfl) (hdb : (x == ("__debug__" : Str)) = false := by decide)
    (hpl : (backTo pos (starEach es X.env)).any (·.1) = false := by rfl) :
    PE X (.Call (.Name x p) (e :: es) [] pos) (tCall sp [] E0 t) := by
  obtain ⟨f, fd, ps, F, hm, kp, b⟩ := c.ex
  exact pe_call F (hr.mono hk) hg hm kp b .nil pass0 ha hdb he hpl
/-- what a name of the module tells -/
theorem pe_gc2 {v : V} (hg : Gl X x) (h : ∃ u, X.mg x = some u ∧ RelV v u) (hd : (x == ("__debug__" : Str)) = false := by decide) : PE X (.Name x pos) (tC v) := by
  obtain ⟨u, hm, r⟩ := h
  exact pe_glob hg hm r hd
end
section
variable {P : Program} {w : World} {K : PySem.W.Frag} {mg : Str → Option Value} {base : Heap}
theorem Cal.mk' {x : Str} {st : Stmt} {f : Addr} {fd : FuncData} {ps : List Str} {k : Nat} {sp : Sp} (F : Fun K x x st f fd) (G : FnOk P w K mg base L2.CX0 k f fd ps sp) (hm : mg x = some (.ref f)) (b : Binds K fd ps []) : Cal P w K mg base k x sp :=
  ⟨f, fd, ps, G, hm, F.kp, b⟩
end
end Lw
namespace Lw
open PySem PySem.Spec PyProof.Rows L2

theorem set_dict {X : Cx} (hu : X.A.units + 1 < cLine) : PSet X (fun o i v H Q => ∃ a H', o = .ref a ∧ DPut H a i v H' ∧ Q H') := by
  intro pins s σ H o i v ov iv u Q I ro ri rv h
  obtain ⟨a, H', rfl, g, q⟩ := h
  obtain rfl : ov = Value.ref a := ro
  exact d_setItem hu I g ri rv fun s' I' => ⟨H', I', q⟩
theorem divW_ok {i j : Int} (h : 0 < j) (hb : j < 2 ^ 60) : CDivW i j := wide_div (b := 60) h (by omega) (by decide) (by decide)
theorem div2_ok {i : Int} : CDivW i 2 := divW_ok (by decide) (by decide)

/-- the promise of a def that turns what is one's own: at a what is wanted ahead, what is given behind -/
def iSp (K : PySem.W.Frag) {A : Type} (n : Nat) (I J : A → Iv) (Pre : A → List D → Prop) (R : A → D → Prop) : Sp := fun vs H Q _ => ∃ (a : A) (F h : Hp) (ds : List D), Ok F h H ∧ (I a).p F h ∧ RpAll K F vs ds ∧ ds.length = n ∧ Pre a ds ∧
  ∀ v d G h' H', Nx F h H G h' H' → (J a).p G h' → R a d → Rp K G v d → Q v H'

/-! ### the tape -/
def tpD (c : Addr) (spot left : Int) : List (Key × V) := [(.inr "cells", .ref c), (.inr "spot", .int spot), (.inr "left", .int left)]
theorem k_cs : ¬ ((Sum.inr ("cells" : Str) : Key) = .inr "spot") := by decide +kernel
theorem k_cl : ¬ ((Sum.inr ("cells" : Str) : Key) = .inr "left") := by decide +kernel
theorem k_sl : ¬ ((Sum.inr ("spot" : Str) : Key) = .inr "left") := by decide +kernel
theorem k_ls : ¬ ((Sum.inr ("left" : Str) : Key) = .inr "spot") := by decide +kernel
theorem tp_cells (c : Addr) (spot left : Int) : valV (tpD c spot left) (.inr "cells") = some (.ref c) := valV_pos rfl
theorem tp_spot (c : Addr) (spot left : Int) : valV (tpD c spot left) (.inr "spot") = some (.int spot) := (valV_neg k_cs).trans (valV_pos rfl)
theorem tp_left (c : Addr) (spot left : Int) : valV (tpD c spot left) (.inr "left") = some (.int left) := (valV_neg k_cl).trans ((valV_neg k_sl).trans (valV_pos rfl))
theorem tp_pspot (c : Addr) (spot left x : Int) : putK (tpD c spot left) (.inr "spot") (.int x) = tpD c x left := by
  unfold putK tpD
  rw [if_pos (by simp)]
  have a1 : ¬ (("cells" : Str) = "spot") := by decide +kernel
  have a2 : ¬ (("left" : Str) = "spot") := by decide +kernel
  simp [a1, a2]
theorem tp_pleft (c : Addr) (spot left x : Int) : putK (tpD c spot left) (.inr "left") (.int x) = tpD c spot x := by
  unfold putK tpD
  rw [if_pos (by simp)]
  have a1 : ¬ (("cells" : Str) = "left") := by decide +kernel
  have a2 : ¬ (("spot" : Str) = "left") := by decide +kernel
  simp [a1, a2]
theorem dg_cells {H : Hp} {t c : Addr} {sp lf : Int} (h : H t = some (.dK (tpD c sp lf))) : DGet H t (.str "cells") (some (.ref c)) := by
  have := DGet.k (k := Sum.inr "cells") h
  rw [tp_cells] at this; exact this
theorem dg_spot {H : Hp} {t c : Addr} {sp lf : Int} (h : H t = some (.dK (tpD c sp lf))) : DGet H t (.str "spot") (some (.int sp)) := by
  have := DGet.k (k := Sum.inr "spot") h
  rw [tp_spot] at this; exact this
theorem dg_left {H : Hp} {t c : Addr} {sp lf : Int} (h : H t = some (.dK (tpD c sp lf))) : DGet H t (.str "left") (some (.int lf)) := by
  have := DGet.k (k := Sum.inr "left") h
  rw [tp_left] at this; exact this
theorem dp_spot {H : Hp} {t c : Addr} {sp lf x : Int} (h : H t = some (.dK (tpD c sp lf))) : DPut H t (.str "spot") (.int x) (upd H t (.dK (tpD c x lf))) := by
  have := DPut.k (k := Sum.inr "spot") (v := .int x) h (show 3 < sizeLine by rw [sizeLine_eq]; decide)
  rw [tp_pspot] at this; exact this
theorem dp_left {H : Hp} {t c : Addr} {sp lf x : Int} (h : H t = some (.dK (tpD c sp lf))) : DPut H t (.str "left") (.int x) (upd H t (.dK (tpD c sp x))) := by
  have := DPut.k (k := Sum.inr "left") (v := .int x) h (show 3 < sizeLine by rw [sizeLine_eq]; decide)
  rw [tp_pleft] at this; exact this
/-- the heap of one object -/
def one (t : Addr) (o : HO) : Hp := fun b => if b = t then some o else none
theorem one_same {t : Addr} {o : HO} : one t o t = some o := if_pos rfl
theorem one_ne {t b : Addr} {o : HO} (h : b ≠ t) : one t o b = none := if_neg h
/-- the law's tape stands at t, its spot at most m -/
def TapeP (t : Addr) (m : Nat) (F h : Hp) : Prop := ∃ (c : Addr) (cells : List Int) (spot left : Int), h = one t (.dK (tpD c spot left)) ∧ F c = some (.lst (cells.map V.int)) ∧ 0 < cells.length ∧ cells.length ≤ 63 ∧ 0 ≤ spot ∧ spot ≤ m ∧ 0 ≤ left
def Iv.tape (t : Addr) (m : Nat) : Iv := ⟨TapeP t m, fun e _ ⟨c, cells, spot, left, h1, h2, h3⟩ => ⟨c, cells, spot, left, h1, e _ _ h2, h3⟩⟩
theorem TapeP.le {t : Addr} {m n : Nat} {F h : Hp} (q : TapeP t m F h) (l : m ≤ n) : TapeP t n F h := by
  obtain ⟨c, cells, spot, left, h1, h2, h3, h4, h5, h6, h7⟩ := q
  exact ⟨c, cells, spot, left, h1, h2, h3, h4, h5, by omega, h7⟩
/-- how far a tape may go -/
abbrev tapeEnd : Nat := 1000000000
theorem tp_merge (c : Addr) (sp lf : Int) : mergeK [] (tpD c sp lf) = tpD c sp lf := by
  have a1 : ¬ (("cells" : Str) = "spot") := by decide +kernel
  have a2 : ¬ (("cells" : Str) = "left") := by decide +kernel
  have a3 : ¬ (("spot" : Str) = "left") := by decide +kernel
  show putK (putK (putK [] (Sum.inr ("cells" : Str) : Key) (V.ref c)) (Sum.inr ("spot" : Str)) (V.int sp)) (Sum.inr ("left" : Str)) (V.int lf) = _
  simp [putK, a1, a2, a3, tpD]
/-- begun's promise -/
def bSp (K : PySem.W.Frag) : Sp := fun vs H Q _ => ∃ (a : Addr) (ns : List Int), vs = [.ref a] ∧ SqL K H a (ns.map V.int) ∧ ns.length ≤ 63 ∧
  ∀ (t c : Addr) (cells : List Int) (H' : Hp), H t = none → H c = none → c ≠ t → Ex H H' → H' t = some (.dK (tpD c 0 0)) → H' c = some (.lst (cells.map V.int)) → 0 < cells.length → cells.length ≤ 63 → Q (.ref t) H'
/-- the law's state behind begun -/
theorem law_start {K : PySem.W.Frag} {H H' : Hp} {t c : Addr} {cells : List Int} (ht : H t = none) (hc : H c = none) (hct : c ≠ t) (ex : Ex H H') (h1 : H' t = some (.dK (tpD c 0 0))) (h2 : H' c = some (.lst (cells.map V.int))) (l0 : 0 < cells.length) (l1 : cells.length ≤ 63) :
    ∃ F h, Ok F h H' ∧ TapeP t 0 F h ∧ Ex H F := by
  refine ⟨upd H c (.lst (cells.map V.int)), one t (.dK (tpD c 0 0)), ⟨fun b u e => ?_, fun b u e => ?_, fun b u e => ?_⟩, ⟨c, cells, 0, 0, rfl, upd_same, l0, l1, by omega, by omega, by omega⟩, Evl.Ex.new hc⟩
  · by_cases hb : b = c
    · subst hb; rw [upd_same] at e; rw [← e]; exact h2
    · rw [upd_ne hb] at e; exact ex b u e
  · by_cases hb : b = t
    · subst hb; rw [one_same] at e; rw [← e]; exact h1
    · rw [one_ne hb] at e; cases e
  · by_cases hb : b = t
    · subst hb; rw [upd_ne hct.symm]; exact ht
    · rw [one_ne hb] at e; cases e
/-- pick's promise -/
structure PickA where
  t : Addr
  m : Nat
  xs : List D
def pickSp (K : PySem.W.Frag) : Sp := iSp K 2 (fun a : PickA => Iv.tape a.t a.m) (fun a => Iv.tape a.t (a.m + 1)) (fun a ds => ds = [.raw (.ref a.t), .lst a.xs] ∧ a.xs ≠ [] ∧ a.xs.length ≤ sizeLine ∧ a.m < tapeEnd) (fun a d => d ∈ a.xs)
/-- draw's promise -/
def dSp : Sp := fun vs H Q _ => ∃ (F h : Hp) (t : Addr) (m : Nat) (many : Int), Ok F h H ∧ TapeP t m F h ∧ vs = [.ref t, .int many] ∧ 0 < many ∧ many < 2 ^ 60 ∧ m < tapeEnd ∧
  ∀ (r : Int) (h' H' : Hp), 0 ≤ r → r < many → Nx F h H F h' H' → TapeP t (m + 1) F h' → Q (.int r) H'
/-- a step that turns the tape alone (and makes things that nobody keeps) -/
theorem Nx.turn {F h H h' H' : Hp} {t : Addr} {o o' : HO} (ok : Ok F h H) (eh : h = one t o) (eh' : h' = one t o') (hk : ∀ b u, b ≠ t → H b = some u → H' b = some u) (ht : H' t = some o') : Nx F h H F h' H' := by
  subst eh eh'
  have hF : F t = none := ok.dj t o one_same
  have nF : ∀ b u, F b = some u → b ≠ t := fun b u e q => by rw [q, hF] at e; cases e
  refine ⟨⟨fun b u e => hk b u (nF b u e) (ok.ef b u e), fun b u e => ?_, fun b u e => ?_⟩, Evl.Ex.refl _, fun b u e n => hk b u (fun q => ?_) e, fun b u e => ?_, fun b u e n => (by rw [e] at n; cases n), fun b u e n => ?_⟩
  · by_cases hb : b = t
    · subst hb; rw [one_same] at e; rw [← e]; exact ht
    · rw [one_ne hb] at e; cases e
  · by_cases hb : b = t
    · subst hb; exact hF
    · rw [one_ne hb] at e; cases e
  · subst q; rw [one_same] at n; cases n
  · by_cases hb : b = t
    · subst hb; exact ⟨_, ht⟩
    · exact ⟨u, hk b u hb e⟩
  · by_cases hb : b = t
    · subst hb; rw [one_same] at n; cases n
    · rw [one_ne hb] at e; cases e

/-! ### readings that turn what is one's own -/
def EvX (K : PySem.W.Frag) (I J : Iv) (te : TE) (env : List Sl) (P : D → Prop) : Prop :=
  ∀ (H0 F h H : Hp) (σ : L2.St), Ok F h H → I.p F h → Sat K H0 F h H env σ → ∀ Q : VK, (∀ v d G h' H', Nx F h H G h' H' → J.p G h' → P d → Rp K G v d → Q v H') → te σ H Q
def EvXA (K : PySem.W.Frag) (I J : Iv) (ta : TA) (env : List Sl) (P : List D → Prop) : Prop :=
  ∀ (H0 F h H : Hp) (σ : L2.St), Ok F h H → I.p F h → Sat K H0 F h H env σ → ∀ Q : List V → Hp → Prop, (∀ vs ds G h' H', Nx F h H G h' H' → J.p G h' → P ds → RpAll K G vs ds → Q vs H') → ta σ H Q
def EvXT (K : PySem.W.Frag) (I J : Iv) (tt : TT) (env : List Sl) (P : Bool → Prop) : Prop :=
  ∀ (H0 F h H : Hp) (σ : L2.St), Ok F h H → I.p F h → Sat K H0 F h H env σ → ∀ Q : Bool → Hp → Prop, (∀ b G h' H', Nx F h H G h' H' → J.p G h' → P b → Q b H') → tt σ H Q
section
variable {K : PySem.W.Frag} {env : List Sl} {ta tb te tl : TE} {tA tr : TA} {t tt u : TT} {d x y z : D} {P P1 P2 : D → Prop} {I J L : Iv}
variable {F0 h0 H0 H : Hp} {gs : Gh} {σ : L2.St} {En : Ends} {tu tw : TS}
theorem Ev.im (h : Ev K te env d) : EvX K I I te env (· = d) := fun H0 F hh H σ ok hI s Q k => h H0 F hh H σ ok s Q fun v G H' n r => k v d G hh H' n (I.mono n.ex n.ok.dj hI) rfl r
theorem EvT.im {b : Bool} (h : EvT K tt env b) : EvXT K I I tt env (· = b) := fun H0 F hh H σ ok hI s Q k => h H0 F hh H σ ok s Q fun G H' n => k b G hh H' n (I.mono n.ex n.ok.dj hI) rfl
theorem EvX.imp {P' : D → Prop} (h : EvX K I J te env P) (q : ∀ d, P d → P' d) : EvX K I J te env P' := fun H0 F hh H σ ok hI s Q k => h H0 F hh H σ ok hI s Q fun v d G h' H' n j p r => k v d G h' H' n j (q d p) r
theorem ex_op {r : R2} {f : D → D → D} (ha : EvX K I J ta env P1) (hb : ∀ d1, P1 d1 → EvX K J L tb env P2) (hr : ∀ d1 d2, P1 d1 → P2 d2 → Rv2 K r d1 d2 (f d1 d2)) : EvX K I L (tOp r ta tb) env (fun d => ∃ d1 d2, P1 d1 ∧ P2 d2 ∧ d = f d1 d2) :=
  fun H0 F hh H σ ok hI s Q k => ha H0 F hh H σ ok hI s _ fun vx d1 G1 h1 H1 n1 j1 p1 r1 => hb d1 p1 H0 G1 h1 H1 σ n1.ok j1 (s.nx n1) _ fun vy d2 G2 h2 H2 n2 j2 p2 r2 =>
    hr d1 d2 p1 p2 G2 h2 H2 vx vy n2.ok (r1.mono n2.ex) r2 Q fun v G H' n3 r3 => k v _ G h2 H' ((n1.trans n2).trans n3) (L.mono n3.ex n3.ok.dj j2) ⟨d1, d2, p1, p2, rfl⟩ r3
/-- numbers -/
def PI (A : Int → Prop) (d : D) : Prop := ∃ i, d = .int i ∧ A i
theorem ex_ii {g : Int → Int → Int} {A B : Int → Prop} (ha : EvX K I J ta env (PI A)) (hb : EvX K J L tb env (PI B)) : EvX K I L (tOp (rI0 fun i j => .int (g i j)) ta tb) env (PI fun z => ∃ i j, A i ∧ B j ∧ z = g i j) :=
  fun H0 F hh H σ ok hI s Q k => ha H0 F hh H σ ok hI s _ fun vx d1 G1 h1 H1 n1 j1 ⟨i, e1, p1⟩ r1 => hb H0 G1 h1 H1 σ n1.ok j1 (s.nx n1) _ fun vy d2 G2 h2 H2 n2 j2 ⟨j, e2, p2⟩ r2 => by
    subst e1 e2
    exact ⟨i, j, r1.int_eq, r2.int_eq, k _ _ G2 h2 H2 (n1.trans n2) j2 ⟨g i j, rfl, i, j, p1, p2, rfl⟩ (.int _)⟩
theorem ex_iiC {C : Int → Int → Prop} {g : Int → Int → Int} {A B : Int → Prop} (ha : EvX K I J ta env (PI A)) (hb : EvX K J L tb env (PI B)) (hC : ∀ i j, A i → B j → C i j) : EvX K I L (tOp (rI C fun i j => .int (g i j)) ta tb) env (PI fun z => ∃ i j, A i ∧ B j ∧ z = g i j) :=
  fun H0 F hh H σ ok hI s Q k => ha H0 F hh H σ ok hI s _ fun vx d1 G1 h1 H1 n1 j1 ⟨i, e1, p1⟩ r1 => hb H0 G1 h1 H1 σ n1.ok j1 (s.nx n1) _ fun vy d2 G2 h2 H2 n2 j2 ⟨j, e2, p2⟩ r2 => by
    subst e1 e2
    exact ⟨i, j, r1.int_eq, r2.int_eq, hC i j p1 p2, k _ _ G2 h2 H2 (n1.trans n2) j2 ⟨g i j, rfl, i, j, p1, p2, rfl⟩ (.int _)⟩
theorem ex_ib {g : Int → Int → Bool} {A B : Int → Prop} (ha : EvX K I J ta env (PI A)) (hb : EvX K J L tb env (PI B)) : EvX K I L (tOp (rI0 fun i j => .bl (g i j)) ta tb) env (fun z => ∃ i j, A i ∧ B j ∧ z = .bl (g i j)) :=
  fun H0 F hh H σ ok hI s Q k => ha H0 F hh H σ ok hI s _ fun vx d1 G1 h1 H1 n1 j1 ⟨i, e1, p1⟩ r1 => hb H0 G1 h1 H1 σ n1.ok j1 (s.nx n1) _ fun vy d2 G2 h2 H2 n2 j2 ⟨j, e2, p2⟩ r2 => by
    subst e1 e2
    exact ⟨i, j, r1.int_eq, r2.int_eq, k _ _ G2 h2 H2 (n1.trans n2) j2 ⟨i, j, p1, p2, rfl⟩ (.bl _)⟩
/-- numbers alike -/
theorem ex_eqI {A B : Int → Prop} (ha : EvX K I J ta env (PI A)) (hb : EvX K J L tb env (PI B)) : EvX K I L (tOp rEq ta tb) env (fun z => ∃ i j, A i ∧ B j ∧ z = .bl (decide (i = j))) :=
  fun H0 F hh H σ ok hI s Q k => ha H0 F hh H σ ok hI s _ fun vx d1 G1 h1 H1 n1 j1 ⟨i, e1, p1⟩ r1 => hb H0 G1 h1 H1 σ n1.ok j1 (s.nx n1) _ fun vy d2 G2 h2 H2 n2 j2 ⟨j, e2, p2⟩ r2 => by
    subst e1 e2
    rw [r1.int_eq, r2.int_eq]
    refine ⟨rfl, ?_⟩
    have e : decide (V.int i = V.int j) = decide (i = j) := decide_eq_decide.mpr ⟨fun e => V.int.inj e, fun e => by rw [e]⟩
    rw [e]
    exact k _ _ G2 h2 H2 (n1.trans n2) j2 ⟨i, j, p1, p2, rfl⟩ (.bl _)
theorem ev_xi {i : Int} (h : Ev K te env (.int i)) : EvX K I I te env (PI (· = i)) := h.im.imp fun d e => ⟨i, e, rfl⟩
theorem exa_nil : EvXA K I I tNil env (· = []) := fun H0 F h H σ ok hI s Q k => k [] [] F h H (Nx.refl ok) hI rfl .nil
theorem exa_cons {PA : List D → Prop} (ha : EvX K I J ta env P1) (hr : EvXA K J L tr env PA) : EvXA K I L (tCons ta tr) env (fun ds => ∃ d1 dr, P1 d1 ∧ PA dr ∧ ds = d1 :: dr) :=
  fun H0 F hh H σ ok hI s Q k => ha H0 F hh H σ ok hI s _ fun vx d1 G1 h1 H1 n1 j1 p1 r1 => hr H0 G1 h1 H1 σ n1.ok j1 (s.nx n1) _ fun vs ds G2 h2 H2 n2 j2 p2 r2 =>
    k (vx :: vs) (d1 :: ds) G2 h2 H2 (n1.trans n2) j2 ⟨d1, ds, p1, p2, rfl⟩ (.cons (r1.mono n2.ex) r2)
theorem EvA.im {ds : List D} (h : EvA K tA env ds) : EvXA K I I tA env (· = ds) := fun H0 F hh H σ ok hI s Q k => h H0 F hh H σ ok s Q fun v G H' n r => k v ds G hh H' n (I.mono n.ex n.ok.dj hI) rfl r
theorem ex_tup {PA : List D → Prop} (ha : EvXA K I J tA env PA) (hl : ∀ ds, PA ds → ds.length ≤ sizeLine) : EvX K I J (tTup tA) env (fun d => ∃ ds, PA ds ∧ d = .tup ds) :=
  fun H0 F hh H σ ok hI s Q k => ha H0 F hh H σ ok hI s _ fun vs ds G1 h1 H1 n1 j1 p1 r1 => ⟨by rw [r1.len]; exact hl ds p1, fun p hp =>
    k (.ref p) _ _ h1 _ (n1.trans (Nx.new n1.ok hp)) (J.mono (Evl.Ex.new (n1.ok.ff hp)) (Nx.new n1.ok hp).ok.dj j1) ⟨ds, p1, rfl⟩ (.tup (.inl (.inl upd_same)) (r1.mono (Evl.Ex.new (n1.ok.ff hp))))⟩
theorem ex_lst {PA : List D → Prop} (ha : EvXA K I J tA env PA) (hl : ∀ ds, PA ds → ds.length ≤ sizeLine) : EvX K I J (tLst tA) env (fun d => ∃ ds, PA ds ∧ d = .lst ds) :=
  fun H0 F hh H σ ok hI s Q k => ha H0 F hh H σ ok hI s _ fun vs ds G1 h1 H1 n1 j1 p1 r1 => ⟨by rw [r1.len]; exact hl ds p1, fun p hp =>
    k (.ref p) _ _ h1 _ (n1.trans (Nx.new n1.ok hp)) (J.mono (Evl.Ex.new (n1.ok.ff hp)) (Nx.new n1.ok hp).ok.dj j1) ⟨ds, p1, rfl⟩ (.lst upd_same (r1.mono (Evl.Ex.new (n1.ok.ff hp))))⟩
theorem ex_if {PB : Bool → Prop} (h : EvXT K I J tt env PB) (h1 : PB true → EvX K J L ta env P) (h2 : PB false → EvX K J L tb env P) : EvX K I L (tIf tt ta tb) env P := fun H0 F hh H σ ok hI s Q k =>
  h H0 F hh H σ ok hI s _ fun b G1 g1 H1 n1 j1 p1 => by
    cases b with
    | true =>
      rw [if_pos rfl]
      exact h1 p1 H0 G1 g1 H1 σ n1.ok j1 (s.nx n1) Q fun v d G h' H' n j p r => k v d G h' H' (n1.trans n) j p r
    | false =>
      rw [if_neg Bool.false_ne_true]
      exact h2 p1 H0 G1 g1 H1 σ n1.ok j1 (s.nx n1) Q fun v d G h' H' n j p r => k v d G h' H' (n1.trans n) j p r
theorem ext_test {PB : Bool → Prop} (h : EvX K I J te env (fun d => ∃ b, d = .bl b ∧ PB b)) : EvXT K I J (tTest te) env PB := fun H0 F hh H σ ok hI s Q k =>
  h H0 F hh H σ ok hI s _ fun v d G h' H' n j ⟨b, e, p⟩ r => by
    subst e
    exact ⟨b, r.bl_eq, k b G h' H' n j p⟩
/-- and, the second one asked where the first is so -/
theorem ext_and {A B : Bool → Prop} (h1 : EvXT K I J tt env A) (h2 : A true → EvXT K J L u env B) (hJ : ∀ F h, J.p F h → L.p F h) : EvXT K I L (tAnd tt u) env (fun c => (A true ∧ B c) ∨ (A false ∧ c = false)) := fun H0 F hh H σ ok hI s Q k =>
  h1 H0 F hh H σ ok hI s _ fun b G1 g1 H1 n1 j1 p1 => by
    cases b with
    | true =>
      rw [if_pos rfl]
      exact h2 p1 H0 G1 g1 H1 σ n1.ok j1 (s.nx n1) Q fun b G h' H' n j p => k b G h' H' (n1.trans n) j (.inl ⟨p1, p⟩)
    | false =>
      rw [if_neg Bool.false_ne_true]
      exact k false G1 g1 H1 n1 (hJ _ _ j1) (.inr ⟨p1, rfl⟩)

/-! ### statements -/
theorem s_setX {i : Nat} (S : State K F0 h0 H0 I env gs σ H) (e : EvX K I J te env P) (k : ∀ d σ' H', P d → State K F0 h0 H0 J (env.set i (Sl.val d)) gs σ' H' → En.nx σ' H') : tAsg te (gName i) En σ H := by
  obtain ⟨F, h, n0, hI, s, hg⟩ := S
  exact e H0 F h H σ n0.ok hI s _ fun v d G h' H' n j p r => k d _ H' p ⟨G, h', n0.trans n, j, (s.nx n).set r i, gs.mono n.ex hg⟩
theorem s_retX (S : State K F0 h0 H0 I env gs σ H) (e : EvX K I J te env P) (k : ∀ d, P d → Done K F0 h0 H0 J d En.rt) : tRet te En σ H := by
  obtain ⟨F, h, n0, hI, s, hg⟩ := S
  exact e H0 F h H σ n0.ok hI s _ fun v d G h' H' n j p r => k d p v G h' H' (n0.trans n) j r
theorem s_ifX {PB : Bool → Prop} (S : State K F0 h0 H0 I env gs σ H) (e : EvXT K I J t env PB) (k1 : PB true → ∀ H', State K F0 h0 H0 J env gs σ H' → tu En σ H') (k2 : PB false → ∀ H', State K F0 h0 H0 J env gs σ H' → tw En σ H') : tIfS t tu tw En σ H := by
  obtain ⟨F, h, n0, hI, s, hg⟩ := S
  refine e H0 F h H σ n0.ok hI s _ fun b G h' H' n j p => ?_
  have S' : State K F0 h0 H0 J env gs σ H' := ⟨G, h', n0.trans n, j, s.nx n, gs.mono n.ex hg⟩
  cases b with
  | true => rw [if_pos rfl]; exact k1 p H' S'
  | false => rw [if_neg Bool.false_ne_true]; exact k2 p H' S'
theorem s_asgX {g : TG} {env' : D → List Sl} (S : State K F0 h0 H0 I env gs σ H) (e : EvX K I J te env P) (hg : ∀ d, P d → Tg K g env d (env' d)) (k : ∀ d σ' H', P d → State K F0 h0 H0 J (env' d) gs σ' H' → En.nx σ' H') : tAsg te g En σ H := by
  obtain ⟨F, h, n0, hI, s, hgs⟩ := S
  exact e H0 F h H σ n0.ok hI s _ fun v d G h' H' n j p r => hg d p H0 G h' H' σ v n.ok (s.nx n) r _ fun σ' s' => k d σ' H' p ⟨G, h', n0.trans n, j, s', gs.mono n.ex hgs⟩
/-- a, b = x, y of local names, in turn -/
theorem s_parX {i j : Nat} {PA : List D → Prop} (S : State K F0 h0 H0 I env gs σ H) (e : EvXA K I J tA env PA) (h2 : ∀ ds, PA ds → ds.length = 2) (k : ∀ d1 d2 σ' H', PA [d1, d2] → State K F0 h0 H0 J ((env.set i (Sl.val d1)).set j (Sl.val d2)) gs σ' H' → En.nx σ' H') : tPar i j tA En σ H := by
  obtain ⟨F, h, n0, hI, s, hg⟩ := S
  refine e H0 F h H σ n0.ok hI s _ fun vs ds G h' H' n jj p r => ?_
  have l := h2 ds p
  match ds, l, r with
  | [d1, d2], _, .cons r1 (.cons r2 .nil) => exact ⟨_, _, rfl, k d1 d2 _ H' p ⟨G, h', n0.trans n, jj, ((s.nx n).set r1 i).set r2 j, gs.mono n.ex hg⟩⟩

/-! ### defs that turn the tape -/
theorem ex_call {A : Type} {n : Nat} {I' J' : A → Iv} {Pre : A → List D → Prop} {R : A → D → Prop} {E : XK} {PA : List D → Prop} (a : A) (ha : EvXA K I (I' a) tA env PA) (hp : ∀ ds, PA ds → ds.length = n ∧ Pre a ds) : EvX K I (J' a) (tCall (iSp K n I' J' Pre R) [] E tA) env (R a) :=
  fun H0 F h H σ ok hI s Q k => ha H0 F h H σ ok hI s _ fun vs ds G1 h1 H1 n1 j1 p1 r1 => by
    show iSp K n I' J' Pre R (vs ++ []) H1 Q E
    rw [List.append_nil]
    exact ⟨a, G1, h1, ds, n1.ok, j1, r1, (hp ds p1).1, (hp ds p1).2, fun v d G h' H' n2 j2 p2 r2 => k v d G h' H' (n1.trans n2) j2 p2 r2⟩
theorem ex_pick {E : XK} {tp : Addr} {m : Nat} {PA : List D → Prop} (hm : m < tapeEnd) (ha : EvXA K I (Iv.tape tp m) tA env PA) (hp : ∀ ds, PA ds → ∃ xs, ds = [.raw (.ref tp), .lst xs] ∧ xs ≠ [] ∧ xs.length ≤ sizeLine) :
    EvX K I (Iv.tape tp (m + 1)) (tCall (pickSp K) [] E tA) env (fun d => ∃ xs, PA [.raw (.ref tp), .lst xs] ∧ d ∈ xs) :=
  fun H0 F h H σ ok hI s Q k => ha H0 F h H σ ok hI s _ fun vs ds G1 h1 H1 n1 j1 p1 r1 => by
    show pickSp K (vs ++ []) H1 Q E
    rw [List.append_nil]
    obtain ⟨xs, rfl, hne, hl⟩ := hp ds p1
    exact ⟨⟨tp, m, xs⟩, G1, h1, _, n1.ok, j1, r1, rfl, ⟨rfl, hne, hl, hm⟩, fun v d G h' H' n2 j2 p2 r2 => k v d G h' H' (n1.trans n2) j2 ⟨xs, p1, p2⟩ r2⟩
theorem ex_draw {E : XK} {tp : Addr} {m : Nat} {many : Int} (ha : EvA K tA env [.raw (.ref tp), .int many]) (h0 : 0 < many) (h1 : many < 2 ^ 60) (hm : m < tapeEnd) : EvX K (Iv.tape tp m) (Iv.tape tp (m + 1)) (tCall dSp [] E tA) env (PI fun r => 0 ≤ r ∧ r < many) :=
  fun H0 F h H σ ok hI s Q k => ha H0 F h H σ ok s _ fun vs G1 H1 n1 r1 => by
    show dSp (vs ++ []) H1 Q E
    rw [List.append_nil]
    cases r1 with
    | cons r1 rn => cases rn with
      | cons r2 rn =>
        cases rn
        rw [r1.raw_eq, r2.int_eq]
        exact ⟨G1, h, tp, m, many, n1.ok, (Iv.tape tp m).mono n1.ex n1.ok.dj hI, rfl, h0, h1, hm, fun r h' H' a b n2 tq => k (.int r) (.int r) G1 h' H' (n1.trans n2) tq ⟨r, rfl, a, b⟩ (.int r)⟩
section
variable {P : Program} {w : World} {mg : Str → Option Value} {base : Heap}
theorem ok_imp {x qual : Str} {st : Stmt} {f : Addr} {fd : FuncData} {N ps : List Str} {k : Nat} {A : Type} {I J : A → Iv} {Pre : A → List D → Prop} {R : A → D → Prop} (F : Fun K x qual st f fd) (S : FnScope N ps (defScope st))
    (hbody : ∀ (cdv : Value) (B : Around) (outer : List Env) (s : Shared) (H : Hp) (E : XK), Room k (B.deeper (envOfC qual (defScope st) s.heap.objs.size f cdv)) →
      ∃ t, PSs (cxOf L2.CX0 P w K mg base N qual (defScope st) f cdv B outer s H E).nox (defBody st) t ∧
        ∀ (F0 h0 : Hp) (σ : L2.St) (a : A) (ds : List D) (Q : VK), Pre a ds → ds.length = ps.length → State K F0 h0 H (I a) (ds.map Sl.val ++ List.replicate (N.length - ps.length) Sl.un) Gh.nil σ H → (∀ d, R a d → Done K F0 h0 H (J a) d Q) → t { nx := fun _ H' => Q .non H', rt := Q } σ H) :
    FnOk P w K mg base L2.CX0 (k + 1) f fd ps (iSp K ps.length I J Pre R) := by
  have hN : ps.length ≤ N.length := by have := congrArg List.length S.pre; rw [List.length_take] at this; omega
  refine F.ok S (fun vs H Q E h => ?_) (fun cdv B outer s H vs Q E hr h => ?_)
  · obtain ⟨a, F, hh, ds, ok, hI, r, hn, _⟩ := h
    rw [r.len, hn]
  · obtain ⟨a, F, hh, ds, ok, hI, r, hn, hP, kk⟩ := h
    obtain ⟨t, ht, hq⟩ := hbody cdv B outer s H E hr
    exact ⟨t, ht, hq F hh _ a ds Q hP hn ⟨F, hh, Nx.refl ok, hI, sat_start ok r hn hN, trivial⟩ fun d hR v G h' H' n j rr => kk v d G h' H' n j hR rr⟩
end
end
end Lw
namespace Lw
open PySem PySem.Spec PyProof.Rows L2

theorem ip_ext {X : Cx} : PIp X .Add rExt2 := iop_ext

/-! ### xs[lo:hi:st] -/
def pickX {α : Type} (xs : List α) (lo hi st : Option Int) : List α := (sliceRange (sliceBounds lo hi st xs.length).1 (sliceBounds lo hi st xs.length).2.1 (sliceBounds lo hi st xs.length).2.2).filterMap fun i => xs[i]?
theorem Vals.pickN {xs : List V} {us : List Value} (r : Vals xs us) : ∀ ix : List Nat, Vals (ix.filterMap fun i => xs[i]?) (ix.filterMap fun i => us[i]?)
  | [] => .nil
  | i :: ix => by
    cases e : xs[i]? with
    | none =>
      have e2 : us[i]? = none := by
        rw [List.getElem?_eq_none_iff] at e ⊢
        rw [← r.length]; exact e
      rw [List.filterMap_cons_none e, List.filterMap_cons_none e2]
      exact Vals.pickN r ix
    | some x =>
      obtain ⟨u, e2, ru⟩ := r.get e
      rw [List.filterMap_cons_some e, List.filterMap_cons_some e2]
      exact .cons ru (Vals.pickN r ix)
theorem RpAll.pickN {K : PySem.W.Frag} {F : Hp} {xs : List V} {ds : List D} (r : RpAll K F xs ds) : ∀ ix : List Nat, RpAll K F (ix.filterMap fun i => xs[i]?) (ix.filterMap fun i => ds[i]?)
  | [] => .nil
  | i :: ix => by
    cases e : xs[i]? with
    | none =>
      have e2 : ds[i]? = none := by
        rw [List.getElem?_eq_none_iff] at e ⊢
        rw [← r.len]; exact e
      rw [List.filterMap_cons_none e, List.filterMap_cons_none e2]
      exact RpAll.pickN r ix
    | some x =>
      obtain ⟨u, e2, ru⟩ := r.getV e
      rw [List.filterMap_cons_some e, List.filterMap_cons_some e2]
      exact .cons ru (RpAll.pickN r ix)
theorem RpAll.pick {K : PySem.W.Frag} {F : Hp} {xs : List V} {ds : List D} (r : RpAll K F xs ds) (lo hi st : Option Int) : RpAll K F (pickX xs lo hi st) (pickX ds lo hi st) := by
  unfold pickX
  rw [r.len]
  exact r.pickN _
def tStp (K : PySem.W.Frag) (te : TE) (tl th ts : TO) : TE := fun σ H Q => te σ H fun x H1 => tl σ H1 fun l H2 => th σ H2 fun u H3 => ts σ H3 fun st H4 => ∃ a xs, x = .ref a ∧ SqL K H4 a xs ∧ st ≠ some 0 ∧ (pickX xs l u st).length ≤ sizeLine ∧ ∀ p, H4 p = none → Q (.ref p) (upd H4 p (.lst (pickX xs l u st)))
theorem pe_step {X : Cx} {e : Expr} {te : TE} {lo hi : Option Expr} {st : Expr} {tl th ts : TO} {p3 pos : Pos} (he : PE X e te) (hl : PO X lo tl) (hh : PO X hi th) (hs : PO X (some st) ts)
    (hops : ∀ a b, ∃ ops, subscripted (.Slice lo hi (some st) p3) false (.ref a) (.ref b) = operate ops (getItem (.ref a) (.ref b)) := by intro a b; exact ⟨[.ref a, .ref b], by with_unfolding_all rfl⟩) : PE X (.Subscript e (.Slice lo hi (some st) p3) pos) (tStp X.K te tl th ts) := by
  refine ⟨fun pins s σ H Q I h => Subscript_ (thn (he.run pins s σ H _ I h) fun v s1 ⟨x, H1, I1, r1, q1⟩ => ?_)⟩
  refine wpAny_Slice (thn (hl.run pins s1 σ H1 _ I1 q1) fun vl s2 ⟨l, H2, I2, p1, q2⟩ => ?_)
  refine thn (hh.run pins s2 σ H2 _ I2 q2) fun vu s3 ⟨u, H3, I3, p2, q3⟩ => ?_
  refine thn (hs.run pins s3 σ H3 _ I3 q3) fun vs s4 ⟨o, H4, I4, pS, q4⟩ => ?_
  obtain ⟨a, xs, ex, hx, h0, hz2, q⟩ := q4
  subst ex
  cases r1
  have Iz : Inv X pins σ H4 { s4 with heap := s4.heap.push { cls := .type "slice", data := .fields #[vl, vu, vs] } } := I4.kept (t' := s4.toks) fun b ob q => Heap.get?_push_of_some _ q
  obtain ⟨its, r, isL, fits⟩ := Iz.list hx
  have lenI := r.length
  obtain ⟨ops, hops⟩ := hops a s4.heap.objs.size
  show wpAny (model X.prog X.w) X.A (subscriptTail e (.Slice lo hi (some st) p3) (.ref a) (.ref s4.heap.objs.size)) (EP X pins σ Q) X.xe { s4 with heap := s4.heap.push { cls := .type "slice", data := .fields #[vl, vu, vs] } }
  refine tail_any (ops := ops) isL.isList.typeIs (PySem.slot_list_getitem.lookup) ?_ hops
  refine wpAny_getItem_list_slice isL.isList (Heap.IsSliceOf.new _ vl vu vs) p1 p2 pS h0 ?_ (by rw [List.size_toArray]; omega)
  have rp : Vals (pickX xs l u o) (slicePick its.toArray l u o).toList := by
    unfold pickX slicePick
    rw [lenI, List.size_toArray]
    have e : (((sliceRange (sliceBounds l u o its.length).1 (sliceBounds l u o its.length).2.1 (sliceBounds l u o its.length).2.2).filterMap (its.toArray[·]?)).toArray).toList = (sliceRange (sliceBounds l u o its.length).1 (sliceBounds l u o its.length).2.1 (sliceBounds l u o its.length).2.2).filterMap fun i => its[i]? := by
      rw [List.toList_toArray]
      congr 1
      funext i
      exact List.getElem?_toArray
    rw [e]
    exact Vals.pickN r _
  refine ⟨.ref _, _, Iz.laid (t' := s4.toks) (o := .lst (pickX xs l u o)) (fun b ob q => Heap.get?_push_of_some _ q) (Nat.le_refl _) ?_, rfl, q _ (Iz.hok.fresh (Nat.le_refl _))⟩
  exact ⟨hz2, _, 0, rp, by rw [Array.toArray_toList]; exact Heap.get?_push_size _ rfl⟩

/-! ### tuple(a list): a tuple without a dict of its own -/
def kTupZ (K : PySem.W.Frag) (x : V) (H : Hp) (Q : VK) : Prop :=
  ∃ p xs, x = .ref p ∧ SqL K H p xs ∧ ∀ (q : Addr) (o : Obj) (its : Array Value) (n : Nat), H q = none → o.cls = .type "tuple" → o.dict = none → o.data = .seq its n → Q (.ref q) (upd H q (.frz o (.tup xs)))
theorem pe_tupleZ {X : Cx} {a : Expr} {ta : TE} {p pos : Pos} (hg : Gl X "tuple") (hm : X.mg "tuple" = none) (ha : PE X a ta) (na : starEach [a] X.env = (false, eval a X.env) :: starEach [] X.env := by rfl) :
    PE X (.Call (.Name "tuple" p) [a] [] pos) (tThen ta (kTupZ X.K)) := by
  refine ⟨fun pins s σ H Q I h => ?_⟩
  refine Call_ (ld_blt I hg hm boot_tuple (PyProof.Rows.callWith_type1 (one_arg ha I h (fun v s2 x H2 I2 r q => ?_) na) na))
  obtain ⟨p, xs, rfl, hs, q⟩ := q
  obtain rfl : v = .ref p := r
  obtain ⟨its, rv, pl, hz⟩ := I2.list hs
  refine call_tuple_list pl.isList (fun h' kept => ?_) (by rw [List.size_toArray, ← rv.length]; exact hz)
  have I1 : Inv X pins σ H2 { s2 with heap := h' } := I2.kept (t' := s2.toks) kept
  have I3 : Inv X pins σ (upd H2 h'.objs.size (.frz { cls := .type "tuple", data := .seq its.toArray } (.tup xs))) { s2 with heap := h'.push { cls := .type "tuple", data := .seq its.toArray } } :=
    I1.laid (t' := s2.toks) (fun b o e => Heap.get?_push_of_some _ e) (Nat.le_refl _) (show ObjOk X.prog X.w _ _ _ (.frz _ (.tup xs)) from ⟨Heap.get?_push_size _ rfl, hz, its, rv, IsTup.new _ _⟩)
  exact ⟨.ref h'.objs.size, _, I3, rfl, q _ _ _ _ (I1.hok.fresh (Nat.le_refl _)) rfl rfl rfl⟩

/-! ### dict(a tuple of pairs) -/
theorem refs_at {ps : List Addr} {us : List Value} (r : Vals (ps.map V.ref) us) : us = ps.map Value.ref := L2.refs_at r
theorem call_dictZ {X : Cx} (calm : X.calm = true) : CallR X (.type "dict") (fun args H Q => ∃ (a : Addr) (ps : List Addr) (kvs : List (Key × V)), args = [.ref a] ∧ TupZ H a (ps.map V.ref) ∧ Paired (fun p kv => SqT X.K H p [kV kv.1, kv.2]) ps kvs ∧
    ∀ b, H b = none → Q (.ref b) (upd H b (.dK (mergeK [] kvs)))) := by
  intro pins s σ H args vals Q I r q
  obtain ⟨a, ps, kvs, ex, hZ, hPr, q⟩ := q
  subst ex
  obtain ⟨u, eu, rv0⟩ := vals1 r
  subst eu
  cases rv0
  obtain ⟨o, its0, n, hH, hc, hd, hdat⟩ := hZ
  obtain ⟨ho, hz, its, rv, ⟨o2, ho2, hc2, n2, hd2⟩⟩ := I.hok a _ hH
  rw [ho] at ho2
  cases ho2
  rw [hdat] at hd2
  cases hd2
  have ei := L2.refs_at rv
  subst ei
  rw [List.length_map] at hz
  obtain ⟨prs, alike, hl, parts⟩ := pairs_of I hPr
  have hpr2 : ∀ (j : Nat) (q : Key × Value), prs[j]? = some q → ∃ (b : Addr) (u : Value), ps[j]? = some b ∧ IsTup s.heap b #[u, q.2] ∧ keyIs q.1 u = true := parts
  -- the pairs, told by their values
  have hex : ∀ (l : List (Key × Value)) (qs : List Addr), l.length = qs.length → (∀ (j : Nat) (q : Key × Value), l[j]? = some q → ∃ (b : Addr) (u : Value), qs[j]? = some b ∧ IsTup s.heap b #[u, q.2] ∧ keyIs q.1 u = true) →
      ∃ vs : List (Value × Value), vs.length = qs.length ∧ ∀ (j : Nat) (u y : Value), vs[j]? = some (u, y) → ∃ (b : Addr) (k : Key), qs[j]? = some b ∧ IsTup s.heap b #[u, y] ∧ l[j]? = some (k, y) ∧ keyIs k u = true := by
    intro l
    induction l with
    | nil =>
      intro qs e _
      cases qs with
      | nil => exact ⟨[], rfl, fun j u y e => by simp at e⟩
      | cons _ _ => simp at e
    | cons q l ih =>
      intro qs e hZ
      cases qs with
      | nil => simp at e
      | cons b qs =>
        obtain ⟨b0, u, e1, e2, e3⟩ := hZ 0 q rfl
        cases e1
        obtain ⟨vs, hv, hvs⟩ := ih qs (by simpa using e) fun j q' e' => by
          have := hZ (j + 1) q' (by simpa using e')
          simpa using this
        refine ⟨(u, q.2) :: vs, by rw [List.length_cons, List.length_cons, hv], fun j u' y e => ?_⟩
        cases j with
        | zero =>
          have e' : (u, q.2) = (u', y) := Option.some.inj e
          cases e'
          exact ⟨b, q.1, rfl, e2, rfl, e3⟩
        | succ j =>
          obtain ⟨b', k, a1, a2, a3, a4⟩ := hvs j u' y (by simpa using e)
          exact ⟨b', k, by simpa using a1, a2, by simpa using a3, a4⟩
  obtain ⟨vs, hvl, hvs⟩ := hex prs ps hl hpr2
  have hP := PairArg.tuple (prog := X.prog) (w := X.w) a (ps.map Value.ref).toArray (fun j => ps.getD j 0) vs
  have hok : PlainSeq "tuple" s.heap a (ps.map Value.ref).toArray ∧ PairItems s.heap (ps.map Value.ref).toArray (fun j => ps.getD j 0) vs := by
    refine ⟨⟨o, n, ho, hc, hd, hdat⟩, by simp [hvl], fun j u y e => ?_⟩
    obtain ⟨b, k, a1, a2, a3, a4⟩ := hvs j u y e
    have eb : ps.getD j 0 = b := by rw [List.getD_eq_getElem?_getD, a1]; rfl
    refine ⟨by simp [a1, eb], ?_⟩
    show PairAt s.heap (ps.getD j 0) u y
    rw [eb]
    obtain ⟨ob, c1, c2, m, c3⟩ := a2
    exact .inl ⟨ob, c1, c2, m, c3⟩
  have hcl : PairsHave (mixKind X.prog X.w) vs.length (PairRel vs) prs := by
    refine ⟨by rw [hl, hvl], fun i key v e => ?_⟩
    obtain ⟨b, k, a1, a2, a3, a4⟩ := hvs i key v e
    exact ⟨k, a3, a4⟩
  refine call_dict_pairs hP (I.ok.hd calm) hok hcl (by rw [hvl]; exact hz) fun h' tk hd' k => ?_
  have notM : (s.heap.objs.size == sysModules) = false := beq_eq_false_iff_ne.mpr (Nat.ne_of_gt I.big)
  have lenM : (mergeK [] kvs).length ≤ sizeLine := by
    refine Nat.le_trans (length_mergeK kvs ([] : List (Key × V))) ?_
    rw [List.length_nil, Nat.zero_add, alike.length, hl]
    exact hz
  exact ⟨.ref s.heap.objs.size, upd H s.heap.objs.size (.dK (mergeK [] kvs)), I.laid (t' := tk) (fun b u e => k b u (fun z => nomatch z) e) (Nat.le_refl _) (show ObjOk X.prog X.w _ _ _ (.dK (mergeK [] kvs)) from ⟨lenM, notM, merged [] prs, KV.merge alike .nil, hd'⟩), rfl, q _ (I.hok.fresh (Nat.le_refl _))⟩

/-! ### sorted(a dict of numbers), any number of them -/
theorem call_sortedDW {X : Cx} (calm : X.calm = true) : CallR X (.builtin "sorted") (fun args H Q => ∃ (a : Addr) (kvs : List (Key × V)) (ks : List Int), args = [.ref a] ∧ Rd H a (.dK kvs) ∧ kvs.map (·.1) = ks.map Sum.inl ∧
    ∀ (zs : List Int) (p : Addr), zs.Perm ks → zs.Pairwise (· ≤ ·) → H p = none → Q (.ref p) (upd H p (.lst (zs.map V.int)))) := by
  intro pins s σ H args vals Q I r q
  obtain ⟨a, kvs, ks, ex, rdD, keysI, q⟩ := q
  subst ex
  obtain ⟨u, eu, rv⟩ := vals1 r
  subst eu
  cases rv
  obtain ⟨fits, low, prs, alike, isD⟩ := dk_rd I.hok rdD
  obtain ⟨ep, hat⟩ := isD.dictAt
  have keysV : prs.map (·.1) = ks.map Sum.inl := alike.keys.symm.trans keysI
  have lenV : prs.length = ks.length := by
    have e := congrArg List.length keysV
    rwa [List.length_map, List.length_map] at e
  have fitsV : prs.length ≤ sizeLine := by rw [← alike.length]; exact fits
  refine Calls.call_function_entry PyProof.Rows.kind_sorted PyProof.Rows.plain_sorted PyProof.Rows.entry_sorted (PyProof.Rows.args_sorted1 _) ?_; unfold Builtin.«sorted»; refine wpAny_bind (m := checkCount "sorted" 1 1 _) (wpAny_pure ?_)
  refine wpAny_bind (PySem.W.kdu_collect (A := X.A.in1) (PySem.W.kdl_dict (knd := mixKind X.prog X.w) (kvs := prs) (ep := ep) low) (I.ok.hd calm) hat fitsV fun h' tk acc kept told => ?_)
  have lenA : acc.toList.length = ks.length := by rw [Array.length_toList, told.1, lenV]
  have areI : IntsAre acc.toList ks := ints_each lenA fun j v e => by
    obtain ⟨k, x, e1, e2⟩ := told.2 j v (by rw [← Array.getElem?_toList]; exact e)
    have e31 : (prs.map (·.1))[j]? = some k := by rw [List.getElem?_map, e1]; rfl
    rw [keysV, List.getElem?_map] at e31
    cases e41 : ks[j]? with
    | none => rw [e41] at e31; cases e31
    | some y =>
      rw [e41] at e31
      have e51 : Sum.inl y = k := Option.some.inj e31
      subst e51
      rcases  keyIs_shape (show keyIs (Sum.inl y) v = true from e2) with ⟨i, t, ek, ev⟩ | ⟨fits, t, ek, ev⟩
      · cases ek
        exact ⟨y, t, rfl, ev⟩
      · cases ek
  have Ia : Inv X pins σ H { s with heap := h', toks := tk } := I.kept kept
  have hsz : acc.toList.length ≤ sizeLine := by rw [lenA, ← lenV]; exact fitsV
  refine wpAny_bind (wpAny_newList ?_ hsz)
  have objL : (h'.push (seqObj "list" acc.toList.toArray 0)).get? h'.objs.size = some (seqObj "list" acc.toList.toArray 0) := Heap.get?_push_size _ rfl
  show wpAny _ _ _ _ _ { s with heap := h'.push (seqObj "list" acc.toList.toArray 0), toks := tk }; refine wpAny_bind (wpAny_holding (wpAny_call_entry PyProof.Rows.slot_list_sort ⟨_, objL, rfl⟩ PyProof.Rows.entry_list_sort
    (SrtO.list_sort_ord (s := { s with heap := h'.push (seqObj "list" acc.toList.toArray 0), toks := tk }) SrtO.swo_int objL hsz (fun h2 => SrtO.ints_sortable areI h2) fun out h1 h2 => ⟨_, rfl, ?_⟩) (PyProof.Rows.args_list_sort _)))
  obtain ⟨q1, q2, q3⟩ := SrtO.ints_out areI h1 h2
  obtain ⟨e', he'⟩ := PyProof.Rows.sortedHeap_at (vs := acc.toList) (out := out.toArray) objL
  have lenY : ((out.map SrtO.iv).map V.int).length ≤ sizeLine := by
    rw [List.length_map, q2.length_eq, ← lenA]
    exact hsz
  refine wpAny_pure ⟨_, rfl, .ref h'.objs.size, upd H h'.objs.size (.lst ((out.map SrtO.iv).map V.int)), Ia.laid (t' := tk) (fun b u e => ?_) (Nat.le_refl _)
    (show ObjOk X.prog X.w _ _ _ (.lst ((out.map SrtO.iv).map V.int)) from ⟨lenY, out, e', vals_of_ints q1, he'⟩), rfl, q _ _ q2 q3 (Ia.hok.fresh (Nat.le_refl _))⟩
  have old : b < h'.objs.size := Heap.lt_size e
  rw [PyProof.Rows.sortedHeap_old (Nat.ne_of_lt old) (by rw [size_push']; exact Nat.lt_succ_of_lt old)]
  exact Heap.get?_push_of_some (h := h') _ e
end Lw
namespace Lw
open PySem PySem.Spec PyProof.Rows L2
section
variable {K : PySem.W.Frag} {env : List Sl} {ta tb te tl : TE} {tA tr : TA} {t tt : TT} {d x y z : D} {P : D → Prop} {I J L : Iv}
variable {F0 h0 H0 H : Hp} {gs : Gh} {σ : L2.St} {En : Ends} {tu tw : TS}

/-! ### tuple(list), steps -/
theorem ev_tupleZ {ds : List D} (ha : EvR K ta env (.lst ds)) : Ev K (tThen ta (kTupZ K)) env (.tupZ ds) := fun H0 F h H σ ok s Q k =>
  ha H0 F h H σ ok s _ fun v G H' n r => by
    obtain ⟨a, xs, rfl, hs, rr⟩ := r.lst n.ok
    refine ⟨a, xs, rfl, .inl (.inl hs), fun q o its m hq h1 h2 h3 => ?_⟩
    have n2 := Nx.new (o := .frz o (.tup xs)) n.ok hq
    exact k (.ref q) _ _ (n.trans n2) (.tupZ ⟨o, its, m, upd_same, h1, h2, h3⟩ (rr.mono n2.ex))
theorem pick_len {α : Type} (xs : List α) (lo hi st : Option Int) (h : (sliceRange (sliceBounds lo hi st xs.length).1 (sliceBounds lo hi st xs.length).2.1 (sliceBounds lo hi st xs.length).2.2).length ≤ xs.length) : (pickX xs lo hi st).length ≤ xs.length :=
  Nat.le_trans (List.length_filterMap_le _ _) h
theorem en_step {ds : List D} {to1 to2 to3 : TO} {lo hi st : Option Int} (ha : EvR K ta env (.lst ds)) (h1 : EvO K to1 env lo) (h2 : EvO K to2 env hi) (h3 : EvO K to3 env st) (h0 : st ≠ some 0) (hl : (pickX ds lo hi st).length ≤ sizeLine) : EvN K (tStp K ta to1 to2 to3) env (.lst (pickX ds lo hi st)) := fun H0 F h H σ ok s Q k =>
  ha H0 F h H σ ok s _ fun vx G1 H1 n1 r1 => h1 H0 G1 h H1 σ n1.ok (s.nx n1) _ fun G2 H2 n2 => h2 H0 G2 h H2 σ n2.ok ((s.nx n1).nx n2) _ fun G3 H3 n3 => h3 H0 G3 h H3 σ n3.ok (((s.nx n1).nx n2).nx n3) _ fun G4 H4 n4 => by
    obtain ⟨a, xs, rfl, hs, rr⟩ := (r1.nx (n2.trans (n3.trans n4))).lst n4.ok
    have n := n1.trans (n2.trans (n3.trans n4))
    have rp := rr.pick lo hi st
    exact ⟨a, xs, rfl, .inl (.inl hs), h0, by rw [rp.len]; exact hl, fun p hp => k p G4 _ (n.trans (Nx.raw n4.ok hp)) (n.was hp) (lc_new n4.ok (s.nx n) hp rp)⟩

/-! ### own lists that grow -/
theorem Sat.slotsame {σ : L2.St} {i : Nat} {o : Option V} (h : σ[i]? = some o) : σ.set i o = σ := by
  apply List.ext_getElem?
  intro j
  rw [List.getElem?_set]
  by_cases e : i = j
  · subst e
    rw [if_pos rfl]
    have := (List.getElem?_eq_some_iff.mp h).1
    rw [if_pos this]
    exact h.symm
  · rw [if_neg e]
/-- xs += ys -/
theorem s_augL {i : Nat} {ds : List D} {Pe : List D → Prop} (S : State K F0 h0 H0 I env gs σ H) (hi : env[i]? = some (Sl.own (.lst ds))) (e : EvX K I J te env (fun d => ∃ es, d = .lst es ∧ Pe es)) (hl : ∀ es, Pe es → ds.length + es.length ≤ sizeLine)
    (k : ∀ es H', Pe es → State K F0 h0 H0 J (env.set i (Sl.own (.lst (ds ++ es)))) gs σ H' → En.nx σ H') : tAug i te rExt2 En σ H := by
  obtain ⟨F, h, n0, hI, s, hg⟩ := S
  obtain ⟨p, ep, lc⟩ := s.own i _ hi
  refine ⟨.ref p, ep, e H0 F h H σ n0.ok hI s _ fun v d G h' H' n j ⟨es, ed, pe⟩ r => ?_⟩
  subst ed
  have lc1 := lc.nx n
  obtain ⟨f1, g1, z1, ys, ey, ry⟩ := id lc1
  obtain ⟨b, zs, rfl, hz, rz⟩ := r.lst_of
  refine ⟨p, b, ys, zs, rfl, rfl, ey, n.ok.ef _ _ hz, by rw [ry.len, rz.len]; exact hl es pe, ?_⟩
  show En.nx (σ.set i (some (V.ref p))) _
  rw [Sat.slotsame ep]
  exact k es _ pe ⟨G, h', (n0.trans n).own lc1, j, (s.nx n).change hi ep ⟨f1, g1, z1, _, upd_same, ry.append rz⟩ lc1, gs.mono n.ex hg⟩

/-! ### sets of numbers, told by dicts -/
def onV (ns : List Int) : List (Key × V) := ns.map fun n => (Sum.inl n, V.bl true)
def onK (ns : List Int) : List (Key × D) := ns.map fun n => (Sum.inl n, D.bl true)
def addN (ns : List Int) (n : Int) : List Int := if n ∈ ns then ns else ns ++ [n]
theorem onV_of {F : Hp} : ∀ {ns : List Int} {kvs : List (Key × V)}, RpKV K F kvs (onK ns) → kvs = onV ns
  | [], _, r => by cases r; rfl
  | n :: ns, _, r => by
    unfold onK at r
    rw [List.map_cons] at r
    cases r with
    | cons h r => rw [h.bl_eq, onV_of (ns := ns) r]; rfl
theorem of_onV {F : Hp} : ∀ (ns : List Int), RpKV K F (onV ns) (onK ns)
  | [] => .nil
  | n :: ns => .cons (.bl true) (of_onV ns)
theorem onV_val (ns : List Int) (n : Int) : (valV (onV ns) (.inl n : Key)).isSome = decide (n ∈ ns) := by
  induction ns with
  | nil => rfl
  | cons m ns ih =>
    unfold onV at ih ⊢
    rw [List.map_cons]
    by_cases e : m = n
    · subst e
      rw [valV_pos rfl]
      simp
    · rw [valV_neg (fun q => e (Sum.inl.inj q)), ih]
      have : (n ∈ m :: ns) = (n ∈ ns) := by
        rw [List.mem_cons]
        simp [show ¬ n = m from fun q => e q.symm]
      simp [this]
theorem onV_put (ns : List Int) (n : Int) : putK (onV ns) (.inl n : Key) (.bl true) = onV (addN ns n) := by
  have ha : ((onV ns).any fun kv => decide (kv.1 = (Sum.inl n : Key))) = decide (n ∈ ns) := by rw [valV_any, onV_val]
  unfold putK addN
  rw [ha]
  by_cases h : n ∈ ns
  · rw [if_pos (by simpa using h), if_pos h]
    unfold onV
    rw [List.map_map]
    apply List.map_congr_left
    intro m _
    show (if (Sum.inl m : Key) = Sum.inl n then ((Sum.inl m : Key), V.bl true) else (Sum.inl m, V.bl true)) = _
    split <;> rfl
  · rw [if_neg (by simpa using h), if_neg h]
    unfold onV
    rw [List.map_append]
    rfl
theorem onV_merge : ∀ (ms ns : List Int), mergeK (onV ns) (onV ms) = onV (ms.foldl addN ns)
  | [], ns => rfl
  | m :: ms, ns => by
    show mergeK (putK (onV ns) (Sum.inl m) (V.bl true)) (onV ms) = _
    rw [onV_put, onV_merge ms]
    rfl
theorem addN_mem (ns : List Int) (n m : Int) : m ∈ addN ns n ↔ m ∈ ns ∨ m = n := by
  unfold addN
  split
  · constructor
    · exact .inl
    · rintro (h | rfl) <;> assumption
  · simp
theorem foldN_mem : ∀ (ms ns : List Int) (m : Int), m ∈ ms.foldl addN ns ↔ m ∈ ns ∨ m ∈ ms
  | [], ns, m => by simp
  | a :: ms, ns, m => by
    rw [List.foldl_cons, foldN_mem ms, addN_mem, List.mem_cons]
    constructor
    · rintro ((h | h) | h)
      · exact .inl h
      · exact .inr (.inl h)
      · exact .inr (.inr h)
    · rintro (h | h | h)
      · exact .inl (.inl h)
      · exact .inl (.inr h)
      · exact .inr h
theorem addN_len (ns : List Int) (n : Int) : (addN ns n).length ≤ ns.length + 1 := by
  unfold addN
  split <;> simp
theorem foldN_len : ∀ (ms ns : List Int), (ms.foldl addN ns).length ≤ ns.length + ms.length
  | [], ns => by simp
  | a :: ms, ns => by
    rw [List.foldl_cons, List.length_cons]
    have h1 := foldN_len ms (addN ns a)
    have h2 := addN_len ns a
    omega
/-- n in d -/
theorem ev_inD {ns : List Int} {n : Int} (ha : Ev K ta env (.int n)) (hb : EvR K tb env (.dct (onK ns))) : Ev K (tDIn ta tb) env (.bl (decide (n ∈ ns))) := fun H0 F h H σ ok s Q k =>
  ha H0 F h H σ ok s _ fun v1 G1 H1 n1 r1 => hb H0 G1 h H1 σ n1.ok (s.nx n1) _ fun v2 G2 H2 n2 r2 => by
    obtain ⟨a, kvs, rfl, hs, rr⟩ := r2.dct n2.ok
    have e := onV_of rr
    subst e
    refine ⟨a, valV (onV ns) (.inl n), rfl, .inl ⟨_, .inl n, .inl hs, r1.int_eq, rfl⟩, ?_⟩
    rw [onV_val]
    exact k _ G2 H2 (n1.trans n2) (.bl _)
/-- d[n] = True -/
theorem s_dputN {i : Nat} {ns : List Int} {n : Int} (S : State K F0 h0 H0 I env gs σ H) (hi : env[i]? = some (Sl.own (.dct (onK ns)))) (he : Ev K te env (.int n)) (hl : ns.length < sizeLine)
    (k : ∀ H', State K F0 h0 H0 I (env.set i (Sl.own (.dct (onK (addN ns n))))) gs σ H' → En.nx σ H') : sDPut (tVar i) te (tC (.bl true)) En σ H := by
  obtain ⟨F, h, n0, hI, s, hg⟩ := S
  obtain ⟨p, ep, lc⟩ := s.own i _ hi
  refine ⟨.ref p, ep, he H0 F h H σ n0.ok s _ fun v G H' n1 r => ?_⟩
  have lc1 := lc.nx n1
  obtain ⟨f1, g1, z1, ys, ey, ry⟩ := id lc1
  have e := onV_of ry
  subst e
  rw [r.int_eq]
  refine ⟨p, _, rfl, .inl ⟨_, .inl n, ey, rfl, by unfold onV; rw [List.length_map]; exact hl, rfl⟩, ?_⟩
  rw [onV_put]
  exact k _ ⟨G, h, (n0.trans n1).own lc1, I.mono n1.ex n1.ok.dj hI, (s.nx n1).change hi ep ⟨f1, g1, z1, _, upd_same, of_onV _⟩ lc1, gs.mono n1.ex hg⟩
/-- pairs of a number and what stands for it -/
def prD (p : Int × D) : D := .tup [.int p.1, p.2]
theorem pairs_of {F : Hp} {H : Hp} (e : Ex F H) : ∀ {ps : List (Int × D)} {vs : List V}, RpAll K F vs (ps.map prD) → ∃ (as : List Addr) (kvs : List (Key × V)), vs = as.map V.ref ∧ Paired (fun p kv => SqT K H p [kV kv.1, kv.2]) as kvs ∧ kvs.map (·.1) = ps.map (fun p => Sum.inl p.1) ∧ RpAll K F (kvs.map (·.2)) (ps.map (·.2))
  | [], _, r => by cases r; exact ⟨[], [], rfl, .nil, rfl, .nil⟩
  | p :: ps, _, r => by
    rw [List.map_cons] at r
    cases r with
    | cons h r =>
      obtain ⟨as, kvs, e1, e2, e3, e4⟩ := pairs_of e r
      obtain ⟨a, xs, rfl, hs, rr⟩ := h.tup_of
      cases rr with
      | cons r1 rr => cases rr with
        | cons r2 rr =>
          cases rr
          rename_i v1 v2
          rw [r1.int_eq] at hs
          subst e1
          exact ⟨a :: as, (Sum.inl p.1, v2) :: kvs, rfl, .cons (Evl.ex_t e hs) e2, by rw [List.map_cons, List.map_cons, e3], .cons r2 e4⟩
abbrev rDictP (K : PySem.W.Frag) : List V → Hp → VK → Prop := fun xs H Q => ∃ (a : Addr) (ps : List Addr) (kvs : List (Key × V)), xs = [.ref a] ∧ SqL K H a (ps.map V.ref) ∧ Paired (fun p kv => SqT K H p [kV kv.1, kv.2]) ps kvs ∧
    ∀ p, H p = none → Q (.ref p) (upd H p (.dK (mergeK [] kvs)))
abbrev rDictZ (K : PySem.W.Frag) : List V → Hp → VK → Prop := fun xs H Q => ∃ (a : Addr) (ps : List Addr) (kvs : List (Key × V)), xs = [.ref a] ∧ TupZ H a (ps.map V.ref) ∧ Paired (fun p kv => SqT K H p [kV kv.1, kv.2]) ps kvs ∧
    ∀ p, H p = none → Q (.ref p) (upd H p (.dK (mergeK [] kvs)))
theorem onV_pairs {F : Hp} : ∀ (ns : List Int) (kvs : List (Key × V)), kvs.map (·.1) = ns.map Sum.inl → RpAll K F (kvs.map (·.2)) (ns.map fun _ => D.bl true) → kvs = onV ns
  | [], [], _, _ => rfl
  | [], _ :: _, e, _ => by cases e
  | _ :: _, [], e, _ => by cases e
  | m :: ns, (k0, v0) :: kvs, e, r => by
    rw [List.map_cons, List.map_cons] at e r
    injection e with e1 e2
    cases r with
    | cons r1 r2 =>
      have e1 : k0 = Sum.inl m := e1
      have e3 : v0 = V.bl true := Rp.bl_eq r1
      rw [e1, e3, onV_pairs ns kvs e2 r2]
      rfl
/-- dict([(n, True) for ..]) -/
theorem en_dictOn {ns : List Int} (ha : Ev K ta env (.lst (ns.map fun n => prD (n, .bl true)))) : EvN K (tCB (rDictP K) (tCons ta tNil)) env (.dct (onK (ns.foldl addN []))) := fun H0 F h H σ ok s Q k =>
  ha H0 F h H σ ok s _ fun v G H' n r => by
    obtain ⟨a, xs, rfl, hs, rr⟩ := r.lst_of
    have rr' : RpAll K G xs ((ns.map fun n => (n, D.bl true)).map prD) := by rw [List.map_map]; exact rr
    obtain ⟨as, kvs, rfl, hp, hk, hv⟩ := pairs_of n.ok.ef rr'
    have ek : kvs = onV ns := onV_pairs ns kvs (by rw [hk, List.map_map]; rfl) (by rw [List.map_map] at hv; exact hv)
    subst ek
    refine ⟨a, as, _, rfl, .inl (.inl (n.ok.ef _ _ hs)), hp, fun p hp => ?_⟩
    have e : mergeK [] (onV ns) = onV (ns.foldl addN []) := onV_merge ns []
    rw [e]
    exact k p G _ (n.trans (Nx.raw n.ok hp)) (n.was hp) ⟨n.ok.ff hp, n.ok.fh hp, (s.nx n).old_none hp, _, upd_same, of_onV _⟩
/-- dict(a tuple of pairs), no key twice -/
def kvD (ps : List (Int × D)) : List (Key × D) := ps.map fun p => (Sum.inl p.1, p.2)
theorem mergeK_nodup : ∀ (kvs acc : List (Key × V)), ((acc ++ kvs).map (·.1)).Nodup → mergeK acc kvs = acc ++ kvs
  | [], acc, _ => by rw [List.append_nil]; rfl
  | kv :: kvs, acc, h => by
    show mergeK (putK acc kv.1 kv.2) kvs = _
    have hn : ¬ (acc.any fun p => decide (p.1 = kv.1)) = true := fun q => by
      rw [List.any_eq_true] at q
      obtain ⟨p, hp, e⟩ := q
      have e := of_decide_eq_true e
      rw [List.map_append, List.nodup_append] at h
      exact h.2.2 p.1 (List.mem_map.mpr ⟨p, hp, rfl⟩) kv.1 (List.mem_map.mpr ⟨kv, List.mem_cons_self, rfl⟩) e
    have e : putK acc kv.1 kv.2 = acc ++ [kv] := by
      unfold putK
      rw [if_neg hn]
    rw [e, mergeK_nodup kvs (acc ++ [kv]) (by rw [List.append_assoc]; exact h), List.append_assoc]
    rfl
theorem kvD_of {F : Hp} : ∀ (ps : List (Int × D)) (kvs : List (Key × V)), kvs.map (·.1) = ps.map (fun p => Sum.inl p.1) → RpAll K F (kvs.map (·.2)) (ps.map (·.2)) → RpKV K F kvs (kvD ps)
  | [], [], _, _ => .nil
  | [], _ :: _, e, _ => by cases e
  | _ :: _, [], e, _ => by cases e
  | p :: ps, (k0, v0) :: kvs, e, r => by
    rw [List.map_cons, List.map_cons] at e r
    injection e with e1 e2
    cases r with
    | cons r1 r2 =>
      have e1 : k0 = Sum.inl p.1 := e1
      subst e1
      exact .cons r1 (kvD_of ps kvs e2 r2)
theorem en_dictZ {ps : List (Int × D)} (ha : Ev K ta env (.tupZ (ps.map prD))) (hn : (ps.map (·.1)).Nodup) : EvN K (tCB (rDictZ K) (tCons ta tNil)) env (.dct (kvD ps)) := fun H0 F h H σ ok s Q k =>
  ha H0 F h H σ ok s _ fun v G H' n r => by
    obtain ⟨a, xs, rfl, hs, rr⟩ := r.tupZ_of
    obtain ⟨as, kvs, rfl, hp, hk, hv⟩ := pairs_of n.ok.ef rr
    obtain ⟨o, its, m, h1, h2⟩ := hs
    refine ⟨a, as, kvs, rfl, ⟨o, its, m, n.ok.ef _ _ h1, h2⟩, hp, fun p hp => ?_⟩
    have e : mergeK [] kvs = kvs := by
      rw [mergeK_nodup kvs []]
      · rfl
      · rw [List.nil_append, hk]
        unfold List.Nodup at hn ⊢
        rw [List.pairwise_map] at hn ⊢
        exact hn.imp fun h e => h (Sum.inl.inj e)
    rw [e]
    exact k p G _ (n.trans (Nx.raw n.ok hp)) (n.was hp) ⟨n.ok.ff hp, n.ok.fh hp, (s.nx n).old_none hp, _, upd_same, kvD_of ps kvs hk hv⟩
abbrev rSortedDW : List V → Hp → VK → Prop := fun xs H Q => ∃ (a : Addr) (kvs : List (Key × V)) (ks : List Int), xs = [.ref a] ∧ Rd H a (.dK kvs) ∧ kvs.map (·.1) = ks.map Sum.inl ∧
    ∀ (ys : List Int) (p : Addr), ys.Perm ks → ys.Pairwise (· ≤ ·) → H p = none → Q (.ref p) (upd H p (.lst (ys.map V.int)))
theorem RpKV.keys {F : Hp} : ∀ {kvs : List (Key × V)} {ds : List (Key × D)}, RpKV K F kvs ds → kvs.map (·.1) = ds.map (·.1)
  | _, _, .nil => rfl
  | _, _, .cons _ r => by rw [List.map_cons, List.map_cons, RpKV.keys r]
theorem perm_sorted : ∀ {xs ys : List Int}, xs.Perm ys → xs.Pairwise (· ≤ ·) → ys.Pairwise (· ≤ ·) → xs = ys
  | [], ys, p, _, _ => (List.nil_perm.mp p).symm
  | x :: xs, [], p, _, _ => absurd (List.perm_nil.mp p) (by simp)
  | x :: xs, y :: ys, p, h1, h2 => by
    rw [List.pairwise_cons] at h1 h2
    have e : x = y := by
      have a : x ∈ y :: ys := p.mem_iff.mp List.mem_cons_self
      have b : y ∈ x :: xs := p.mem_iff.mpr List.mem_cons_self
      rcases List.mem_cons.mp a with a | a
      · exact a
      · rcases List.mem_cons.mp b with b | b
        · exact b.symm
        · have q1 := h2.1 x a
          have q2 := h1.1 y b
          omega
    subst e
    rw [perm_sorted ((List.perm_cons x).mp p) h1.2 h2.2]
theorem en_sortedD {ps : List (Int × D)} (ha : EvR K ta env (.dct (kvD ps))) (hs : (ps.map (·.1)).Pairwise (· ≤ ·)) : EvN K (tCB rSortedDW (tCons ta tNil)) env (.lst (dI (ps.map (·.1)))) := fun H0 F h H σ ok s Q k =>
  ha H0 F h H σ ok s _ fun v G H' n r => by
    obtain ⟨a, kvs, rfl, hk, rr⟩ := r.dct n.ok
    refine ⟨a, kvs, ps.map (·.1), rfl, .inl hk, ?_, fun ys p hp hy hq => ?_⟩
    · rw [rr.keys]
      unfold kvD
      rw [List.map_map, List.map_map]
      rfl
    · rw [perm_sorted hp hy hs]
      exact k p G _ (n.trans (Nx.raw n.ok hq)) (n.was hq) (lc_new n.ok (s.nx n) hq (RpAll.of_ints _))

/-! ### numbers in a list -/
theorem flatI (ns : List Int) : (ns.map V.int).all flatV = true := by
  induction ns with
  | nil => rfl
  | cons n ns ih => rw [List.map_cons, List.all_cons, ih]; rfl
theorem inVI (n : Int) (ns : List Int) : inV (.int n) (ns.map V.int) = decide (n ∈ ns) := by
  induction ns with
  | nil => rfl
  | cons m ns ih =>
    unfold inV at ih ⊢
    rw [List.map_cons, List.any_cons, ih]
    by_cases e : m = n
    · subst e; simp [eqV]
    · have e2 : ¬ n = m := fun q => e q.symm
      simp [e, e2, eqV]
theorem ev_inL {ns : List Int} {n : Int} (ha : Ev K ta env (.int n)) (hb : EvR K tb env (.lst (dI ns))) : Ev K (tOp (rIn K false) ta tb) env (.bl (decide (n ∈ ns))) :=
  ev_opR ha hb fun H0 F h H vx vy ok rx ry Q k => by
    obtain ⟨a, xs, rfl, hs, rr⟩ := ry.lst ok
    have e := rr.ints
    subst e
    refine ⟨a, _, rfl, .inl (.inl (.inl hs)), by rw [rx.int_eq]; rfl, flatI ns, ?_⟩
    rw [rx.int_eq, if_neg Bool.false_ne_true, inVI]
    exact k _ F H (Nx.refl ok) (.bl _)
abbrev rAbs : List V → Hp → VK → Prop := fun xs H Q => ∃ i, xs = [.int i] ∧ Q (.int (if i < 0 then -i else i)) H
theorem ev_abs {i : Int} (ha : Ev K ta env (.int i)) : Ev K (tCB rAbs (tCons ta tNil)) env (.int (i.natAbs : Nat)) := fun H0 F h H σ ok s Q k =>
  ha H0 F h H σ ok s _ fun v G H' n r => ⟨i, by rw [r.int_eq], by
    have e : (if i < 0 then -i else i) = ((i.natAbs : Nat) : Int) := by split <;> omega
    rw [e]
    exact k _ G H' n (.int _)⟩

theorem Nx.freezeX {F h H F1 h1 H1 G : Hp} {p : Addr} (n : Nx F h H F1 h1 H1) (ok : Ok G h1 H1) (ex : Ex F1 G) (hp : H p = none) (only : ∀ b o, G b = some o → F1 b = none → b = p) : Nx F h H G h1 H1 where
  ok := ok
  ex := n.ex.trans ex
  out := n.out
  stay := n.stay
  newG := fun b o e f => by
    cases q : F1 b with
    | some u => exact n.newG b u q f
    | none => rw [only b o e q]; exact hp
  newh := n.newh
/-! ### comprehensions that turn what is one's own -/
theorem ex_map {α : Type} {wi : TI} {j : Nat} {vs : List Nat} {xs : List α} {enc : α → D} (Iz : Nat → Iv) (Pz : α → D → Prop) (e : EvI K wi env (xs.map enc)) (hz : xs.length < sizeLine) (hj : j ∈ vs)
    (hf : ∀ (i : Nat) x, xs[i]? = some x → EvX K (Iz i) (Iz (i + 1)) te ((wipeE env vs).set j (Sl.val (enc x))) (Pz x)) :
    EvX K (Iz 0) (Iz xs.length) (tLc wi (gName j) tYes te vs) env (fun d => ∃ ds, d = .lst ds ∧ ds.length = xs.length ∧ ∀ (i : Nat) x, xs[i]? = some x → ∃ d, ds[i]? = some d ∧ Pz x d) := by
  intro H0 F h H σ ok hI s Q k
  refine e H0 F h H σ ok s _ fun J gz F1 H1 n1 src hz1 Dl hD => ?_
  have hD0 : H Dl = none := n1.was hD
  have nr := Nx.raw (o := .lst []) n1.ok hD
  let Pv : Nat → Hp → Prop := fun i H' => ∃ G h' ds, Nx F1 h H1 G h' H' ∧ (Iz i).p G h' ∧ Lc K H0 G h' H' Dl (.lst ds) ∧ ds.length = i ∧ ∀ (m : Nat) x, m < i → xs[m]? = some x → ∃ d, ds[m]? = some d ∧ Pz x d
  refine ⟨fun i m H' => m = xs.length - i ∧ i ≤ xs.length ∧ Pv i H', ⟨xs.length, by simp, Nat.zero_le _, F1, h, [], nr, (Iz 0).mono n1.ex n1.ok.dj hI, lc_new n1.ok (s.nx n1) hD .nil, rfl, fun m x hm => by omega⟩, ?_⟩
  rintro i m H' ⟨rfl, hi, G, h', ds, n, hIi, lc, hdl, hds⟩
  by_cases hlt : i < xs.length
  · have hx : xs[i]? = some xs[i] := List.getElem?_eq_getElem hlt
    have hd : (xs.map enc)[i]? = some (enc xs[i]) := by rw [List.getElem?_map, hx]; rfl
    obtain ⟨hgo, hy⟩ := src.go i G h' H' _ n.ok (gz.mono n.ex hz1) hd
    refine .inr ⟨hgo, Pv (i + 1), fun H2 q => ⟨xs.length - (i + 1), by omega, rfl, hlt, q⟩, fun v H2 y => ?_⟩
    obtain ⟨G2, n2, r2⟩ := hy v H2 y
    have sw := ((s.nx (n1.trans (n.trans n2))).wipe vs)
    refine ⟨wipe_set hj, ?_⟩
    show te (List.set (L2.wipe σ vs) j (some v)) H2 _
    refine hf i _ hx H0 G2 h' H2 _ n2.ok ((Iz i).mono n2.ex n2.ok.dj hIi) (sw.set r2 j) _ fun v4 d4 G4 h4 H4 n4 j4 p4 r4 => ?_
    have lc4 := (lc.nx n2).nx n4
    obtain ⟨a1, a2, a3, us, a4, a5⟩ := id lc4
    have ln := a5.len
    refine ⟨us, a4, by rw [ln, hdl]; omega, G4, h4, ds ++ [d4], (n.trans (n2.trans n4)).put a1 a2 hD ⟨_, a4⟩, j4, ⟨a1, a2, a3, _, upd_same, a5.append (.cons r4 .nil)⟩, by rw [List.length_append, hdl]; rfl, fun m x hm hx' => ?_⟩
    by_cases hmi : m < i
    · obtain ⟨d, e1, e2⟩ := hds m x hmi hx'
      exact ⟨d, by rw [List.getElem?_append_left (by rw [hdl]; exact hmi)]; exact e1, e2⟩
    · have em : m = i := by omega
      subst em
      rw [hx] at hx'
      cases hx'
      exact ⟨d4, by rw [List.getElem?_append_right (by rw [hdl]; exact Nat.le_refl _), hdl, Nat.sub_self]; rfl, p4⟩
  · have ei : i = xs.length := by omega
    subst ei
    refine .inl ⟨?_, ?_⟩
    · have := src.stop G h' H' n.ok (gz.mono n.ex hz1)
      rw [List.length_map] at this
      exact this
    · obtain ⟨G2, ok2, ex2, rp, only⟩ := Lw.freeze lc n.ok
      refine k (.ref Dl) (.lst ds) G2 h' H' ((n1.trans n).freezeX ok2 ex2 hD0 only) ((Iz xs.length).mono ex2 ok2.dj hIi) ⟨ds, rfl, hdl, fun m x hm => hds m x (List.getElem?_eq_some_iff.mp hm).1 hm⟩ rp
end
end Lw
namespace Lw
open PySem PySem.Spec PyProof.Rows L2

/-! ### instances: fields as slots -/
structure At where
  h0 : Hp
  o : Addr
  dx : Addr
def emp : Hp := fun _ => none
def At.base (A : At) : Hp := upd A.h0 A.o (.own A.o)
structure ObV (K : PySem.W.Frag) (C : Addr) (A : At) (ns : List Str) (fs : List Sl) (F h : Hp) (vs : List V) : Prop where
  len : vs.length = ns.length
  at_ : h A.o = some (.ins C A.dx (ns.zip vs))
  sat : Sat K A.base F emp h fs (vs.map some)
  old : Ex A.h0 h
  new : A.h0 A.o = none
def ObP (K : PySem.W.Frag) (C : Addr) (A : At) (ns : List Str) (fs : List Sl) (F h : Hp) : Prop := ∃ vs, ObV K C A ns fs F h vs
theorem ObV.mono {K : PySem.W.Frag} {C : Addr} {A : At} {ns : List Str} {fs : List Sl} {F G h : Hp} {vs : List V} (e : Ex F G) (dj : ∀ b o, h b = some o → G b = none) (q : ObV K C A ns fs F h vs) : ObV K C A ns fs G h vs := by
  refine ⟨q.len, q.at_, ⟨q.sat.len, q.sat.old, fun i d z => ?_, fun i d z => ?_, q.sat.sep⟩, q.old, q.new⟩
  · obtain ⟨v, e1, r⟩ := q.sat.val i d z
    exact ⟨v, e1, r.mono e⟩
  · obtain ⟨a, e1, l⟩ := q.sat.own i d z
    refine ⟨a, e1, ?_⟩
    cases d with
    | lst ds =>
      obtain ⟨f, g, w, xs, hx, r⟩ := l
      exact ⟨dj a _ hx, g, w, xs, hx, r.mono e⟩
    | dct ds =>
      obtain ⟨f, g, w, xs, hx, r⟩ := l
      exact ⟨dj a _ hx, g, w, xs, hx, r.mono e⟩
    | _ => exact l.elim
def Iv.ob (K : PySem.W.Frag) (C : Addr) (A : At) (ns : List Str) (fs : List Sl) : Iv := ⟨ObP K C A ns fs, fun e dj ⟨vs, q⟩ => ⟨vs, q.mono e dj⟩⟩
theorem lookup_zip : ∀ {ns : List Str} {vs : List V} {i : Nat} {f : Str} {v : V}, ns.Nodup → ns[i]? = some f → vs[i]? = some v → (ns.zip vs).lookup f = some v
  | [], _, _, _, _, _, e, _ => by simp at e
  | n :: ns, [], _, _, _, _, _, e => by simp at e
  | n :: ns, w :: vs, 0, f, v, _, e1, e2 => by
    have e1 : n = f := Option.some.inj e1
    have e2 : w = v := Option.some.inj e2
    subst e1 e2
    show List.lookup n ((n, w) :: ns.zip vs) = some w
    rw [List.lookup_cons]
    simp
  | n :: ns, w :: vs, i + 1, f, v, hn, e1, e2 => by
    rw [List.nodup_cons] at hn
    have e1 : ns[i]? = some f := by simpa using e1
    have e2 : vs[i]? = some v := by simpa using e2
    have hne : ¬ f = n := fun q => hn.1 (by rw [← q]; exact List.mem_of_getElem? e1)
    show List.lookup f ((n, w) :: ns.zip vs) = some v
    rw [List.lookup_cons]
    have : (f == n) = false := beq_eq_false_iff_ne.mpr hne
    rw [this]
    exact lookup_zip hn.2 e1 e2
theorem lookup_zip_none : ∀ {ns : List Str} {vs : List V} {f : Str}, ¬ f ∈ ns → (ns.zip vs).lookup f = none
  | [], _, _, _ => by simp
  | _ :: _, [], _, _ => by simp
  | n :: ns, w :: vs, f, h => by
    rw [List.mem_cons, not_or] at h
    show List.lookup f ((n, w) :: ns.zip vs) = none
    rw [List.lookup_cons]
    have : (f == n) = false := beq_eq_false_iff_ne.mpr h.1
    rw [this]
    exact lookup_zip_none h.2
theorem putF_same : ∀ {fs : List (Str × V)} {f : Str} {v : V}, fs.lookup f = some v → putF f v fs = fs
  | [], _, _, e => by simp at e
  | (g, x) :: r, f, v, e => by
    show (if g = f then (g, v) :: r else (g, x) :: putF f v r) = _
    rw [List.lookup_cons] at e
    by_cases h : f = g
    · subst h
      rw [if_pos rfl]
      have : (f == f) = true := by simp
      rw [this] at e
      cases e
      rfl
    · have : (f == g) = false := beq_eq_false_iff_ne.mpr h
      rw [this] at e
      rw [if_neg (fun q => h q.symm), putF_same e]
theorem upd_id {H : Hp} {a : Addr} {o : HO} (h : H a = some o) : upd H a o = H := by
  funext b
  by_cases e : b = a
  · subst e; rw [upd_same]; exact h.symm
  · rw [upd_ne e]
/-- an object of one's own part is written -/
theorem Nx.hset {F h H : Hp} {l : Addr} {u o : HO} (ok : Ok F h H) (hl : h l = some u) : Nx F h H F (upd h l o) (upd H l o) := by
  have hF : F l = none := ok.dj l u hl
  have nF : ∀ b w, F b = some w → b ≠ l := fun b w e q => by rw [q, hF] at e; cases e
  refine ⟨⟨fun b w e => by rw [upd_ne (nF b w e)]; exact ok.ef b w e, fun b w e => ?_, fun b w e => ?_⟩, Evl.Ex.refl _, fun b w e n => ?_, fun b w e => ?_, fun b w e n => (by rw [e] at n; cases n), fun b w e n => ?_⟩
  · by_cases hb : b = l
    · subst hb; rw [upd_same] at e ⊢; exact e
    · rw [upd_ne hb] at e ⊢; exact ok.eh b w e
  · by_cases hb : b = l
    · subst hb; exact hF
    · rw [upd_ne hb] at e; exact ok.dj b w e
  · have hb : b ≠ l := fun q => by rw [q, hl] at n; cases n
    rw [upd_ne hb]; exact e
  · by_cases hb : b = l
    · subst hb; exact ⟨o, upd_same⟩
    · exact ⟨w, by rw [upd_ne hb]; exact e⟩
  · by_cases hb : b = l
    · subst hb; rw [hl] at n; cases n
    · rw [upd_ne hb] at e; rw [e] at n; cases n
/-- the part that was one's own for a while is let go -/
theorem Nx.drop {F0 h0 H0 F h H : Hp} (n : Nx F0 h0 H0 F h H) (e : Ex h0 h) : Nx F0 h0 H0 F h0 H where
  ok := ⟨n.ok.ef, e.trans n.ok.eh, fun b o q => n.ok.dj b o (e b o q)⟩
  ex := n.ex
  out := n.out
  stay := n.stay
  newG := n.newG
  newh := fun b o q r => by rw [q] at r; cases r
section
variable {K : PySem.W.Frag} {env : List Sl} {ta tb te tl : TE} {tA tr : TA} {t tt : TT} {d x y z : D} {P : D → Prop} {I J L : Iv}
variable {F0 h0 H0 H : Hp} {gs : Gh} {σ : L2.St} {En : Ends} {tu tw : TS} {C : Addr} {A : At} {ns : List Str} {fs : List Sl} {f : Str} {i : Nat}
theorem ObV.fld {F h : Hp} {vs : List V} (q : ObV K C A ns fs F h vs) (hns : ns.Nodup) (hi : ns[i]? = some f) : ∃ v, vs[i]? = some v ∧ (ns.zip vs).lookup f = some v := by
  have hl : i < vs.length := by rw [q.len]; exact (List.getElem?_eq_some_iff.mp hi).1
  exact ⟨vs[i], List.getElem?_eq_getElem hl, lookup_zip hns hi (List.getElem?_eq_getElem hl)⟩
theorem ObV.val {F h : Hp} {vs : List V} (q : ObV K C A ns fs F h vs) (hns : ns.Nodup) (hi : ns[i]? = some f) (hf : fs[i]? = some (Sl.val d)) : ∃ v, (ns.zip vs).lookup f = some v ∧ Rp K F v d := by
  obtain ⟨v, e1, e2⟩ := q.fld hns hi
  obtain ⟨w, e3, r⟩ := q.sat.val i d hf
  rw [List.getElem?_map, e1] at e3
  cases e3
  exact ⟨v, e2, r⟩
theorem ObV.own {F h : Hp} {vs : List V} (q : ObV K C A ns fs F h vs) (hns : ns.Nodup) (hi : ns[i]? = some f) (hf : fs[i]? = some (Sl.own d)) : ∃ a, (ns.zip vs).lookup f = some (.ref a) ∧ (vs.map some)[i]? = some (some (V.ref a)) ∧ Lc K A.base F emp h a d := by
  obtain ⟨v, e1, e2⟩ := q.fld hns hi
  obtain ⟨a, e3, l⟩ := q.sat.own i d hf
  have e4 := e3
  rw [List.getElem?_map, e1] at e3
  cases e3
  exact ⟨a, e2, e4, l⟩
theorem base_none {a : Addr} (h : A.base a = none) : a ≠ A.o ∧ A.h0 a = none := by
  unfold At.base at h
  have ne : a ≠ A.o := fun q => by rw [q, upd_same] at h; cases h
  rw [upd_ne ne] at h
  exact ⟨ne, h⟩
/-- a field that is a value -/
theorem ex_fld (c : Cls K C) (hn : NoAttr K C f) (hns : ns.Nodup) (hi : ns[i]? = some f) (hf : fs[i]? = some (Sl.val d)) (ho : Ev K te env (.raw (.ref A.o))) : EvX K (Iv.ob K C A ns fs) (Iv.ob K C A ns fs) (tFld K te f) env (· = d) :=
  fun H0 F h H σ ok hI s Q k => ho H0 F h H σ ok s _ fun v G H' n r => by
    obtain ⟨vs, q⟩ := (Iv.ob K C A ns fs).mono n.ex n.ok.dj hI
    obtain ⟨u, e1, r1⟩ := q.val hns hi hf
    exact ⟨A.o, C, A.dx, _, u, r.raw_eq, n.ok.eh _ _ q.at_, c, hn, e1, k u d G h H' n ⟨vs, q⟩ rfl r1⟩
/-- a field that is a list or dict of one's own, read -/
def EvF (K : PySem.W.Frag) (I : Iv) (te : TE) (env : List Sl) (d : D) : Prop :=
  ∀ (H0 F h H : Hp) (σ : L2.St), Ok F h H → I.p F h → Sat K H0 F h H env σ → ∀ Q : VK, (∀ v G H' A', Nx F h H G h H' → I.p G h → Rr K A' G emp h v d → Q v H') → te σ H Q
theorem ef_fld (c : Cls K C) (hn : NoAttr K C f) (hns : ns.Nodup) (hi : ns[i]? = some f) (hf : fs[i]? = some (Sl.own d)) (ho : Ev K te env (.raw (.ref A.o))) : EvF K (Iv.ob K C A ns fs) (tFld K te f) env d :=
  fun H0 F h H σ ok hI s Q k => ho H0 F h H σ ok s _ fun v G H' n r => by
    obtain ⟨vs, q⟩ := (Iv.ob K C A ns fs).mono n.ex n.ok.dj hI
    obtain ⟨a, e1, e2, l⟩ := q.own hns hi hf
    exact ⟨A.o, C, A.dx, _, _, r.raw_eq, n.ok.eh _ _ q.at_, c, hn, e1, k _ G H' A.base n ⟨vs, q⟩ (.inr ⟨a, rfl, l⟩)⟩
theorem Rr.lstF {F h H A' : Hp} {v : V} {ds : List D} (ok : Ok F h H) (q : Rr K A' F emp h v (.lst ds)) : ∃ a xs, v = .ref a ∧ H a = some (.lst xs) ∧ RpAll K F xs ds := by
  rcases q with q | ⟨a, e, f, g, z, xs, ha, rr⟩
  · obtain ⟨a, xs, e, hs, rr⟩ := q.lst_of
    exact ⟨a, xs, e, ok.ef _ _ hs, rr⟩
  · exact ⟨a, xs, e, ok.eh _ _ ha, rr⟩
theorem ex_flen {ds : List D} (ha : EvF K I ta env (.lst ds)) : EvX K I I (tCB (rLen K) (tCons ta tNil)) env (· = .int (ds.length : Nat)) := fun H0 F h H σ ok hI s Q k =>
  ha H0 F h H σ ok hI s _ fun v G H' A' n j r => by
    obtain ⟨a, xs, rfl, hs, rr⟩ := r.lstF n.ok
    exact ⟨a, xs, rfl, .inl (.inl (.inl hs)), by rw [rr.len]; exact k _ _ G h H' n j rfl (.int _)⟩
theorem ex_ftup {ds : List D} (ha : EvF K I ta env (.lst ds)) : EvX K I I (tThen ta (kTupZ K)) env (· = .tupZ ds) := fun H0 F h H σ ok hI s Q k =>
  ha H0 F h H σ ok hI s _ fun v G H' A' n j r => by
    obtain ⟨a, xs, rfl, hs, rr⟩ := r.lstF n.ok
    refine ⟨a, xs, rfl, .inl (.inl hs), fun q o its m hq h1 h2 h3 => ?_⟩
    have n2 := Nx.new (o := .frz o (.tup xs)) n.ok hq
    exact k (.ref q) _ _ h _ (n.trans n2) (I.mono n2.ex n2.ok.dj j) rfl (.tupZ ⟨o, its, m, upd_same, h1, h2, h3⟩ (rr.mono n2.ex))
/-- the heap behind a change of a list that a field holds -/
theorem ob_change {F h : Hp} {vs : List V} {d' : D} {a : Addr} {o : HO} (q : ObV K C A ns fs F h vs) (hf : fs[i]? = some (Sl.own d)) (ea : (vs.map some)[i]? = some (some (V.ref a))) (l : Lc K A.base F emp h a d) (l' : Lc K A.base F emp (upd h a o) a d') : ObV K C A ns (fs.set i (Sl.own d')) F (upd h a o) vs := by
  obtain ⟨ne, h0a⟩ := base_none l.frees.2.2
  refine ⟨q.len, by rw [upd_ne ne.symm]; exact q.at_, q.sat.change hf ea l' l, fun b u e => ?_, q.new⟩
  have nb : b ≠ a := fun z => by rw [z, h0a] at e; cases e
  rw [upd_ne nb]
  exact q.old b u e
/-- e.f.append(x) -/
theorem s_fApp {ds : List D} (S : State K F0 h0 H0 (Iv.ob K C A ns fs) env gs σ H) (c : Cls K C) (hn : NoAttr K C f) (hns : ns.Nodup) (hi : ns[i]? = some f) (hf : fs[i]? = some (Sl.own (.lst ds))) (ho : Ev K te env (.raw (.ref A.o))) (e : Ev K ta env d) (hl : ds.length < sizeLine)
    (k : ∀ H', State K F0 h0 H0 (Iv.ob K C A ns (fs.set i (Sl.own (.lst (ds ++ [d]))))) env gs σ H' → En.nx σ H') : tDrop (tBM K "list" rAppend (tFld K te f) (tCons ta tNil)) En σ H := by
  obtain ⟨F, h, n0, hI, s, hg⟩ := S
  refine ho H0 F h H σ n0.ok s _ fun v G H1 n1 r1 => ?_
  obtain ⟨vs, q⟩ := (Iv.ob K C A ns fs).mono n1.ex n1.ok.dj hI
  obtain ⟨a, e1, e2, l⟩ := q.own hns hi hf
  obtain ⟨f1, g1, z1, xs, ex, rx⟩ := id l
  refine ⟨A.o, C, A.dx, _, _, r1.raw_eq, n1.ok.eh _ _ q.at_, c, hn, e1, .inl ⟨rfl, xs, .inl (.inl (n1.ok.eh _ _ ex))⟩, e H0 G h H1 σ n1.ok (s.nx n1) _ fun w G2 H2 n2 r2 => ?_⟩
  have q2 := q.mono n2.ex n2.ok.dj
  obtain ⟨a2, e12, e22, l2⟩ := q2.own hns hi hf
  rw [e22] at e2
  cases e2
  obtain ⟨f2, g2, z2, ys, ey, ry⟩ := id l2
  rw [ex] at ey
  cases ey
  refine ⟨a, xs, w, rfl, rfl, n2.ok.eh _ _ ex, by rw [rx.len]; exact hl, ?_⟩
  have n3 := Nx.hset (o := .lst (xs ++ [w])) n2.ok ex
  exact k _ ⟨G2, _, ((n0.trans n1).trans n2).trans n3, ⟨vs, ob_change q2 hf e22 l2 ⟨f2, g2, z2, _, upd_same, ry.append (.cons r2 .nil)⟩⟩, ((s.nx n1).nx n2).nx n3, gs.mono n2.ex (gs.mono n1.ex hg)⟩
/-- e.f += ys -/
theorem s_fExt {ds es : List D} (S : State K F0 h0 H0 (Iv.ob K C A ns fs) env gs σ H) (c : Cls K C) (hn : NoAttr K C f) (hns : ns.Nodup) (hi : ns[i]? = some f) (hf : fs[i]? = some (Sl.own (.lst ds))) (ho : Ev K te env (.raw (.ref A.o))) (e : Ev K ta env (.lst es)) (hl : ds.length + es.length ≤ sizeLine) (h1 : ns.length < 1000)
    (k : ∀ H', State K F0 h0 H0 (Iv.ob K C A ns (fs.set i (Sl.own (.lst (ds ++ es))))) env gs σ H' → En.nx σ H') : sFldAug K te ta rExt2 f En σ H := by
  obtain ⟨F, h, n0, hI, s, hg⟩ := S
  refine ho H0 F h H σ n0.ok s _ fun v G H1 n1 r1 => ?_
  obtain ⟨vs, q⟩ := (Iv.ob K C A ns fs).mono n1.ex n1.ok.dj hI
  obtain ⟨a, e1, e2, l⟩ := q.own hns hi hf
  obtain ⟨f1, g1, z1, xs, ex, rx⟩ := id l
  refine ⟨A.o, C, A.dx, _, _, r1.raw_eq, n1.ok.eh _ _ q.at_, c, hn, e1, e H0 G h H1 σ n1.ok (s.nx n1) _ fun w G2 H2 n2 r2 => ?_⟩
  have q2 := q.mono n2.ex n2.ok.dj
  obtain ⟨a2, e12, e22, l2⟩ := q2.own hns hi hf
  rw [e22] at e2
  cases e2
  obtain ⟨f2, g2, z2, ys, ey, ry⟩ := id l2
  rw [ex] at ey
  cases ey
  obtain ⟨b, zs, rfl, hz, rz⟩ := r2.lst_of
  refine ⟨a, b, xs, zs, rfl, rfl, n2.ok.eh _ _ ex, n2.ok.ef _ _ hz, by rw [rx.len, rz.len]; exact hl, ?_⟩
  have n3 := Nx.hset (o := .lst (xs ++ zs)) n2.ok ex
  have q3 := ob_change q2 hf e22 l2 (d' := .lst (ds ++ es)) (o := .lst (xs ++ zs)) ⟨f2, g2, z2, _, upd_same, ry.append rz⟩
  have ho3 := n3.ok.eh _ _ q3.at_
  refine ⟨A.dx, _, ho3, ?_, ?_⟩
  · rw [List.length_zip, q.len]
    omega
  · rw [putF_same e1, upd_id ho3]
    exact k _ ⟨G2, _, ((n0.trans n1).trans n2).trans n3, ⟨vs, q3⟩, ((s.nx n1).nx n2).nx n3, gs.mono n2.ex (gs.mono n1.ex hg)⟩
/-- o.m(..) -/
theorem ex_meth {X : Type} {n : Nat} {I' J' : X → Iv} {Pre : X → List D → Prop} {R : X → D → Prop} {E : XK} {m : Str} {ds : List D} (a : X) (hI : ∀ F h, I.p F h → (I' a).p F h) (hob : ∀ F h, I.p F h → ObP K C A ns fs F h) (hm : ¬ m ∈ ns) (ho : Ev K te env (.raw (.ref A.o))) (ha : EvA K tA env ds) (hp : ds.length + 1 = n ∧ Pre a (.raw (.ref A.o) :: ds)) :
    EvX K I (J' a) (tMeth C m (iSp K n I' J' Pre R) [] E te tA) env (R a) :=
  fun H0 F h H σ ok hI0 s Q k => ho H0 F h H σ ok s _ fun v G H1 n1 r1 => by
    have i1 := I.mono n1.ex n1.ok.dj hI0
    obtain ⟨vs, q⟩ := hob _ _ i1
    refine ⟨A.o, A.dx, _, r1.raw_eq, n1.ok.eh _ _ q.at_, lookup_zip_none hm, ha H0 G h H1 σ n1.ok (s.nx n1) _ fun ws G2 H2 n2 r2 => ?_⟩
    rw [r1.raw_eq]
    show iSp K n I' J' Pre R (V.ref A.o :: (ws ++ [])) H2 Q E
    rw [List.append_nil]
    exact ⟨a, G2, h, _, n2.ok, hI _ _ (I.mono n2.ex n2.ok.dj i1), .cons (.raw _) r2, hp.1, hp.2, fun v d G3 h3 H3 n3 j3 p3 r3 => k v d G3 h3 H3 ((n1.trans n2).trans n3) j3 p3 r3⟩
end

/-! ### classes and methods that may be called -/
structure Met (P : Program) (w : World) (K : PySem.W.Frag) (mg : Str → Option Value) (base : Heap) (k : Nat) (C : Addr) (m : Str) (sp : Sp) : Prop where
  ex : ∃ (f : Addr) (fd : FuncData) (ps : List Str), Cls K C ∧ Meth K C m f ∧ FnOk P w K mg base L2.CX0 k f fd ps sp ∧ Binds K fd ps []
structure Mak (P : Program) (w : World) (K : PySem.W.Frag) (mg : Str → Option Value) (base : Heap) (k : Nat) (x : Str) (C : Addr) (sp : Sp) : Prop where
  ex : ∃ (f : Addr) (fd : FuncData) (ps : List Str), Mk K C f ∧ FnOk P w K mg base L2.CX0 k f fd ps sp ∧ mg x = some (.ref C) ∧ Binds K fd ps []
section
variable {X : Cx} {k j : Nat} {C : Addr} {x m : Str} {sp : Sp} {p pos apos : Pos} {e o : Expr} {es : List Expr} {ta : TE} {t : TA}
theorem pe_mk (c : Mak X.prog X.w X.K X.mg X.base k x C sp) (hr : Room j X.A) (hk : k + 1 ≤ j) (hg : Gl X x) (ha : PA X (e :: es) t)
    (he : starEach (e :: es) X.env = (false, eval e X.env) :: starEach es X.env := by rfl) (hdb : (x == ("__debug__" : Str)) = false := by decide)
    (hpl : (backTo pos (starEach es X.env)).any (·.1) = false := by rfl) : PE X (.Call (.Name x p) (e :: es) [] pos) (tMake C sp [] E0 t) := by
  obtain ⟨f, fd, ps, M, F, hm, b⟩ := c.ex
  exact pe_make M F (hr.mono hk) hg hm b .nil pass0 ha hdb he hpl
theorem pe_mt {pl : Sem Bool} (c : Met X.prog X.w X.K X.mg X.base k C m sp) (hr : Room j X.A) (hk : k ≤ j) (he : PE X o ta) (ha : PA X (e :: es) t)
    (hpl : (backTo pos (starEach es X.env)).any (·.1) = false := by rfl) (hst : starEach (e :: es) X.env = (false, eval e X.env) :: starEach es X.env := by rfl)
    (ht : eval (.Call (.Attribute o m apos) (e :: es) [] pos) X.env = (do let ov ← eval o X.env; standAt apos.atName; let (f, first) ← holding [ov] (getMethod ov m pl); callWith pos f first (backTo pos (starEach (e :: es) X.env)) (backToKw pos (keywordEach [] X.env))) := by rfl) :
    PE X (.Call (.Attribute o m apos) (e :: es) [] pos) (tMeth C m sp [] E0 ta t) := by
  obtain ⟨f, fd, ps, hc, hm, F, b⟩ := c.ex
  exact pe_meth (pl := pl) he hc hm F (hr.mono hk) b .nil pass0 ha hst hpl ht
theorem pe_mt0 {pl : Sem Bool} (c : Met X.prog X.w X.K X.mg X.base k C m sp) (hr : Room j X.A) (hk : k ≤ j) (he : PE X o ta)
    (ht : eval (.Call (.Attribute o m apos) [] [] pos) X.env = (do let ov ← eval o X.env; standAt apos.atName; let (f, first) ← holding [ov] (getMethod ov m pl); callWith pos f first (backTo pos (starEach [] X.env)) (backToKw pos (keywordEach [] X.env))) := by rfl) :
    PE X (.Call (.Attribute o m apos) [] [] pos) (tMeth C m sp [] E0 ta tNil) := by
  obtain ⟨f, fd, ps, hc, hm, F, b⟩ := c.ex
  exact pe_meth0 (pl := pl) he hc hm F (hr.mono hk) b .nil pass0 ht
end
/-- what is owed where the instance is let go -/
theorem Done.drop {K : PySem.W.Frag} {F0 h0 H0 : Hp} {C o dx : Addr} {ns : List Str} {fs : List Sl} {d : D} {Q : VK} (h : Done K F0 h0 H0 (Iv.eq h0) d Q) : Done K F0 h0 H0 (Iv.ob K C ⟨h0, o, dx⟩ ns fs) d Q :=
  fun v F hh H n ⟨vs, q⟩ r => h v F h0 H (n.drop q.old) rfl r
/-- an instance made: what is owed behind its __init__ -/
theorem s_make {K : PySem.W.Frag} {env : List Sl} {tA : TA} {F0 h0 H0 H : Hp} {gs : Gh} {σ : L2.St} {En : Ends} {i : Nat} {C : Addr} {sp : Sp} {E : XK} {ns : List Str} {fs : List Sl} {ds : List D} (S : State K F0 h0 H0 (Iv.eq h0) env gs σ H) (he : EvA K tA env ds)
    (hin : ∀ (F : Hp) (vs : List V) (H1 : Hp) (x dx : Addr) (Q : VK), RpAll K F vs ds → Ok F h0 H1 → H1 x = none → H1 dx = none → dx ≠ x →
      (∀ h' H', Nx F h0 H1 F h' H' → ObP K C ⟨h0, x, dx⟩ ns fs F h' → Q .non H') → sp (.ref x :: vs) (upd (upd H1 dx (.own x)) x (.ins C dx [])) Q E)
    (k : ∀ o dx σ' H', State K F0 h0 H0 (Iv.ob K C ⟨h0, o, dx⟩ ns fs) (env.set i (Sl.val (.raw (.ref o)))) gs σ' H' → En.nx σ' H') : tAsg (tMake C sp [] E tA) (gName i) En σ H := by
  obtain ⟨F, h, n0, hI, s, hg⟩ := S
  have hI : h = h0 := hI
  subst hI
  refine he H0 F h H σ n0.ok s _ fun vs G H1 n1 r1 x dx hx hdx hne => ?_
  rw [List.append_nil]
  refine hin G vs H1 x dx _ r1 n1.ok hx hdx hne fun h' H' n2 ob => ⟨rfl, ?_⟩
  exact k x dx _ H' ⟨G, h', (n0.trans n1).trans n2, ob, ((s.nx n1).nx n2).set (.raw _) i, gs.mono n1.ex hg⟩
end Lw
namespace Lw
open PySem PySem.Spec PyProof.Rows L2

theorem State.fs {K : PySem.W.Frag} {F0 h0 H0 H : Hp} {C : Addr} {A : At} {ns : List Str} {fs fs' : List Sl} {env : List Sl} {gs : Gh} {σ : L2.St} (S : State K F0 h0 H0 (Iv.ob K C A ns fs) env gs σ H) (e : fs = fs') : State K F0 h0 H0 (Iv.ob K C A ns fs') env gs σ H := e ▸ S
/-! ### shapes of data -/
structure Shp (d : PyData) (n : Nat) : Prop where
  lay : d.canLay0 = true
  dep : d.depth ≤ n
structure ShpAll (ds : List PyData) (n : Nat) : Prop where
  lay : PyData.canLayAll0 ds = true
  dep : PyData.depthAll ds ≤ n
theorem Shp.shaped {d : PyData} {n : Nat} (h : Shp d n) (hn : n ≤ 64 := by decide) : SeqAt.shaped d = true := by
  unfold SeqAt.shaped
  rw [h.lay, decide_eq_true (Nat.le_trans h.dep hn)]
  rfl
theorem shp_none {n : Nat} : Shp .none n := ⟨by simp [PyData.canLay0], by simp [PyData.depth]⟩
theorem shp_bool {b : Bool} {n : Nat} : Shp (.bool b) n := ⟨by simp [PyData.canLay0], by simp [PyData.depth]⟩
theorem shp_int {i : Int} {n : Nat} : Shp (.int i) n := ⟨by simp [PyData.canLay0], by simp [PyData.depth]⟩
theorem shpAll_nil {n : Nat} : ShpAll [] n := ⟨by simp [PyData.canLayAll0], by simp [PyData.depthAll]⟩
theorem shpAll_cons {d : PyData} {ds : List PyData} {n : Nat} (h : Shp d n) (g : ShpAll ds n) : ShpAll (d :: ds) n := ⟨by rw [PyData.canLayAll0, h.lay, g.lay]; rfl, by rw [PyData.depthAll]; exact Nat.max_le.mpr ⟨h.dep, g.dep⟩⟩
theorem shpAll_map {α : Type} {f : α → PyData} {n : Nat} : ∀ {xs : List α}, (∀ x ∈ xs, Shp (f x) n) → ShpAll (xs.map f) n
  | [], _ => shpAll_nil
  | x :: xs, h => shpAll_cons (h x List.mem_cons_self) (shpAll_map fun y hy => h y (List.mem_cons_of_mem _ hy))
theorem shp_list {ds : List PyData} {n : Nat} (h : ShpAll ds n) : Shp (.list ds) (n + 1) := ⟨by rw [PyData.canLay0]; exact h.lay, by rw [PyData.depth]; exact Nat.succ_le_succ h.dep⟩
theorem shp_tuple {ds : List PyData} {n : Nat} (h : ShpAll ds n) : Shp (.tuple ds) (n + 1) := ⟨by rw [PyData.canLay0]; exact h.lay, by rw [PyData.depth]; exact Nat.succ_le_succ h.dep⟩
theorem PyAll.map {α : Type} {f : α → D} {g : α → PyData} : ∀ {xs : List α}, (∀ x ∈ xs, Py (f x) (g x)) → PyAll (xs.map f) (xs.map g)
  | [], _ => .nil
  | x :: xs, h => .cons (h x List.mem_cons_self) (PyAll.map fun y hy => h y (List.mem_cons_of_mem _ hy))
theorem eqv_nil (es : List PyData) : PyData.eqv (.list es) (.list []) = es.isEmpty := by
  rw [PyData.eqv]
  cases es <;> rfl
theorem PyAll.isE : ∀ {ds : List D} {es : List PyData}, PyAll ds es → ds.isEmpty = es.isEmpty
  | _, _, .nil => rfl
  | _, _, .cons _ _ => rfl
section
variable {K : PySem.W.Frag} {env : List Sl} {ta tb te : TE} {d x y : D}
/-- xs == [], xs != [] -/
theorem ev_eqNil {ds : List D} {es : List PyData} {n : Nat} (ha : Ev K ta env (.lst ds)) (h : PyAll ds es) (s : ShpAll es n) (hn : n ≤ 63 := by decide) : Ev K (tOp (rEqD K) ta (tLst tNil)) env (.bl ds.isEmpty) :=
  ev_eqD ha (ev_lst ea_nil (Nat.zero_le _)) (.lst h) (.lst .nil) ((shp_list s).shaped (by omega)) ((shp_list (shpAll_nil (n := 0))).shaped (by omega)) (by rw [eqv_nil, h.isE])
theorem ev_neNil {ds : List D} {es : List PyData} {n : Nat} (ha : Ev K ta env (.lst ds)) (h : PyAll ds es) (s : ShpAll es n) (hn : n ≤ 63 := by decide) : Ev K (tOp (rNeD K) ta (tLst tNil)) env (.bl (!ds.isEmpty)) :=
  ev_neD ha (ev_lst ea_nil (Nat.zero_le _)) (.lst h) (.lst .nil) ((shp_list s).shaped (by omega)) ((shp_list (shpAll_nil (n := 0))).shaped (by omega)) (by rw [eqv_nil, h.isE])
/-- the same data -/
theorem ev_neSame {e : PyData} {n : Nat} (ha : Ev K ta env x) (hb : Ev K tb env y) (hx : Py x e) (hy : Py y e) (s : Shp e n) (hn : n ≤ 64 := by decide) : Ev K (tOp (rNeD K) ta tb) env (.bl false) :=
  ev_neD ha hb hx hy (s.shaped hn) (s.shaped hn) (SeqAt.eqv_refl e s.lay)
end
theorem pyI (ns : List Int) : PyAll (dI ns) (ns.map PyData.int) := PyAll.ints ns
theorem shpI {ns : List Int} {n : Nat} : ShpAll (ns.map PyData.int) n := shpAll_map fun _ _ => shp_int
/-! ### places -/
theorem cutD_nat (ds : List D) (a b : Nat) : cutD ds (some (a : Nat)) (some (b : Nat)) = (ds.drop a).take (b - a) := by
  unfold cutD
  rw [HT.sIx_nat, HT.sIx_nat]
  by_cases h : a ≤ ds.length
  · rw [Nat.min_eq_left h]
    by_cases h2 : b ≤ ds.length
    · rw [Nat.min_eq_left h2]
    · rw [Nat.min_eq_right (by omega), List.take_of_length_le, List.take_of_length_le]
      · rw [List.length_drop]; omega
      · rw [List.length_drop]; omega
  · have e1 : ds.drop (min a ds.length) = [] := List.drop_of_length_le (by omega)
    have e2 : ds.drop a = [] := List.drop_of_length_le (by omega)
    rw [e1, e2, List.take_nil, List.take_nil]
theorem cutD_to (ds : List D) (b : Nat) : cutD ds none (some (b : Nat)) = ds.take b := by
  unfold cutD
  rw [HT.sIx_none, HT.sIx_nat, List.drop_zero, Nat.sub_zero]
  by_cases h2 : b ≤ ds.length
  · rw [Nat.min_eq_left h2]
  · rw [Nat.min_eq_right (by omega), List.take_of_length_le (Nat.le_refl _), List.take_of_length_le (by omega)]
theorem cutD_from (ds : List D) (a : Nat) : cutD ds (some (a : Nat)) none = ds.drop a := by
  unfold cutD
  rw [HT.sIx_none, HT.sIx_nat]
  by_cases h : a ≤ ds.length
  · rw [Nat.min_eq_left h, List.take_of_length_le]
    rw [List.length_drop]; omega
  · have e1 : ds.drop (min a ds.length) = [] := List.drop_of_length_le (by omega)
    have e2 : ds.drop a = [] := List.drop_of_length_le (by omega)
    rw [e1, e2, List.take_nil]
theorem atI_D {α : Type} {f : α → D} {xs : List α} {i : Nat} {x : α} (h : xs[i]? = some x) : L2.atI (xs.map f) (i : Nat) = some (f x) := by
  refine atI_nat ?_
  rw [List.getElem?_map, h]
  rfl
/-- o.m(..), the answer told as it is wanted -/
theorem ex_methJ {K : PySem.W.Frag} {env : List Sl} {te : TE} {tA : TA} {I L : Iv} {C : Addr} {A : At} {ns : List Str} {fs : List Sl} {P : D → Prop} {X : Type} {n : Nat} {I' J' : X → Iv} {Pre : X → List D → Prop} {R : X → D → Prop} {E : XK} {m : Str} {ds : List D} (a : X) (hI : ∀ F h, I.p F h → (I' a).p F h) (hob : ∀ F h, I.p F h → ObP K C A ns fs F h) (hm : ¬ m ∈ ns) (ho : Ev K te env (.raw (.ref A.o))) (ha : EvA K tA env ds) (hp : ds.length + 1 = n ∧ Pre a (.raw (.ref A.o) :: ds))
    (hJ : ∀ F h, (J' a).p F h → L.p F h) (hR : ∀ d, R a d → P d) : EvX K I L (tMeth C m (iSp K n I' J' Pre R) [] E te tA) env P :=
  fun H0 F h H σ ok hI0 s Q k => ex_meth (Pre := Pre) (R := R) a hI hob hm ho ha hp H0 F h H σ ok hI0 s Q fun v d G h' H' n j p r => k v d G h' H' n (hJ _ _ j) (hR d p) r
end Lw
namespace Lw
open PySem PySem.Spec PyProof.Rows L2

/-! ### sum(a tuple) -/
abbrev rSumT (K : PySem.W.Frag) : List V → Hp → VK → Prop := fun vs H Q => ∃ (a : Addr) (ns : List Int), vs = [V.ref a] ∧ SqT K H a (ns.map V.int) ∧ Q (.int ns.sum) H
theorem cr_sumT {X : Cx} (hc : X.calm = true) : CallR X (.builtin "sum") (rSumT X.K) := by
  intro pins s σ H vs us Q I r h
  obtain ⟨a, ns, rfl, hs, q⟩ := h
  obtain ⟨its, rv, ⟨o, c1, c2, n, c3⟩, _⟩ := I.tuple hs
  rw [Vals.ref1 r]
  have hi := rv.ints
  have hl : s.heap.IsTuple a its.toArray := ⟨o, c1, c2, n, c3⟩
  obtain ⟨xs, hx⟩ := hi.allInts.items
  have hn : numsOf its.toArray.toList = ns := by rw [show its.toArray.toList = its from rfl, hi.numsOf]
  rw [hx] at hl hn
  rw [nums_intItems] at hn
  refine PySem.W.ktm_sumG (I.ok.hd hc) hl fun h' tk t' hk => ?_
  rw [preSum_eq, List.take_of_length_le (by simp), hn]
  exact ⟨.int _, H, I.kept hk, ⟨_, rfl⟩, q⟩
section
variable {K : PySem.W.Frag} {env : List Sl} {ta tb te tl : TE} {tA tr : TA} {t tt : TT} {d x y z : D} {P : D → Prop} {I J L : Iv}
variable {F0 h0 H0 H : Hp} {gs : Gh} {σ : L2.St} {En : Ends} {tu tw : TS}
theorem ev_sumT {ns : List Int} (ha : Ev K ta env (.tup (dI ns))) : Ev K (tCB (rSumT K) (tCons ta tNil)) env (.int ns.sum) := fun H0 F h H σ ok s Q k =>
  ha H0 F h H σ ok s _ fun v G H' n r => by
    obtain ⟨a, xs, rfl, hs, rr⟩ := r.tup_of
    have e := rr.ints
    subst e
    exact ⟨a, ns, rfl, Evl.ex_t n.ok.ef hs, k _ G H' n (.int _)⟩
/-! ### what is drawn -/
def Al (A : D → Prop) (n : Nat) (ds : List D) : Prop := ds.length = n ∧ ∀ d ∈ ds, A d
theorem al_nil {A : D → Prop} : EvXA K I I tNil env (Al A 0) := fun H0 F hh H σ ok hI s Q k => k [] [] F hh H (Nx.refl ok) hI ⟨rfl, fun _ h => nomatch h⟩ .nil
theorem al_cons {A : D → Prop} {n : Nat} (ha : EvX K I J ta env A) (hr : EvXA K J L tr env (Al A n)) : EvXA K I L (tCons ta tr) env (Al A (n + 1)) :=
  fun H0 F hh H σ ok hI s Q k => ha H0 F hh H σ ok hI s _ fun vx d1 G1 h1 H1 n1 j1 p1 r1 => hr H0 G1 h1 H1 σ n1.ok j1 (s.nx n1) _ fun vs ds G2 h2 H2 n2 j2 p2 r2 =>
    k (vx :: vs) (d1 :: ds) G2 h2 H2 (n1.trans n2) j2 ⟨by rw [List.length_cons, p2.1], fun d hd => (List.mem_cons.mp hd).elim (fun e => e ▸ p1) (p2.2 d)⟩ (.cons (r1.mono n2.ex) r2)
/-- a choice of a written list, its items may be drawn -/
theorem ex_pickA {A : D → Prop} {n : Nat} {tp : Addr} {m : Nat} {E : XK} {tv : TE} (hm : m < tapeEnd) (hv : Ev K tv env (.raw (.ref tp))) (hl : EvXA K I (Iv.tape tp m) tA env (Al A n)) (h0 : 0 < n) (hn : n ≤ 1000) :
    EvX K I (Iv.tape tp (m + 1)) (tCall (pickSp K) [] E (tCons tv (tCons (tLst tA) tNil))) env A := by
  have hsz : n ≤ sizeLine := by rw [sizeLine_eq]; omega
  have e1 : EvXA K I (Iv.tape tp m) (tCons tv (tCons (tLst tA) tNil)) env (fun ds => ∃ xs, ds = [.raw (.ref tp), .lst xs] ∧ Al A n xs) :=
    fun H0 F hh H σ ok hI s Q k => exa_cons (Ev.im hv) (exa_cons (ex_lst hl (fun ds h => by rw [h.1]; exact hsz)) exa_nil) H0 F hh H σ ok hI s Q fun vs ds G h' H' nn j p r => by
      obtain ⟨_, _, rfl, ⟨_, _, ⟨xs, p1, rfl⟩, rfl, rfl⟩, rfl⟩ := p
      exact k vs _ G h' H' nn j ⟨xs, rfl, p1⟩ r
  have e2 := ex_pick (E := E) hm e1 (fun ds ⟨xs, e, h⟩ => ⟨xs, e, (by intro z; rw [z] at h; have := h.1; simp at this; omega), by rw [h.1]; exact hsz⟩)
  exact e2.imp fun d ⟨xs, ⟨ys, e, h⟩, hd⟩ => by
    cases e
    exact h.2 d hd
/-- a choice of a list at hand -/
theorem ex_pick0 {xs : List D} {tp : Addr} {m : Nat} {E : XK} (hm : m < tapeEnd) (ha : EvA K tA env [.raw (.ref tp), .lst xs]) (h0 : xs ≠ []) (hn : xs.length ≤ 1000000) :
    EvX K (Iv.tape tp m) (Iv.tape tp (m + 1)) (tCall (pickSp K) [] E tA) env (· ∈ xs) :=
  (ex_pick (E := E) hm (EvA.im ha) (fun ds e => ⟨xs, e, h0, by rw [sizeLine_eq]; omega⟩)).imp fun d ⟨ys, e, h⟩ => by cases e; exact h
/-- a + a number drawn -/
theorem ex_plus {a many : Int} {tp : Addr} {m : Nat} {E : XK} (hv : Ev K ta env (.int a)) (ha : EvA K tA env [.raw (.ref tp), .int many]) (h0 : 0 < many) (h1 : many < 2 ^ 60) (hm : m < tapeEnd) :
    EvX K (Iv.tape tp m) (Iv.tape tp (m + 1)) (tOp (rI0 fun i j => .int (i + j)) ta (tCall dSp [] E tA)) env (PI fun z => a ≤ z ∧ z < a + many) :=
  (ex_ii (A := (· = a)) ((Ev.im hv).imp fun d e => ⟨a, e, rfl⟩) (ex_draw (E := E) ha h0 h1 hm)).imp fun d ⟨z, e, i, j, hi, hj, hz⟩ => ⟨z, e, by omega, by omega⟩
theorem PI.mk {A : Int → Prop} {i : Int} (h : A i) : PI A (.int i) := ⟨i, rfl, h⟩
theorem Ev.pi {A : Int → Prop} {i : Int} (h : Ev K te env (.int i)) (a : A i) : EvX K I I te env (PI A) := (Ev.im h).imp fun d e => ⟨i, e, a⟩
theorem EvX.pi {A B : Int → Prop} (h : EvX K I J te env (PI A)) (a : ∀ i, A i → B i) : EvX K I J te env (PI B) := h.imp fun d ⟨i, e, q⟩ => ⟨i, e, a i q⟩
/-- a draw of a bound that is drawn itself -/
theorem ex_drawA {E : XK} {tp : Addr} {m : Nat} {A : Int → Prop} (hv : Ev K ta env (.raw (.ref tp))) (hb : EvX K I (Iv.tape tp m) tb env (PI A)) (hA : ∀ i, A i → 0 < i ∧ i < 2 ^ 60) (hm : m < tapeEnd) :
    EvX K I (Iv.tape tp (m + 1)) (tCall dSp [] E (tCons ta (tCons tb tNil))) env (PI fun r => ∃ many, A many ∧ 0 ≤ r ∧ r < many) :=
  fun H0 F hh H σ ok hI s Q k => exa_cons (Ev.im hv) (exa_cons hb exa_nil) H0 F hh H σ ok hI s _ fun vs ds G1 h1 H1 n1 j1 p1 r1 => by
    obtain ⟨_, _, rfl, ⟨_, _, ⟨many, rfl, hA1⟩, rfl, rfl⟩, rfl⟩ := p1
    show dSp (vs ++ []) H1 Q E
    rw [List.append_nil]
    cases r1 with
    | cons r1 rn => cases rn with
      | cons r2 rn =>
        cases rn
        rw [r1.raw_eq, r2.int_eq]
        exact ⟨G1, h1, tp, m, many, n1.ok, j1, rfl, (hA many hA1).1, (hA many hA1).2, hm, fun r h' H' a b n2 tq => k (.int r) (.int r) G1 h' H' (n1.trans n2) tq ⟨r, rfl, many, hA1, a, b⟩ (.int r)⟩
end
section
variable {K : PySem.W.Frag} {env : List Sl} {tA : TA} {I : Iv}
theorem ex_callE {A : Type} {n : Nat} {I' J' : A → Iv} {Pre : A → List D → Prop} {R : A → D → Prop} {E : XK} {ds : List D} (a : A) (hI : ∀ F h, I.p F h → (I' a).p F h) (ha : EvA K tA env ds) (hp : ds.length = n ∧ Pre a ds) : EvX K I (J' a) (tCall (iSp K n I' J' Pre R) [] E tA) env (R a) :=
  fun H0 F h H σ ok hI0 s Q k => ha H0 F h H σ ok s _ fun vs G H1 n1 r1 => by
    show iSp K n I' J' Pre R (vs ++ []) H1 Q E
    rw [List.append_nil]
    exact ⟨a, G, h, ds, n1.ok, hI _ _ (I.mono n1.ex n1.ok.dj hI0), r1, hp.1, hp.2, fun v d G2 h2 H2 n2 j2 p2 r2 => k v d G2 h2 H2 (n1.trans n2) j2 p2 r2⟩
end
/-! ### rules inside a comprehension: K told -/
section
variable {X : Cx}
theorem op_eqDK (K : PySem.W.Frag) (hu : X.A.units + 64 < cLine) (hK : X.K = K := by rfl) : OpR X (compareOp .Eq) (rEqD K) := hK ▸ op_eqD hu
theorem op_neDK (K : PySem.W.Frag) (hu : X.A.units + 64 < cLine) (hK : X.K = K := by rfl) : OpR X (compareOp .NotEq) (rNeD K) := hK ▸ op_neD hu
theorem op_in_seqK (K : PySem.W.Frag) (hK : X.K = K := by rfl) : OpR X (compareOp .In) (rIn K false) := hK ▸ op_in_seq
theorem op_notIn_seqK (K : PySem.W.Frag) (hK : X.K = K := by rfl) : OpR X (compareOp .NotIn) (rIn K true) := hK ▸ op_notIn_seq
theorem ix_listK (K : PySem.W.Frag) (hK : X.K = K := by rfl) : IxR X (rIxL K) := hK ▸ ix_list
theorem ix_tupK (K : PySem.W.Frag) (hK : X.K = K := by rfl) : IxR X (rIxT K) := hK ▸ ix_tup
theorem sl_listK (K : PySem.W.Frag) (hK : X.K = K := by rfl) : L2.SlR X (rSlL K) := hK ▸ sl_list
theorem call_len_seqK (K : PySem.W.Frag) (hK : X.K = K := by rfl) : CallR X (.builtin "len") (rLen K) := hK ▸ call_len_seq
theorem cr_sumK (K : PySem.W.Frag) (hc : X.calm = true) (hK : X.K = K := by rfl) : CallR X (.builtin "sum") (rSum K) := hK ▸ cr_sum hc
theorem cr_sumTK (K : PySem.W.Frag) (hc : X.calm = true) (hK : X.K = K := by rfl) : CallR X (.builtin "sum") (rSumT K) := hK ▸ cr_sumT hc
theorem pi_listK (K : PySem.W.Frag) {tg l : Expr} {tl : TE} (hl : PE X l tl) (hK : X.K = K := by rfl) : L2.PI X tg l (iList K tl) := hK ▸ pi_list hl
theorem pi_tupK (K : PySem.W.Frag) {tg l : Expr} {tl : TE} (hl : PE X l tl) (hK : X.K = K := by rfl) : L2.PI X tg l (iTup K tl) := hK ▸ pi_tup hl
end
end Lw
namespace K21
open PySem Lw
/-! ### every second one -/
def evs {α : Type} : List α → List α
  | [] => []
  | [a] => [a]
  | a :: _ :: r => a :: evs r
def ods {α : Type} (xs : List α) : List α := evs xs.tail
theorem evs_get {α : Type} : ∀ (xs : List α) (t : Nat), (evs xs)[t]? = xs[2 * t]?
  | [], t => by simp [evs]
  | [a], 0 => by simp [evs]
  | [a], t + 1 => by simp [evs]
  | a :: b :: r, 0 => by simp [evs]
  | a :: b :: r, t + 1 => by
    show (a :: evs r)[t + 1]? = _
    rw [List.getElem?_cons_succ, evs_get r t, show 2 * (t + 1) = (2 * t + 1) + 1 by omega, List.getElem?_cons_succ, List.getElem?_cons_succ]
theorem evs_len {α : Type} : ∀ xs : List α, (evs xs).length = (xs.length + 1) / 2
  | [] => by simp [evs]
  | [a] => by simp [evs]
  | a :: b :: r => by
    show (evs r).length + 1 = (r.length + 1 + 1 + 1) / 2
    rw [evs_len r]
    omega
theorem ods_get {α : Type} (xs : List α) (t : Nat) : (ods xs)[t]? = xs[2 * t + 1]? := by
  unfold ods
  rw [evs_get, List.getElem?_tail]
theorem ods_len {α : Type} (xs : List α) : (ods xs).length = xs.length / 2 := by
  unfold ods
  rw [evs_len, List.length_tail]
  omega
theorem evs_map {α β : Type} (f : α → β) : ∀ xs : List α, evs (xs.map f) = (evs xs).map f
  | [] => by simp [evs]
  | [a] => by simp [evs]
  | a :: b :: r => by
    show f a :: evs (r.map f) = _
    rw [evs_map f r]
    rfl
theorem ods_map {α β : Type} (f : α → β) (xs : List α) : ods (xs.map f) = (ods xs).map f := by
  unfold ods
  rw [← List.map_tail, evs_map]
theorem range_evs {α : Type} : ∀ xs : List α, ((List.range ((xs.length + 1) / 2)).map fun k => 2 * k).filterMap (fun i => xs[i]?) = evs xs
  | [] => by simp [evs]
  | [a] => by
    have e : (([a] : List α).length + 1) / 2 = 1 := by simp
    rw [e]
    simp [evs, List.range_succ]
  | a :: b :: r => by
    have e : (((a :: b :: r).length + 1) / 2) = (r.length + 1) / 2 + 1 := by simp only [List.length_cons]; omega
    rw [e, List.range_succ_eq_map, List.map_cons, List.filterMap_cons_some (show (fun i => (a :: b :: r)[i]?) (2 * 0) = some a from rfl), List.map_map]
    show a :: _ = a :: evs r
    rw [← range_evs r, List.filterMap_map, List.filterMap_map]
    congr 1
theorem pick_evs {α : Type} (xs : List α) : pickX xs none none (some 2) = evs xs := by
  unfold pickX
  have hb : sliceBounds none none (some 2) xs.length = (0, (xs.length : Int), 2) := by
    first | rfl | simp [sliceBounds]
  rw [hb, ← range_evs]
  congr 1
  show sliceRange 0 (xs.length : Int) 2 = _
  unfold sliceRange
  by_cases h : (0 : Int) < xs.length
  · have ec : ((xs.length : Int) - 0 + 2 - 1) / 2 = (((xs.length + 1) / 2 : Nat) : Int) := by omega
    simp only [show (2 : Int) > 0 from by decide, if_true, h, ec, Int.toNat_natCast]
    apply List.map_congr_left
    intro k _
    omega
  · have e0 : xs.length = 0 := by omega
    simp [e0]
theorem pick_ods {α : Type} (xs : List α) : pickX xs (some 1) none (some 2) = ods xs := by
  unfold pickX
  cases xs with
  | nil => rfl
  | cons a r =>
    have hb : sliceBounds (some 1) none (some 2) (a :: r).length = (1, ((a :: r).length : Int), 2) := by
      have hl : (1 : Int) ≤ ((a :: r).length : Int) := by simp only [List.length_cons]; omega
      simp only [List.length_cons] at hl
      simp [sliceBounds]
      omega
    rw [hb]
    show (sliceRange 1 ((a :: r).length : Int) 2).filterMap _ = evs r
    rw [← range_evs r]
    have er : sliceRange 1 ((a :: r).length : Int) 2 = (List.range ((r.length + 1) / 2)).map fun k => 2 * k + 1 := by
      unfold sliceRange
      by_cases h : (1 : Int) < (a :: r).length
      · have ec : (((a :: r).length : Int) - 1 + 2 - 1) / 2 = (((r.length + 1) / 2 : Nat) : Int) := by simp only [List.length_cons]; omega
        simp only [show (2 : Int) > 0 from by decide, if_true, h, ec, Int.toNat_natCast]
        apply List.map_congr_left
        intro k _
        omega
      · have e0 : r.length = 0 := by simp only [List.length_cons] at h; omega
        simp [e0]
    rw [er, List.filterMap_map, List.filterMap_map]
    congr 1
end K21
namespace K21
open PySem Lw
/-! ### what a merging does -/
structure Ms where
  first : Int
  named : List (Int × List (List Int))
  made : List (List Int)
def Ms.nx (s : Ms) : Int := s.first + (s.named.length : Nat)
def Ms.fresh (s : Ms) (m : List (List Int)) : Ms := { s with named := s.named ++ [(s.nx, m)] }
def Ms.say (s : Ms) (cs : List (List Int)) : Ms := { s with made := s.made ++ cs }
def cmp1 (s : Ms) (a b : Int) : Ms := (s.fresh [[a], [b]]).say [[-a, s.nx], [-b, s.nx]]
def cmp2 (s : Ms) (a b : Int) : Ms := ((cmp1 s a b).fresh [[a, b]]).say [[-a, -b, (cmp1 s a b).nx]]
def cmp (s : Ms) (a b : Int) (both : Bool) : Ms × List Int := if both = true then (cmp2 s a b, [s.nx, (cmp1 s a b).nx]) else (cmp1 s a b, [s.nx])
def pairAt (odd even : List Int) (k : Nat) : List Int := (odd.drop (k + 1)).take 1 ++ (even.drop k).take 1
def mstep (s : Ms) (pair : List Int) (cap L : Nat) : Ms × List Int := if pair.length = 1 then (s, pair) else cmp s (pair.getD 0 0) (pair.getD 1 0) (decide (L + 1 < cap))
theorem cmp_len (s : Ms) (a b : Int) (both : Bool) : (cmp s a b both).2.length = if both = true then 2 else 1 := by unfold cmp; split <;> rfl
theorem mstep_len (s : Ms) (pair : List Int) (cap L : Nat) : 1 ≤ (mstep s pair cap L).2.length := by
  unfold mstep
  split
  · rename_i h
    show 1 ≤ pair.length
    omega
  · rw [cmp_len]; split <;> omega
def mloop (s : Ms) (odd even : List Int) (cap : Nat) (found : List Int) (k : Nat) : Ms × List Int :=
  if h : found.length < cap ∧ pairAt odd even k ≠ [] then
    mloop (mstep s (pairAt odd even k) cap found.length).1 odd even cap (found ++ (mstep s (pairAt odd even k) cap found.length).2) (k + 1)
  else (s, found)
termination_by cap - found.length
decreasing_by
  have := mstep_len s (pairAt odd even k) cap found.length
  rw [List.length_append]
  omega
def mrg : Nat → Ms → List Int → List Int → Nat → Ms × List Int
  | f, s, ones, others, cap =>
    if ones = [] ∨ others = [] ∨ cap = 0 then (s, (ones ++ others).take cap)
    else if ones.length = 1 ∧ others.length = 1 then cmp s (ones.getD 0 0) (others.getD 0 0) (decide (1 < cap))
    else match f with
      | 0 => (s, [])
      | f + 1 => mloop (mrg f (mrg f s (evs ones) (evs others) (cap / 2 + 1)).1 (ods ones) (ods others) (cap / 2)).1 (mrg f s (evs ones) (evs others) (cap / 2 + 1)).2
          (mrg f (mrg f s (evs ones) (evs others) (cap / 2 + 1)).1 (ods ones) (ods others) (cap / 2)).2 cap ((mrg f s (evs ones) (evs others) (cap / 2 + 1)).2.take 1) 0
/-! ### how much is made -/
structure Grow (s s' : Ms) (a b : Nat) : Prop where
  first : s'.first = s.first
  named : s'.named.length ≤ s.named.length + a
  made : s'.made.length ≤ s.made.length + b
theorem Grow.refl (s : Ms) : Grow s s 0 0 := ⟨rfl, Nat.le_refl _, Nat.le_refl _⟩
theorem Grow.trans {s s1 s2 : Ms} {a b c d : Nat} (x : Grow s s1 a b) (y : Grow s1 s2 c d) : Grow s s2 (a + c) (b + d) := ⟨y.first.trans x.first, by have := x.named; have := y.named; omega, by have := x.made; have := y.made; omega⟩
theorem Grow.le {s s1 : Ms} {a b c d : Nat} (x : Grow s s1 a b) (h : a ≤ c) (g : b ≤ d) : Grow s s1 c d := ⟨x.first, by have := x.named; omega, by have := x.made; omega⟩
theorem cmp_grow (s : Ms) (a b : Int) (both : Bool) : Grow s (cmp s a b both).1 2 3 := by
  unfold cmp
  split
  · exact ⟨rfl, by simp [cmp2, cmp1, Ms.fresh, Ms.say], by simp [cmp2, cmp1, Ms.fresh, Ms.say]⟩
  · exact ⟨rfl, by simp [cmp1, Ms.fresh, Ms.say], by simp [cmp1, Ms.fresh, Ms.say]⟩
theorem mstep_grow (s : Ms) (pair : List Int) (cap L : Nat) : Grow s (mstep s pair cap L).1 2 3 := by
  unfold mstep
  split
  · exact (Grow.refl s).le (by omega) (by omega)
  · exact cmp_grow _ _ _ _
theorem mloop_grow (s : Ms) (odd even : List Int) (cap : Nat) (found : List Int) (k : Nat) : Grow s (mloop s odd even cap found k).1 (2 * (cap - found.length)) (3 * (cap - found.length)) := by
  induction s, found, k using mloop.induct (odd := odd) (even := even) (cap := cap) with
  | case1 s found k h ih =>
    rw [mloop, dif_pos h]
    have h1 := mstep_len s (pairAt odd even k) cap found.length
    refine ((mstep_grow s (pairAt odd even k) cap found.length).trans ih).le ?_ ?_
    all_goals
      rw [List.length_append]
      have := h.1
      omega
  | case2 s found k h =>
    rw [mloop, dif_neg h]
    exact (Grow.refl s).le (by omega) (by omega)
theorem mrg_grow : ∀ (f : Nat) (s : Ms) (ones others : List Int) (cap : Nat), cap ≤ 61 → Grow s (mrg f s ones others cap).1 (126 * 2 ^ f - 124) (189 * 2 ^ f - 186)
  | 0, s, ones, others, cap, hc => by
    unfold mrg
    split
    · exact (Grow.refl s).le (by omega) (by omega)
    · split
      · exact (cmp_grow _ _ _ _).le (by omega) (by omega)
      · exact (Grow.refl s).le (by omega) (by omega)
  | f + 1, s, ones, others, cap, hc => by
    have hp : 1 ≤ 2 ^ f := Nat.one_le_two_pow
    have he : 2 ^ (f + 1) = 2 * 2 ^ f := by rw [Nat.pow_succ, Nat.mul_comm]
    unfold mrg
    split
    · exact (Grow.refl s).le (by omega) (by omega)
    · split
      · exact (cmp_grow _ _ _ _).le (by omega) (by omega)
      · have g1 := mrg_grow f s (evs ones) (evs others) (cap / 2 + 1) (by omega)
        have g2 := mrg_grow f (mrg f s (evs ones) (evs others) (cap / 2 + 1)).1 (ods ones) (ods others) (cap / 2) (by omega)
        have g3 := mloop_grow (mrg f (mrg f s (evs ones) (evs others) (cap / 2 + 1)).1 (ods ones) (ods others) (cap / 2)).1 (mrg f s (evs ones) (evs others) (cap / 2 + 1)).2
          (mrg f (mrg f s (evs ones) (evs others) (cap / 2 + 1)).1 (ods ones) (ods others) (cap / 2)).2 cap ((mrg f s (evs ones) (evs others) (cap / 2 + 1)).2.take 1) 0
        exact ((g1.trans g2).trans g3).le (by omega) (by omega)
/-! ### no more than wanted -/
theorem mloop_len (s : Ms) (odd even : List Int) (cap : Nat) (found : List Int) (k : Nat) : found.length ≤ cap → (mloop s odd even cap found k).2.length ≤ cap := by
  induction s, found, k using mloop.induct (odd := odd) (even := even) (cap := cap) with
  | case1 s found k h ih =>
    intro hl
    rw [mloop, dif_pos h]
    refine ih ?_
    rw [List.length_append]
    have h0 := h.1
    unfold mstep
    split
    · rename_i h1
      show found.length + (pairAt odd even k).length ≤ cap
      omega
    · rw [cmp_len]
      split
      · rename_i q; have := of_decide_eq_true q; omega
      · omega
  | case2 s found k h =>
    intro hl
    rw [mloop, dif_neg h]
    exact hl
theorem mrg_len : ∀ (f : Nat) (s : Ms) (ones others : List Int) (cap : Nat), (mrg f s ones others cap).2.length ≤ cap
  | 0, s, ones, others, cap => by
    unfold mrg
    split
    · rw [List.length_take]; omega
    · split
      · rename_i h _
        rw [cmp_len]
        have : cap ≠ 0 := fun e => h (.inr (.inr e))
        split
        · rename_i q; have := of_decide_eq_true q; omega
        · omega
      · simp
  | f + 1, s, ones, others, cap => by
    unfold mrg
    split
    · rw [List.length_take]; omega
    · rename_i h
      have : cap ≠ 0 := fun e => h (.inr (.inr e))
      split
      · rw [cmp_len]
        split
        · rename_i q; have := of_decide_eq_true q; omega
        · omega
      · refine mloop_len _ _ _ _ _ _ ?_
        rw [List.length_take]
        omega
/-! ### by the meanings -/
def tv (V : Int → Bool) (m : Int) : Bool := V (m.natAbs : Nat) == decide (0 < m)
def mean (V : Int → Bool) (m : List (List Int)) : Bool := m.any fun c => c.all (tv V)
def Mod (V : Int → Bool) (s : Ms) : Prop := ∀ p ∈ s.named, V p.1 = mean V p.2
theorem tv_neg {V : Int → Bool} {m : Int} (h : m ≠ 0) : tv V (-m) = !tv V m := by
  unfold tv
  rw [Int.natAbs_neg]
  have e : decide (0 < -m) = !decide (0 < m) := by
    by_cases q : 0 < m
    · simp [q]; omega
    · simp [q]; omega
  rw [e]
  cases V (m.natAbs : Nat) <;> cases decide (0 < m) <;> rfl
theorem tv_pos {V : Int → Bool} {m : Int} (h : 0 < m) : tv V m = V m := by
  unfold tv
  have e : ((m.natAbs : Nat) : Int) = m := by omega
  rw [e]
  simp [h]
/-- s' goes on from s -/
structure Ext (s s' : Ms) : Prop where
  first : s'.first = s.first
  named : ∃ t, s'.named = s.named ++ t
  made : ∃ t, s'.made = s.made ++ t
theorem Ext.refl (s : Ms) : Ext s s := ⟨rfl, ⟨[], by simp⟩, ⟨[], by simp⟩⟩
theorem Ext.trans {s s1 s2 : Ms} (x : Ext s s1) (y : Ext s1 s2) : Ext s s2 := by
  obtain ⟨a, ea⟩ := x.named
  obtain ⟨b, eb⟩ := y.named
  obtain ⟨c, ec⟩ := x.made
  obtain ⟨d, ed⟩ := y.made
  exact ⟨y.first.trans x.first, ⟨a ++ b, by rw [eb, ea, List.append_assoc]⟩, ⟨c ++ d, by rw [ed, ec, List.append_assoc]⟩⟩
theorem Ext.mod {V : Int → Bool} {s s' : Ms} (x : Ext s s') (h : Mod V s') : Mod V s := by
  obtain ⟨a, ea⟩ := x.named
  exact fun p hp => h p (by rw [ea]; exact List.mem_append_left _ hp)
theorem Ext.nx {s s' : Ms} (x : Ext s s') : s.nx ≤ s'.nx := by
  obtain ⟨a, ea⟩ := x.named
  unfold Ms.nx
  rw [x.first, ea, List.length_append]
  omega
/-- names in order, the meanings of what was there before; the clauses, too -/
structure Wf (s : Ms) : Prop where
  pos : 0 < s.first
  named : ∀ (i : Nat) p, s.named[i]? = some p → p.1 = s.first + (i : Nat) ∧ ∀ c ∈ p.2, ∀ l ∈ c, l ≠ 0 ∧ (l.natAbs : Int) < s.first + (i : Nat)
  made : ∀ c ∈ s.made, ∀ l ∈ c, l ≠ 0
  sml : ∀ p ∈ s.named, p.2.length ≤ 2 ∧ ∀ c ∈ p.2, c.length ≤ 2
  sml2 : ∀ c ∈ s.made, c.length ≤ 3
def Kn (s : Ms) (ms : List Int) : Prop := ∀ m ∈ ms, m ≠ 0 ∧ (m.natAbs : Int) < s.nx
theorem Kn.ext {s s' : Ms} {ms : List Int} (h : Kn s ms) (x : Ext s s') : Kn s' ms := fun m hm => ⟨(h m hm).1, Int.lt_of_lt_of_le (h m hm).2 x.nx⟩
def Held (V : Int → Bool) (cs : List (List Int)) : Prop := ∀ c ∈ cs, c.any (tv V) = true
/-- one good step: from s to r -/
structure Good (s : Ms) (r : Ms × List Int) : Prop where
  ext : Ext s r.1
  wf : Wf r.1
  kn : Kn r.1 r.2
  held : ∀ V, Mod V r.1 → Held V s.made → Held V r.1.made
theorem fresh_ext (s : Ms) (m : List (List Int)) : Ext s (s.fresh m) := ⟨rfl, ⟨_, rfl⟩, ⟨[], by simp [Ms.fresh]⟩⟩
theorem say_ext (s : Ms) (cs : List (List Int)) : Ext s (s.say cs) := ⟨rfl, ⟨[], by simp [Ms.say]⟩, ⟨cs, rfl⟩⟩
theorem fresh_nx (s : Ms) (m : List (List Int)) : (s.fresh m).nx = s.nx + 1 := by
  unfold Ms.nx Ms.fresh
  simp only [List.length_append, List.length_singleton]
  omega
theorem fresh_wf {s : Ms} (w : Wf s) {m : List (List Int)} (h : ∀ c ∈ m, Kn s c) (h2 : m.length ≤ 2 ∧ ∀ c ∈ m, c.length ≤ 2) : Wf (s.fresh m) := by
  refine ⟨w.pos, fun i p hp => ?_, w.made, fun p hp => (List.mem_append.mp hp).elim (w.sml p) (fun e => by rw [List.mem_singleton.mp e]; exact h2), w.sml2⟩
  have hp : (s.named ++ [(s.nx, m)])[i]? = some p := hp
  by_cases hi : i < s.named.length
  · rw [List.getElem?_append_left hi] at hp
    exact w.named i p hp
  · rw [List.getElem?_append_right (by omega)] at hp
    have e0 : i - s.named.length = 0 := by
      cases e : i - s.named.length with
      | zero => rfl
      | succ n => rw [e] at hp; simp at hp
    rw [e0] at hp
    cases hp
    have ei : i = s.named.length := by omega
    subst ei
    exact ⟨rfl, fun c hc l hl => h c hc l hl⟩
theorem say_wf {s : Ms} (w : Wf s) {cs : List (List Int)} (h : ∀ c ∈ cs, ∀ l ∈ c, l ≠ 0) (h2 : ∀ c ∈ cs, c.length ≤ 3) : Wf (s.say cs) := by
  refine ⟨w.pos, w.named, fun c hc => ?_, w.sml, fun c hc => (List.mem_append.mp hc).elim (w.sml2 c) (h2 c)⟩
  rcases List.mem_append.mp hc with hc | hc
  · exact w.made c hc
  · exact h c hc
theorem nx_pos {s : Ms} (w : Wf s) : 0 < s.nx := by
  have := w.pos
  unfold Ms.nx
  omega
theorem kn_nx {s : Ms} (w : Wf s) (m : List (List Int)) : s.nx ≠ 0 ∧ ((s.nx).natAbs : Int) < (s.fresh m).nx := by
  have := nx_pos w
  rw [fresh_nx]
  omega
theorem mem_fresh (s : Ms) (m : List (List Int)) : (s.nx, m) ∈ (s.fresh m).named := List.mem_append_right _ (List.mem_singleton.mpr rfl)
theorem cmp1_good {s : Ms} (w : Wf s) {a b : Int} (ha : Kn s [a]) (hb : Kn s [b]) : Good s (cmp1 s a b, [s.nx]) ∧ ∀ V, Mod V (cmp1 s a b) → tv V s.nx = (tv V a || tv V b) := by
  have ha0 := (ha a (List.mem_singleton.mpr rfl)).1
  have hb0 := (hb b (List.mem_singleton.mpr rfl)).1
  have wf1 : Wf (s.fresh [[a], [b]]) := fresh_wf w (fun c hc => by
    rcases List.mem_cons.mp hc with rfl | hc
    · exact ha
    · rw [List.mem_singleton.mp hc]; exact hb) ⟨by simp, by simp⟩
  have sem : ∀ V, Mod V (cmp1 s a b) → tv V s.nx = (tv V a || tv V b) := fun V h => by
    rw [tv_pos (nx_pos w), h _ (mem_fresh s [[a], [b]])]
    simp [mean]
  refine ⟨⟨(fresh_ext _ _).trans (say_ext _ _), say_wf wf1 (fun c hc l hl => ?_) (by simp), fun m hm => ?_, fun V h hh c hc => ?_⟩, sem⟩
  · have := nx_pos w
    simp only [List.mem_cons, List.not_mem_nil, or_false] at hc
    rcases hc with rfl | rfl
    all_goals
      simp only [List.mem_cons, List.not_mem_nil, or_false] at hl
      rcases hl with rfl | rfl <;> omega
  · rw [List.mem_singleton.mp hm]
    exact kn_nx w _
  · rcases List.mem_append.mp hc with hc | hc
    · exact hh c hc
    · have e := sem V h
      simp only [List.mem_cons, List.not_mem_nil, or_false] at hc
      rcases hc with rfl | rfl
      · simp only [List.any_cons, List.any_nil, Bool.or_false, tv_neg ha0, e]
        cases tv V a <;> simp
      · simp only [List.any_cons, List.any_nil, Bool.or_false, tv_neg hb0, e]
        cases tv V a <;> cases tv V b <;> simp
theorem cmp_good {s : Ms} (w : Wf s) {a b : Int} (both : Bool) (ha : Kn s [a]) (hb : Kn s [b]) : Good s (cmp s a b both) ∧ ∀ V, Mod V (cmp s a b both).1 → (cmp s a b both).2.map (tv V) = if both = true then [tv V a || tv V b, tv V a && tv V b] else [tv V a || tv V b] := by
  obtain ⟨g1, s1⟩ := cmp1_good w ha hb
  have ha0 := (ha a (List.mem_singleton.mpr rfl)).1
  have hb0 := (hb b (List.mem_singleton.mpr rfl)).1
  cases both with
  | false => exact ⟨g1, fun V h => by show [tv V s.nx] = _; rw [s1 V h]; rfl⟩
  | true =>
    have e1 : cmp s a b true = (cmp2 s a b, [s.nx, (cmp1 s a b).nx]) := rfl
    have wf2 : Wf ((cmp1 s a b).fresh [[a, b]]) := fresh_wf g1.wf (fun c hc => by
      rw [List.mem_singleton.mp hc]
      intro m hm
      simp only [List.mem_cons, List.not_mem_nil, or_false] at hm
      rcases hm with rfl | rfl
      · exact ha.ext g1.ext _ (List.mem_singleton.mpr rfl)
      · exact hb.ext g1.ext _ (List.mem_singleton.mpr rfl)) ⟨by simp, by simp⟩
    have x2 : Ext (cmp1 s a b) (cmp2 s a b) := (fresh_ext _ _).trans (say_ext _ _)
    have s2 : ∀ V, Mod V (cmp2 s a b) → tv V (cmp1 s a b).nx = (tv V a && tv V b) := fun V h => by
      rw [tv_pos (nx_pos g1.wf), h _ (mem_fresh (cmp1 s a b) [[a, b]])]
      simp [mean]
    rw [e1]
    refine ⟨⟨g1.ext.trans x2, say_wf wf2 (fun c hc l hl => ?_) (by simp), fun m hm => ?_, fun V h hh c hc => ?_⟩, fun V h => ?_⟩
    · have : 0 < (cmp1 s a b).nx := nx_pos g1.wf
      rw [List.mem_singleton.mp hc] at hl
      simp only [List.mem_cons, List.not_mem_nil, or_false] at hl
      rcases hl with rfl | rfl | rfl <;> omega
    · simp only [List.mem_cons, List.not_mem_nil, or_false] at hm
      rcases hm with rfl | rfl
      · exact (g1.kn.ext x2) _ (List.mem_singleton.mpr rfl)
      · exact kn_nx g1.wf [[a, b]]
    · rcases List.mem_append.mp hc with hc | hc
      · exact g1.held V (x2.mod h) hh c hc
      · rw [List.mem_singleton.mp hc]
        simp only [List.any_cons, List.any_nil, Bool.or_false, tv_neg ha0, tv_neg hb0, s2 V h]
        cases tv V a <;> cases tv V b <;> simp
    · show [tv V s.nx, tv V (cmp1 s a b).nx] = _
      rw [s1 V (x2.mod h), s2 V h]
      rfl
end K21
namespace K21
open PySem Lw
theorem tk1 {α : Type} : ∀ (xs : List α) (n : Nat), (xs.drop n).take 1 = xs[n]?.toList
  | [], n => by simp
  | a :: xs, 0 => by simp
  | a :: xs, n + 1 => by
    rw [List.drop_succ_cons, List.getElem?_cons_succ]
    exact tk1 xs n
def Srt (V : Int → Bool) (ms : List Int) (c : Nat) : Prop := ∀ (t : Nat) m, ms[t]? = some m → tv V m = decide (t < c)
theorem Srt.append {V : Int → Bool} {xs ys : List Int} {c : Nat} (h : Srt V xs c) (g : ∀ (j : Nat) m, ys[j]? = some m → tv V m = decide (xs.length + j < c)) : Srt V (xs ++ ys) c := fun t m e => by
  by_cases ht : t < xs.length
  · rw [List.getElem?_append_left ht] at e
    exact h t m e
  · rw [List.getElem?_append_right (by omega)] at e
    rw [g _ m e]
    congr 1
    rw [show xs.length + (t - xs.length) = t by omega]
theorem Srt.evs {V : Int → Bool} {xs : List Int} {c : Nat} (h : Srt V xs c) : Srt V (evs xs) ((c + 1) / 2) := fun t m e => by
  rw [evs_get] at e
  rw [h _ m e, decide_eq_decide]
  omega
theorem Srt.ods {V : Int → Bool} {xs : List Int} {c : Nat} (h : Srt V xs c) : Srt V (ods xs) (c / 2) := fun t m e => by
  rw [ods_get] at e
  rw [h _ m e, decide_eq_decide]
  omega
theorem Kn.get {s : Ms} {ms : List Int} (h : Kn s ms) {t : Nat} {m : Int} (e : ms[t]? = some m) : Kn s [m] := fun x hx => by
  rw [List.mem_singleton.mp hx]
  exact h m (List.mem_of_getElem? e)
theorem Kn.append {s : Ms} {xs ys : List Int} (h : Kn s xs) (g : Kn s ys) : Kn s (xs ++ ys) := fun m hm => (List.mem_append.mp hm).elim (h m) (g m)
theorem Kn.sub {s : Ms} {xs ys : List Int} (h : Kn s xs) (g : ∀ m ∈ ys, m ∈ xs) : Kn s ys := fun m hm => h m (g m hm)
theorem evs_mem {xs : List Int} {m : Int} (h : m ∈ evs xs) : m ∈ xs := by
  obtain ⟨t, e⟩ := List.mem_iff_getElem?.mp h
  rw [evs_get] at e
  exact List.mem_of_getElem? e
theorem ods_mem {xs : List Int} {m : Int} (h : m ∈ ods xs) : m ∈ xs := by
  obtain ⟨t, e⟩ := List.mem_iff_getElem?.mp h
  rw [ods_get] at e
  exact List.mem_of_getElem? e
theorem Good.refl {s : Ms} {ms : List Int} (w : Wf s) (k : Kn s ms) : Good s (s, ms) := ⟨Ext.refl s, w, k, fun _ _ h => h⟩
theorem Good.trans {s s1 : Ms} {ms : List Int} {r : Ms × List Int} (a : Good s (s1, ms)) (b : Good s1 r) : Good s r := ⟨a.ext.trans b.ext, b.wf, b.kn, fun V h hh => b.held V h (a.held V (b.ext.mod h) hh)⟩
/-- the lengths along the loop -/
def LInv (cap p q L k : Nat) (pr : List Int) : Prop := (L = 1 + 2 * k ∧ L ≤ cap ∧ L ≤ p + q) ∨ (L = min cap (p + q) ∧ (cap ≤ L ∨ pr = []))
theorem pairAt_eq (odd even : List Int) (k : Nat) : pairAt odd even k = odd[k + 1]?.toList ++ even[k]?.toList := by
  unfold pairAt
  rw [tk1, tk1]
theorem mloop_good {odd even : List Int} {cap p q : Nat} (hc : 1 ≤ cap) (hpq : q ≤ p ∧ p ≤ q + 2) (lo : odd.length = min (cap / 2 + 1) p) (le : even.length = min (cap / 2) q) (s : Ms) (found : List Int) (k : Nat) :
    Wf s → Kn s odd → Kn s even → Kn s found → LInv cap p q found.length k (pairAt odd even k) →
    Good s (mloop s odd even cap found k) ∧ (mloop s odd even cap found k).2.length = min cap (p + q) ∧
    ∀ V o e, e ≤ o → o ≤ e + 2 → o ≤ p → e ≤ q → Mod V (mloop s odd even cap found k).1 → Srt V odd o → Srt V even e → Srt V found (o + e) → Srt V (mloop s odd even cap found k).2 (o + e) := by
  induction s, found, k using mloop.induct (odd := odd) (even := even) (cap := cap) with
  | case2 s found k h =>
    intro w ko ke kf inv
    rw [mloop, dif_neg h]
    refine ⟨Good.refl w kf, ?_, fun V o e _ _ _ _ _ _ _ hf => hf⟩
    show found.length = _
    rcases inv with ⟨h1, h2, h3⟩ | ⟨h1, _⟩
    · by_cases hl : found.length < cap
      · have hp : pairAt odd even k = [] := Classical.byContradiction fun z => h ⟨hl, z⟩
        rw [pairAt_eq, List.append_eq_nil_iff, Option.toList_eq_nil_iff, Option.toList_eq_nil_iff, List.getElem?_eq_none_iff, List.getElem?_eq_none_iff] at hp
        omega
      · omega
    · exact h1
  | case1 s found k h ih =>
    intro w ko ke kf inv
    rw [mloop, dif_pos h]
    have hA : found.length = 1 + 2 * k ∧ found.length ≤ cap ∧ found.length ≤ p + q := by
      rcases inv with q1 | ⟨_, q2⟩
      · exact q1
      · rcases q2 with q2 | q2
        · have := h.1; omega
        · exact absurd q2 h.2
    obtain ⟨hL, hLc, hLp⟩ := hA
    have hlt := h.1
    have nextP : ∀ L', L' = min cap (p + q) → (cap ≤ L' ∨ (odd.length ≤ k + 2 ∧ even.length ≤ k + 1)) → LInv cap p q L' (k + 1) (pairAt odd even (k + 1)) := fun L' e1 e2 => by
      refine .inr ⟨e1, e2.imp id fun ⟨a, b⟩ => ?_⟩
      rw [pairAt_eq, List.append_eq_nil_iff, Option.toList_eq_nil_iff, Option.toList_eq_nil_iff, List.getElem?_eq_none_iff, List.getElem?_eq_none_iff]
      omega
    cases hx : odd[k + 1]? with
    | none =>
      have hx' := List.getElem?_eq_none_iff.mp hx
      cases hy : even[k]? with
      | none =>
        exfalso
        apply h.2
        rw [pairAt_eq, hx, hy]
        rfl
      | some y =>
        have hy' := (List.getElem?_eq_some_iff.mp hy).1
        have ep : pairAt odd even k = [y] := by rw [pairAt_eq, hx, hy]; rfl
        have em : mstep s (pairAt odd even k) cap found.length = (s, [y]) := by rw [ep]; rfl
        rw [em] at ih ⊢
        have knew : Kn s (found ++ [y]) := kf.append (ke.get hy)
        have hlen : (found ++ [y]).length = found.length + 1 := by rw [List.length_append]; rfl
        obtain ⟨g, l, v⟩ := ih w ko ke knew (nextP _ (by rw [hlen]; omega) (by omega))
        refine ⟨g, l, fun V o e h1 h2 h3 h4 hm so se sf => v V o e h1 h2 h3 h4 hm so se (sf.append fun j m ej => ?_)⟩
        cases j with
        | zero =>
          cases ej
          rw [se _ _ hy, decide_eq_decide]
          omega
        | succ j => simp at ej
    | some x =>
      have hx' := (List.getElem?_eq_some_iff.mp hx).1
      cases hy : even[k]? with
      | none =>
        have hy' := List.getElem?_eq_none_iff.mp hy
        have ep : pairAt odd even k = [x] := by rw [pairAt_eq, hx, hy]; rfl
        have em : mstep s (pairAt odd even k) cap found.length = (s, [x]) := by rw [ep]; rfl
        rw [em] at ih ⊢
        have knew : Kn s (found ++ [x]) := kf.append (ko.get hx)
        have hlen : (found ++ [x]).length = found.length + 1 := by rw [List.length_append]; rfl
        obtain ⟨g, l, v⟩ := ih w ko ke knew (nextP _ (by rw [hlen]; omega) (by omega))
        refine ⟨g, l, fun V o e h1 h2 h3 h4 hm so se sf => v V o e h1 h2 h3 h4 hm so se (sf.append fun j m ej => ?_)⟩
        cases j with
        | zero =>
          cases ej
          rw [so _ _ hx, decide_eq_decide]
          omega
        | succ j => simp at ej
      | some y =>
        have hy' := (List.getElem?_eq_some_iff.mp hy).1
        have ep : pairAt odd even k = [x, y] := by rw [pairAt_eq, hx, hy]; rfl
        have em : mstep s (pairAt odd even k) cap found.length = cmp s x y (decide (found.length + 1 < cap)) := by rw [ep]; rfl
        rw [em] at ih ⊢
        obtain ⟨gc, vc⟩ := cmp_good w (decide (found.length + 1 < cap)) (ko.get hx) (ke.get hy)
        have lc := cmp_len s x y (decide (found.length + 1 < cap))
        generalize cmp s x y (decide (found.length + 1 < cap)) = r at *
        obtain ⟨s1, new⟩ := r
        have knew : Kn s1 (found ++ new) := (kf.ext gc.ext).append gc.kn
        have hlen : (found ++ new).length = found.length + new.length := List.length_append
        have hinv : LInv cap p q (found ++ new).length (k + 1) (pairAt odd even (k + 1)) := by
          rw [hlen]
          by_cases hb : found.length + 1 < cap
          · rw [if_pos (by simpa using hb)] at lc
            refine .inl ⟨?_, ?_, ?_⟩
            · simp only at lc; omega
            · simp only at lc; omega
            · simp only at lc; omega
          · rw [if_neg (by simpa using hb)] at lc
            simp only at lc
            exact nextP _ (by omega) (by omega)
        obtain ⟨g, l, v⟩ := ih gc.wf (ko.ext gc.ext) (ke.ext gc.ext) knew hinv
        refine ⟨gc.trans g, l, fun V o e h1 h2 h3 h4 hm so se sf => v V o e h1 h2 h3 h4 hm so se (sf.append fun j m ej => ?_)⟩
        have hv := vc V (g.ext.mod hm)
        have e1 := so _ _ hx
        have e2 := se _ _ hy
        rw [e1, e2] at hv
        have ej2 : (new.map (tv V))[j]? = some (tv V m) := by rw [List.getElem?_map, ej]; rfl
        simp only at hv
        rw [hv] at ej2
        split at ej2
        · match j, ej2 with
          | 0, ej2 =>
            have ej2 : (decide (k + 1 < o) || decide (k < e)) = tv V m := Option.some.inj ej2
            rw [← ej2, Bool.eq_iff_iff]
            simp only [Bool.or_eq_true, decide_eq_true_eq]
            omega
          | 1, ej2 =>
            have ej2 : (decide (k + 1 < o) && decide (k < e)) = tv V m := Option.some.inj ej2
            rw [← ej2, Bool.eq_iff_iff]
            simp only [Bool.and_eq_true, decide_eq_true_eq]
            omega
          | j + 2, ej2 => simp at ej2
        · match j, ej2 with
          | 0, ej2 =>
            have ej2 : (decide (k + 1 < o) || decide (k < e)) = tv V m := Option.some.inj ej2
            rw [← ej2, Bool.eq_iff_iff]
            simp only [Bool.or_eq_true, decide_eq_true_eq]
            omega
          | j + 1, ej2 => simp at ej2
theorem base_good {s : Ms} {ones others : List Int} {cap : Nat} (w : Wf s) (k1 : Kn s ones) (k2 : Kn s others) (h : ones = [] ∨ others = [] ∨ cap = 0) :
    Good s (s, (ones ++ others).take cap) ∧ ((ones ++ others).take cap).length = min cap (ones.length + others.length) ∧
    ∀ V c1 c2, c1 ≤ ones.length → c2 ≤ others.length → Srt V ones c1 → Srt V others c2 → Srt V ((ones ++ others).take cap) (c1 + c2) := by
  refine ⟨Good.refl w ((k1.append k2).sub fun m hm => List.mem_of_mem_take hm), by rw [List.length_take, List.length_append], fun V c1 c2 l1 l2 s1 s2 t m e => ?_⟩
  rw [List.getElem?_take] at e
  split at e
  · rename_i ht
    rcases h with rfl | rfl | rfl
    · have e0 : c1 = 0 := by simpa using l1
      subst e0
      rw [List.nil_append] at e
      rw [s2 t m e, Nat.zero_add]
    · have e0 : c2 = 0 := by simpa using l2
      subst e0
      rw [List.append_nil] at e
      rw [s1 t m e, Nat.add_zero]
    · omega
  · cases e
theorem one_good {s : Ms} {ones others : List Int} {cap : Nat} (w : Wf s) (k1 : Kn s ones) (k2 : Kn s others) (hc : cap ≠ 0) (h : ones.length = 1 ∧ others.length = 1) :
    Good s (cmp s (ones.getD 0 0) (others.getD 0 0) (decide (1 < cap))) ∧ (cmp s (ones.getD 0 0) (others.getD 0 0) (decide (1 < cap))).2.length = min cap (ones.length + others.length) ∧
    ∀ V c1 c2, c1 ≤ ones.length → c2 ≤ others.length → Mod V (cmp s (ones.getD 0 0) (others.getD 0 0) (decide (1 < cap))).1 → Srt V ones c1 → Srt V others c2 → Srt V (cmp s (ones.getD 0 0) (others.getD 0 0) (decide (1 < cap))).2 (c1 + c2) := by
  match ones, others, h with
  | [a], [b], _ =>
    obtain ⟨g, v⟩ := cmp_good w (decide (1 < cap)) k1 k2
    refine ⟨g, ?_, fun V c1 c2 l1 l2 hm s1 s2 j m ej => ?_⟩
    · rw [cmp_len]
      show _ = min cap 2
      split
      · rename_i q; have := of_decide_eq_true q; omega
      · rename_i q; have : ¬ 1 < cap := fun z => q (decide_eq_true z); omega
    · have hv := v V hm
      have e1 := s1 0 a rfl
      have e2 := s2 0 b rfl
      have l1 : c1 ≤ 1 := l1
      have l2 : c2 ≤ 1 := l2
      rw [e1, e2] at hv
      have ej2 : ((cmp s a b (decide (1 < cap))).2.map (tv V))[j]? = some (tv V m) := by
        rw [List.getElem?_map]
        show Option.map _ (cmp s ([a].getD 0 0) ([b].getD 0 0) (decide (1 < cap))).2[j]? = _
        rw [ej]
        rfl
      rw [hv] at ej2
      split at ej2
      · match j, ej2 with
        | 0, ej2 =>
          have ej2 : (decide (0 < c1) || decide (0 < c2)) = tv V m := Option.some.inj ej2
          rw [← ej2, Bool.eq_iff_iff]
          simp only [Bool.or_eq_true, decide_eq_true_eq]
          omega
        | 1, ej2 =>
          have ej2 : (decide (0 < c1) && decide (0 < c2)) = tv V m := Option.some.inj ej2
          rw [← ej2, Bool.eq_iff_iff]
          simp only [Bool.and_eq_true, decide_eq_true_eq]
          omega
        | j + 2, ej2 => simp at ej2
      · match j, ej2 with
        | 0, ej2 =>
          have ej2 : (decide (0 < c1) || decide (0 < c2)) = tv V m := Option.some.inj ej2
          rw [← ej2, Bool.eq_iff_iff]
          simp only [Bool.or_eq_true, decide_eq_true_eq]
          omega
        | j + 1, ej2 => simp at ej2
theorem mrg_good : ∀ (f : Nat) (s : Ms) (ones others : List Int) (cap : Nat), ones.length ≤ 2 ^ f → others.length ≤ 2 ^ f → Wf s → Kn s ones → Kn s others →
    Good s (mrg f s ones others cap) ∧ (mrg f s ones others cap).2.length = min cap (ones.length + others.length) ∧
    ∀ V c1 c2, c1 ≤ ones.length → c2 ≤ others.length → Mod V (mrg f s ones others cap).1 → Srt V ones c1 → Srt V others c2 → Srt V (mrg f s ones others cap).2 (c1 + c2)
  | 0, s, ones, others, cap, h1, h2, w, k1, k2 => by
    unfold mrg
    split
    · rename_i h
      obtain ⟨a, b, c⟩ := base_good w k1 k2 h
      exact ⟨a, b, fun V c1 c2 l1 l2 _ => c V c1 c2 l1 l2⟩
    · rename_i h
      split
      · rename_i h'
        exact one_good w k1 k2 (fun e => h (.inr (.inr e))) h'
      · rename_i h'
        exfalso
        have n1 : ones.length ≠ 0 := fun e => h (.inl (List.length_eq_zero_iff.mp e))
        have n2 : others.length ≠ 0 := fun e => h (.inr (.inl (List.length_eq_zero_iff.mp e)))
        exact h' ⟨by omega, by omega⟩
  | f + 1, s, ones, others, cap, h1, h2, w, k1, k2 => by
    have he : 2 ^ (f + 1) = 2 * 2 ^ f := by rw [Nat.pow_succ, Nat.mul_comm]
    unfold mrg
    split
    · rename_i h
      obtain ⟨a, b, c⟩ := base_good w k1 k2 h
      exact ⟨a, b, fun V c1 c2 l1 l2 _ => c V c1 c2 l1 l2⟩
    · rename_i h
      have n1 : ones.length ≠ 0 := fun e => h (.inl (List.length_eq_zero_iff.mp e))
      have n2 : others.length ≠ 0 := fun e => h (.inr (.inl (List.length_eq_zero_iff.mp e)))
      have nc : cap ≠ 0 := fun e => h (.inr (.inr e))
      split
      · rename_i h'
        exact one_good w k1 k2 nc h'
      · dsimp only
        obtain ⟨g1, l1, v1⟩ := mrg_good f s (evs ones) (evs others) (cap / 2 + 1) (by rw [evs_len]; omega) (by rw [evs_len]; omega) w (k1.sub fun m => evs_mem) (k2.sub fun m => evs_mem)
        generalize mrg f s (evs ones) (evs others) (cap / 2 + 1) = r1 at g1 l1 v1 ⊢
        obtain ⟨s1, odd⟩ := r1
        obtain ⟨g2, l2, v2⟩ := mrg_good f s1 (ods ones) (ods others) (cap / 2) (by rw [ods_len]; omega) (by rw [ods_len]; omega) g1.wf ((k1.ext g1.ext).sub fun m => ods_mem) ((k2.ext g1.ext).sub fun m => ods_mem)
        simp only at g1 l1 v1 ⊢
        generalize mrg f s1 (ods ones) (ods others) (cap / 2) = r2 at g2 l2 v2 ⊢
        obtain ⟨s2, even⟩ := r2
        simp only at g2 l2 v2 ⊢
        rw [evs_len, evs_len] at l1
        rw [ods_len, ods_len] at l2
        have kt : Kn s2 (odd.take 1) := (g1.kn.ext g2.ext).sub fun m hm => List.mem_of_mem_take hm
        have lt : (odd.take 1).length = 1 := by rw [List.length_take]; omega
        obtain ⟨g3, l3, v3⟩ := mloop_good (odd := odd) (even := even) (cap := cap) (p := (ones.length + 1) / 2 + (others.length + 1) / 2) (q := ones.length / 2 + others.length / 2) (by omega) ⟨by omega, by omega⟩ l1 l2 s2 (odd.take 1) 0 g2.wf (g1.kn.ext g2.ext) g2.kn kt (.inl ⟨by rw [lt], by omega, by omega⟩)
        refine ⟨g1.trans (g2.trans g3), by rw [l3]; omega, fun V c1 c2 b1 b2 hm s1' s2' => ?_⟩
        have m2 := g3.ext.mod hm
        have m1 := g2.ext.mod m2
        have so := v1 V ((c1 + 1) / 2) ((c2 + 1) / 2) (by rw [evs_len]; omega) (by rw [evs_len]; omega) m1 s1'.evs s2'.evs
        have se := v2 V (c1 / 2) (c2 / 2) (by rw [ods_len]; omega) (by rw [ods_len]; omega) m2 s1'.ods s2'.ods
        have := v3 V ((c1 + 1) / 2 + (c2 + 1) / 2) (c1 / 2 + c2 / 2) (by omega) (by omega) (by omega) (by omega) hm so se fun t m e => by
          rw [List.getElem?_take] at e
          split at e
          · rename_i ht
            rw [so t m e, decide_eq_decide]
            omega
          · cases e
        rw [show c1 + c2 = (c1 + 1) / 2 + (c2 + 1) / 2 + (c1 / 2 + c2 / 2) by omega]
        exact this
end K21
namespace K21
open PySem PySem.Spec PyProof.Rows L2 Lw
def top (i : Nat) : Stmt := PySem.Challenge.pw_mostclauses_k21_nets_mean_counts.main.body.getD i (.Pass ⟨0, 0, 0, 0⟩)
abbrev s_Merging___init__ : Stmt := inClass (top 1) 0
theorem sc_Merging___init__ : FnScope ["self", "first"] ["self", "first"] (defScope s_Merging___init__) := ⟨rfl, rfl, rfl, by decide +kernel, rfl, by decide +kernel, by decide +kernel⟩
abbrev s_Merging_fresh_name : Stmt := inClass (top 1) 1
theorem sc_Merging_fresh_name : FnScope ["self", "meaning", "name"] ["self", "meaning"] (defScope s_Merging_fresh_name) := ⟨rfl, rfl, rfl, by decide +kernel, rfl, by decide +kernel, by decide +kernel⟩
abbrev s_Merging_compared : Stmt := inClass (top 1) 2
theorem sc_Merging_compared : FnScope ["self", "one", "other", "is_both", "high", "low"] ["self", "one", "other", "is_both"] (defScope s_Merging_compared) := ⟨rfl, rfl, rfl, by decide +kernel, rfl, by decide +kernel, by decide +kernel⟩
/-! ### the data -/
def clD (c : List Int) : D := .tup (dI c)
def meanD (m : List (List Int)) : D := .tup (m.map clD)
def nmD (p : Int × List (List Int)) : D := prD (p.1, meanD p.2)
def flds : List Str := ["first", "named", "made"]
theorem flds_nd : flds.Nodup := by decide +kernel
def Ms.fs (s : Ms) : List Sl := [Sl.val (.int s.first), Sl.own (.lst (s.named.map nmD)), Sl.own (.lst (s.made.map clD))]
abbrev Iv.mg (K : PySem.W.Frag) (C : Addr) (A : At) (s : Ms) : Iv := Iv.ob K C A flds s.fs
structure Txt (K : PySem.W.Frag) (mg : Str → Option Value) (C : Addr) : Prop where
  cl : Cls K C
  n1 : NoAttr K C "first"
  n2 : NoAttr K C "named"
  n3 : NoAttr K C "made"
/-! ### promises -/
def initSp (C : Addr) : Sp := fun vs H Q _ => ∃ (o dx : Addr) (f : Int), vs = [.ref o, .int f] ∧ H o = some (.ins C dx []) ∧
  ∀ (ln lm : Addr) (H' : Hp), H ln = none → H lm = none → lm ≠ ln → H' o = some (.ins C dx (flds.zip [.int f, .ref ln, .ref lm])) → H' ln = some (.lst []) → H' lm = some (.lst []) → (∀ b, b ≠ o → b ≠ ln → b ≠ lm → H' b = H b) → Q .non H'
structure FA where
  A : At
  s : Ms
  m : List (List Int)
def freshSp (K : PySem.W.Frag) (C : Addr) : Sp := iSp K 2 (fun a : FA => Iv.mg K C a.A a.s) (fun a => Iv.mg K C a.A (a.s.fresh a.m)) (fun a ds => ds = [.raw (.ref a.A.o), meanD a.m] ∧ a.s.named.length ≤ 1000000) (fun a d => d = .int a.s.nx)
structure CA where
  A : At
  s : Ms
  a : Int
  b : Int
  both : Bool
def cmpSp (K : PySem.W.Frag) (C : Addr) : Sp := iSp K 4 (fun a : CA => Iv.mg K C a.A a.s) (fun a => Iv.mg K C a.A (cmp a.s a.a a.b a.both).1)
  (fun a ds => ds = [.raw (.ref a.A.o), .int a.a, .int a.b, .bl a.both] ∧ a.s.named.length ≤ 100000 ∧ a.s.made.length ≤ 100000) (fun a d => d = .lst (dI (cmp a.s a.a a.b a.both).2))
section
variable {P : Program} {w : World} {K : PySem.W.Frag} {mg : Str → Option Value} {base : Heap}
theorem ne12 : ¬ (("first" : Str) = "named") := by decide +kernel
theorem ne13 : ¬ (("first" : Str) = "made") := by decide +kernel
theorem ne23 : ¬ (("named" : Str) = "made") := by decide +kernel
theorem w_init {f C : Addr} {fd : FuncData} (F : Fun K "__init__" "Merging.__init__" s_Merging___init__ f fd) (T : Txt K mg C) : FnOk P w K mg base L2.CX0 1 f fd ["self", "first"] (initSp C) := by
  refine F.ok sc_Merging___init__ (fun vs H Q E h => ?_) (fun cdv A outer s H vs Q E hr h => ⟨_, (pss_cons (ps_fld (pv 0) (pv 1) rfl)
  (pss_cons (ps_fld (pv 0) (pe_lst pa_nil) rfl)
  (pss_one (ps_fld (pv 0) (pe_lst pa_nil) rfl)))), ?_⟩)
  · obtain ⟨o, dx, f, rfl, _⟩ := h
    rfl
  · obtain ⟨o, dx, f, rfl, ho, k⟩ := h
    refine ⟨_, rfl, _, rfl, o, C, dx, [], rfl, ho, T.cl, T.n1, (by show 0 < 1000; decide), ?_⟩
    refine ⟨Nat.zero_le _, fun ln hln => ?_⟩
    have e1 : ln ≠ o := fun z => by rw [z, upd_same] at hln; cases hln
    have hln0 : H ln = none := by rw [upd_ne e1] at hln; exact hln
    refine ⟨_, rfl, o, C, dx, _, rfl, (by rw [upd_ne e1.symm, upd_same]), T.cl, T.n2, (by show 1 < 1000; decide), ?_⟩
    refine ⟨Nat.zero_le _, fun lm hlm => ?_⟩
    have e2 : lm ≠ o := fun z => by rw [z, upd_same] at hlm; cases hlm
    rw [upd_ne e2] at hlm
    have e3 : lm ≠ ln := fun z => by rw [z, upd_same] at hlm; cases hlm
    rw [upd_ne e3, upd_ne e2] at hlm
    have p1 : putF ("first" : Str) (V.int f) [] = ([("first", V.int f)] : List (Str × V)) := rfl
    have p2 : putF ("named" : Str) (V.ref ln) ([("first", V.int f)] : List (Str × V)) = ([("first", V.int f), ("named", V.ref ln)] : List (Str × V)) := by
      show (if ("first" : Str) = "named" then _ else _) = _
      rw [if_neg ne12]; rfl
    have p3 : putF ("made" : Str) (V.ref lm) ([("first", V.int f), ("named", V.ref ln)] : List (Str × V)) = ([("first", V.int f), ("named", V.ref ln), ("made", V.ref lm)] : List (Str × V)) := by
      show (if ("first" : Str) = "made" then _ else (("first" : Str), V.int f) :: (if ("named" : Str) = "made" then _ else _)) = _
      rw [if_neg ne13, if_neg ne23]; rfl
    rw [p1, p2]
    refine ⟨_, rfl, o, C, dx, _, rfl, (by rw [upd_ne e2.symm, upd_same]), T.cl, T.n3, (by show 2 < 1000; decide), ?_⟩
    rw [p3]
    refine k ln lm _ hln0 hlm e3 upd_same (by rw [upd_ne e1, upd_ne e3.symm, upd_ne e1, upd_same]) (by rw [upd_ne e2, upd_same]) fun b b1 b2 b3 => by rw [upd_ne b1, upd_ne b3, upd_ne b1, upd_ne b2, upd_ne b1]
theorem w_fresh {f C : Addr} {fd : FuncData} (F : Fun K "fresh_name" "Merging.fresh_name" s_Merging_fresh_name f fd) (T : Txt K mg C) (b_len : mg "len" = none) : FnOk P w K mg base L2.CX0 1 f fd ["self", "meaning"] (freshSp K C) := by
  refine ok_imp F sc_Merging_fresh_name fun cdv B outer s H E hr => ⟨_, (pss_cons (ps_set (i := 2) sc_Merging_fresh_name.nd rfl (Or.inl rfl) (pe_op op_add (pe_fld (pv 0) rfl) (pe_callB call_len_seq (by rfl) b_len (by decide +kernel) (pa_cons (pe_fld (pv 0) rfl) pa_nil))))
  (pss_cons (ps_expr (pe_bm PySem.F.plainAttrs_list PySem.F.slot_list_append PySem.F.type_list_append mt_append (pe_fld (pv 0) rfl) (pa_cons (pe_tup (pa_cons (pv 2) (pa_cons (pv 1) pa_nil))) pa_nil)))
  (pss_one (ps_ret (pv 2))))), fun F0 h0 σ a ds Q hR hn S k => ?_⟩
  obtain ⟨rfl, hl⟩ := hR
  have hsz := sizeLine_eq
  refine s_setX S (ex_ii (A := (· = a.s.first)) (B := (· = (a.s.named.length : Nat))) ((ex_fld T.cl T.n1 flds_nd (i := 0) rfl rfl (ev_var rfl)).imp fun d e => ⟨_, e, rfl⟩) ((ex_flen (ef_fld T.cl T.n2 flds_nd (i := 1) rfl rfl (ev_var rfl))).imp fun d e => ⟨_, e, by rw [List.length_map]⟩)) fun d σ H hd S => ?_
  obtain ⟨z, rfl, i, j, rfl, rfl, rfl⟩ := hd
  refine s_fApp S T.cl T.n2 flds_nd (i := 1) rfl rfl (ev_var rfl) (ev_tup (ea_cons (ev_var rfl) (ea_cons (ev_var rfl) ea_nil)) (by show 2 ≤ sizeLine; omega)) (by rw [List.length_map]; omega) fun H S => ?_
  have e : (a.s.fs.set 1 (Sl.own (.lst (a.s.named.map nmD ++ [.tup [.int (a.s.first + (a.s.named.length : Nat)), meanD a.m]])))) = (a.s.fresh a.m).fs := by
    show [_, _, _] = [_, _, _]
    have : (a.s.fresh a.m).named.map nmD = a.s.named.map nmD ++ [.tup [.int (a.s.first + (a.s.named.length : Nat)), meanD a.m]] := by
      show (a.s.named ++ [(a.s.nx, a.m)]).map nmD = _
      rw [List.map_append]
      rfl
    rw [this]
    rfl
  rw [e] at S
  exact s_ret S (ev_var rfl) (k _ rfl)
theorem w_cmp {f C : Addr} {fd : FuncData} (F : Fun K "compared" "Merging.compared" s_Merging_compared f fd) (T : Txt K mg C) (M_fresh_name : Met P w K mg base 1 C "fresh_name" (freshSp K C)) : FnOk P w K mg base L2.CX0 2 f fd ["self", "one", "other", "is_both"] (cmpSp K C) := by
  refine ok_imp F sc_Merging_compared fun cdv B outer s H E hr => ⟨_, (pss_cons (ps_set (i := 4) sc_Merging_compared.nd rfl (Or.inl rfl) (pe_mt M_fresh_name hr (by omega) (pv 0) (pa_cons (pe_tup (pa_cons (pe_tup (pa_cons (pv 1) pa_nil)) (pa_cons (pe_tup (pa_cons (pv 2) pa_nil)) pa_nil))) pa_nil)))
  (pss_cons (ps_fldaug (pv 0) (pe_lst (pa_cons (pe_tup (pa_cons (pe_un un_neg (pv 1)) (pa_cons (pv 4) pa_nil))) (pa_cons (pe_tup (pa_cons (pe_un un_neg (pv 2)) (pa_cons (pv 4) pa_nil))) pa_nil))) iop_ext)
  (pss_cons (ps_if (pt_not (pt_val (pv 3) (fun _ => rfl)))
  (pss_one (ps_ret (pe_lst (pa_cons (pv 4) pa_nil))))
  pss_nil)
  (pss_cons (ps_set (i := 5) sc_Merging_compared.nd rfl (Or.inl rfl) (pe_mt M_fresh_name hr (by omega) (pv 0) (pa_cons (pe_tup (pa_cons (pe_tup (pa_cons (pv 1) (pa_cons (pv 2) pa_nil))) pa_nil)) pa_nil)))
  (pss_cons (ps_expr (pe_bm PySem.F.plainAttrs_list PySem.F.slot_list_append PySem.F.type_list_append mt_append (pe_fld (pv 0) rfl) (pa_cons (pe_tup (pa_cons (pe_un un_neg (pv 1)) (pa_cons (pe_un un_neg (pv 2)) (pa_cons (pv 5) pa_nil)))) pa_nil)))
  (pss_one (ps_ret (pe_lst (pa_cons (pv 4) (pa_cons (pv 5) pa_nil)))))))))), fun F0 h0 σ a ds Q hR hn S k => ?_⟩
  obtain ⟨rfl, hl, hl2⟩ := hR
  have hsz := sizeLine_eq
  have hz : ∀ n, n ≤ 3 → n ≤ sizeLine := fun n h => by omega
  -- high = self.fresh_name(..)
  refine s_setX S (ex_meth (⟨a.A, a.s, [[a.a], [a.b]]⟩ : FA) (fun _ _ h => h) (fun _ _ h => h) (by decide +kernel) (ev_var rfl) (ea_cons (ev_tup (ea_cons (ev_tup (ea_cons (ev_var rfl) ea_nil) (hz _ (by simp))) (ea_cons (ev_tup (ea_cons (ev_var rfl) ea_nil) (hz _ (by simp))) ea_nil)) (hz _ (by simp))) ea_nil) ⟨rfl, rfl, by show a.s.named.length ≤ 1000000; omega⟩) fun d σ H hd S => ?_
  subst hd
  -- self.made += ..
  refine s_fExt S T.cl T.n3 flds_nd (i := 2) rfl rfl (ev_var rfl) (ev_lst (ea_cons (ev_tup (ea_cons (ev_neg (ev_var rfl)) (ea_cons (ev_var rfl) ea_nil)) (hz _ (by simp))) (ea_cons (ev_tup (ea_cons (ev_neg (ev_var rfl)) (ea_cons (ev_var rfl) ea_nil)) (hz _ (by simp))) ea_nil)) (hz _ (by simp))) (by
    show (a.s.made.map clD).length + 2 ≤ sizeLine
    rw [List.length_map]; omega) (by decide) fun H S => ?_
  have e1 : ((a.s.fresh [[a.a], [a.b]]).fs.set 2 (Sl.own (.lst ((a.s.fresh [[a.a], [a.b]]).made.map clD ++ [.tup [.int (-a.a), .int a.s.nx], .tup [.int (-a.b), .int a.s.nx]])))) = (cmp1 a.s a.a a.b).fs := by
    show [_, _, _] = [_, _, _]
    have : (cmp1 a.s a.a a.b).made.map clD = (a.s.fresh [[a.a], [a.b]]).made.map clD ++ [.tup [.int (-a.a), .int a.s.nx], .tup [.int (-a.b), .int a.s.nx]] := by
      show List.map clD (_ ++ _) = _
      rw [List.map_append]
      rfl
    rw [this]
    rfl
  have S := State.fs S e1
  refine s_if S (et_not (et_B (ev_var rfl))) (fun hb H S => ?_) (fun hb H S => ?_)
  · have hb : a.both = false := by simpa using hb
    have ec : cmp a.s a.a a.b a.both = (cmp1 a.s a.a a.b, [a.s.nx]) := by rw [hb]; rfl
    refine s_ret S (ev_lst (ea_cons (ev_var rfl) ea_nil) (hz _ (by simp))) ?_
    have k := k (.lst (dI [a.s.nx])) (by rw [ec])
    rw [ec] at k
    exact k
  · have hb : a.both = true := by simpa using hb
    have ec : cmp a.s a.a a.b a.both = (cmp2 a.s a.a a.b, [a.s.nx, (cmp1 a.s a.a a.b).nx]) := by rw [hb]; rfl
    have hl1 : (cmp1 a.s a.a a.b).named.length = a.s.named.length + 1 := by simp [cmp1, Ms.fresh, Ms.say]
    have hm1 : (cmp1 a.s a.a a.b).made.length = a.s.made.length + 2 := by simp [cmp1, Ms.fresh, Ms.say]
    refine s_setX S (ex_meth (⟨a.A, cmp1 a.s a.a a.b, [[a.a, a.b]]⟩ : FA) (fun _ _ h => h) (fun _ _ h => h) (by decide +kernel) (ev_var rfl) (ea_cons (ev_tup (ea_cons (ev_tup (ea_cons (ev_var rfl) (ea_cons (ev_var rfl) ea_nil)) (hz _ (by simp))) ea_nil) (hz _ (by simp))) ea_nil) ⟨rfl, rfl, by show (cmp1 a.s a.a a.b).named.length ≤ 1000000; omega⟩) fun d σ H hd S => ?_
    subst hd
    refine s_fApp S T.cl T.n3 flds_nd (i := 2) rfl rfl (ev_var rfl) (ev_tup (ea_cons (ev_neg (ev_var rfl)) (ea_cons (ev_neg (ev_var rfl)) (ea_cons (ev_var rfl) ea_nil))) (hz _ (by simp))) (by
      show ((cmp1 a.s a.a a.b).made.map clD).length < sizeLine
      rw [List.length_map]; omega) fun H S => ?_
    have e2 : (((cmp1 a.s a.a a.b).fresh [[a.a, a.b]]).fs.set 2 (Sl.own (.lst (((cmp1 a.s a.a a.b).fresh [[a.a, a.b]]).made.map clD ++ [.tup [.int (-a.a), .int (-a.b), .int (cmp1 a.s a.a a.b).nx]])))) = (cmp2 a.s a.a a.b).fs := by
      show [_, _, _] = [_, _, _]
      have : (cmp2 a.s a.a a.b).made.map clD = ((cmp1 a.s a.a a.b).fresh [[a.a, a.b]]).made.map clD ++ [.tup [.int (-a.a), .int (-a.b), .int (cmp1 a.s a.a a.b).nx]] := by
        show List.map clD (_ ++ _) = _
        rw [List.map_append]
        rfl
      rw [this]
      rfl
    have S := State.fs S e2
    refine s_ret S (ev_lst (ea_cons (ev_var rfl) (ea_cons (ev_var rfl) ea_nil)) (hz _ (by simp))) ?_
    have k := k (.lst (dI [a.s.nx, (cmp1 a.s a.a a.b).nx])) (by rw [ec])
    rw [ec] at k
    exact k
end
end K21
namespace K21
open PySem PySem.Spec PyProof.Rows L2 Lw
abbrev s_Merging_merged : Stmt := inClass (top 1) 3
theorem sc_Merging_merged : FnScope ["self", "ones", "others", "cap", "odd", "even", "found", "at", "pair"] ["self", "ones", "others", "cap"] (defScope s_Merging_merged) := ⟨rfl, rfl, rfl, by decide +kernel, rfl, by decide +kernel, by decide +kernel⟩
structure MA where
  A : At
  s : Ms
  ones : List Int
  others : List Int
  cap : Nat
def mrgSp (K : PySem.W.Frag) (C : Addr) (f : Nat) : Sp := iSp K 4 (fun a : MA => Iv.mg K C a.A a.s) (fun a => Iv.mg K C a.A (mrg f a.s a.ones a.others a.cap).1)
  (fun a ds => ds = [.raw (.ref a.A.o), .lst (dI a.ones), .lst (dI a.others), .int (a.cap : Nat)] ∧ a.ones.length ≤ 2 ^ f ∧ a.others.length ≤ 2 ^ f ∧ f ≤ 6 ∧ a.cap ≤ 61 ∧ a.s.named.length + 126 * 2 ^ f ≤ 50000 ∧ a.s.made.length + 189 * 2 ^ f ≤ 50000)
  (fun a d => d = .lst (dI (mrg f a.s a.ones a.others a.cap).2))
abbrev wEnv (A : At) (ones others : List Int) (cap : Nat) (odd even : List Int) (a b c : Sl) : List Sl := [Sl.val (.raw (.ref A.o)), Sl.val (.lst (dI ones)), Sl.val (.lst (dI others)), Sl.val (.int (cap : Nat)), Sl.val (.lst (dI odd)), Sl.val (.lst (dI even)), a, b, c]
theorem pair_cut (odd even : List Int) (k : Nat) : cutD (dI odd) (some ((k : Int) + 1)) (some ((k : Int) + 2)) ++ cutD (dI even) (some (k : Int)) (some ((k : Int) + 1)) = dI (pairAt odd even k) := by
  have e1 : ((k : Int) + 1) = ((k + 1 : Nat) : Int) := by omega
  have e2 : ((k : Int) + 2) = ((k + 2 : Nat) : Int) := by omega
  rw [e1, e2, cutD_nat, cutD_nat, show k + 2 - (k + 1) = 1 by omega, show k + 1 - k = 1 by omega]
  unfold pairAt
  show _ ++ _ = List.map D.int (_ ++ _)
  rw [List.map_append, List.map_take, List.map_drop, List.map_take, List.map_drop]
theorem pair_lens (odd even : List Int) (k : Nat) : (cutD (dI odd) (some ((k : Int) + 1)) (some ((k : Int) + 2))).length + (cutD (dI even) (some (k : Int)) (some ((k : Int) + 1))).length = (pairAt odd even k).length := by
  rw [← List.length_append, pair_cut, List.length_map]
theorem dI_empty (ns : List Int) : (dI ns).isEmpty = decide (ns = []) := by cases ns <;> rfl
section
variable {P : Program} {w : World} {K : PySem.W.Frag} {mg : Str → Option Value} {base : Heap}
theorem w_merged1 {f : Nat} {sp0 : Sp} {fM C : Addr} {fd : FuncData} (F : Fun K "merged" "Merging.merged" s_Merging_merged fM fd) (T : Txt K mg C) (b_len : mg "len" = none) (M_compared : Met P w K mg base 2 C "compared" (cmpSp K C))
    (M_merged : Met P w K mg base (f + 2) C "merged" sp0) (hM : ∀ g, f = g + 1 → sp0 = mrgSp K C g) : FnOk P w K mg base L2.CX0 (f + 3) fM fd ["self", "ones", "others", "cap"] (mrgSp K C f) := by
  refine ok_imp F sc_Merging_merged fun cdv B outer s H E hr => ⟨_, (pss_cons (ps_if (PW.pt (pw_or (pt_cmpR (op_eqD hr.units) (pv 1) (pe_lst pa_nil) (nomark _)) (pw_or (pt_cmpR (op_eqD hr.units) (pv 2) (pe_lst pa_nil) (nomark _)) (pw_or1 (pt_cmpR op_eq (pv 3) pe_int (nomark _))))))
  (pss_one (ps_ret (pe_slice sl_list (pe_op op_cat (pv 1) (pv 2)) po_none (po_some (pv 3)))))
  pss_nil)
  (pss_cons (ps_if (PW.pt (pw_and (pt_cmpR op_eq (pe_callB call_len_seq (by rfl) b_len (by decide +kernel) (pa_cons (pv 1) pa_nil)) pe_int (nomark _)) (pw_and1 (pt_cmpR op_eq (pe_callB call_len_seq (by rfl) b_len (by decide +kernel) (pa_cons (pv 2) pa_nil)) pe_int (nomark _)))))
  (pss_one (ps_ret (pe_mt M_compared hr (by omega) (pv 0) (pa_cons (pe_ix ix_list (pv 1) pe_int (fun _ _ => rfl)) (pa_cons (pe_ix ix_list (pv 2) pe_int (fun _ _ => rfl)) (pa_cons (pe_cmpR op_gt (pv 3) pe_int (nomark _)) pa_nil))))))
  pss_nil)
  (pss_cons (ps_set (i := 4) sc_Merging_merged.nd rfl (Or.inl rfl) (pe_mt M_merged hr (by omega) (pv 0) (pa_cons (pe_step (pv 1) po_none po_none (po_some pe_int)) (pa_cons (pe_step (pv 2) po_none po_none (po_some pe_int)) (pa_cons (pe_op op_add (pe_op op_fdivW (pv 3) pe_int) pe_int) pa_nil)))))
  (pss_cons (ps_set (i := 5) sc_Merging_merged.nd rfl (Or.inl rfl) (pe_mt M_merged hr (by omega) (pv 0) (pa_cons (pe_step (pv 1) (po_some pe_int) po_none (po_some pe_int)) (pa_cons (pe_step (pv 2) (po_some pe_int) po_none (po_some pe_int)) (pa_cons (pe_op op_fdivW (pv 3) pe_int) pa_nil)))))
  (pss_cons (ps_par (i := 6) (j := 7) (by rfl) sc_Merging_merged.nd rfl rfl (by decide) rfl rfl (pa_cons (pe_slice sl_list (pv 4) po_none (po_some pe_int)) (pa_cons pe_int pa_nil)) (by rfl))
  (pss_cons (ps_while PassesOwn.never (PW.pt (pw_and (pt_cmpR op_lt (pe_callB call_len_seq (by rfl) b_len (by decide +kernel) (pa_cons (pv 6) pa_nil)) (pv 3) (nomark _)) (pw_and1 (pt_cmpR (op_neD hr.units) (pe_op op_cat (pe_slice sl_list (pv 4) (po_some (pe_op op_add (pv 7) pe_int)) (po_some (pe_op op_add (pv 7) pe_int))) (pe_slice sl_list (pv 5) (po_some (pv 7)) (po_some (pe_op op_add (pv 7) pe_int)))) (pe_lst pa_nil) (nomark _)))))
  (pss_cons (ps_set (i := 8) sc_Merging_merged.nd rfl (Or.inl rfl) (pe_op op_cat (pe_slice sl_list (pv 4) (po_some (pe_op op_add (pv 7) pe_int)) (po_some (pe_op op_add (pv 7) pe_int))) (pe_slice sl_list (pv 5) (po_some (pv 7)) (po_some (pe_op op_add (pv 7) pe_int)))))
  (pss_cons (ps_aug (i := 6) sc_Merging_merged.nd rfl (Or.inl rfl) (pe_ifExp (pt_cmpR op_eq (pe_callB call_len_seq (by rfl) b_len (by decide +kernel) (pa_cons (pv 8) pa_nil)) pe_int (nomark _)) (pv 8) (pe_mt M_compared hr (by omega) (pv 0) (pa_cons (pe_ix ix_list (pv 8) pe_int (fun _ _ => rfl)) (pa_cons (pe_ix ix_list (pv 8) pe_int (fun _ _ => rfl)) (pa_cons (pe_cmpR op_lt (pe_op op_add (pe_callB call_len_seq (by rfl) b_len (by decide +kernel) (pa_cons (pv 6) pa_nil)) pe_int) (pv 3) (nomark _)) pa_nil))))) ip_ext)
  (pss_one (ps_aug (i := 7) sc_Merging_merged.nd rfl (Or.inl rfl) pe_int ip_add)))))
  (pss_one (ps_ret (pv 6))))))))), fun F0 h0 σ a ds Q hR hn S k => ?_⟩
  obtain ⟨rfl, l1, l2, hf, hc, hn1, hn2⟩ := hR
  have hsz := sizeLine_eq
  have hp6 : 2 ^ f ≤ 2 ^ 6 := Nat.pow_le_pow_right (by decide) hf
  have hp : 2 ^ f ≤ 64 := hp6
  obtain ⟨A, s0, ones, others, cap⟩ := a
  simp only at l1 l2 hc hn1 hn2 k S
  -- if ones == [] or others == [] or cap == 0
  refine s_if S (et_or (et_test (ev_eqNil (n := 0) (ev_var rfl) (pyI ones) shpI)) fun _ => et_or (et_test (ev_eqNil (n := 0) (ev_var rfl) (pyI others) shpI)) fun _ => et_test (ev_eqI (ev_var rfl) ev_int)) (fun hb H S => ?_) (fun hb H S => ?_)
  · have hb : ones = [] ∨ others = [] ∨ cap = 0 := by
      rw [dI_empty, dI_empty] at hb
      simp only [Bool.or_eq_true, decide_eq_true_eq] at hb
      rcases hb with q | q | q
      · exact .inl q
      · exact .inr (.inl q)
      · exact .inr (.inr (by omega))
    have em : mrg f s0 ones others cap = (s0, (ones ++ others).take cap) := by
      unfold mrg
      rw [if_pos hb]
    refine s_ret S (en_slL (ds := dI ones ++ dI others) (Ev.rd (EvN.ev (en_cat (Ev.rd (ev_var rfl)) (Ev.rd (ev_var rfl)) (by rw [List.length_map, List.length_map]; omega)))) eo_none (eo_some (ev_var rfl))).ev ?_
    have e : cutD (dI ones ++ dI others) none (some ((cap : Nat) : Int)) = dI ((ones ++ others).take cap) := by
      rw [cutD_to, ← List.map_append, ← List.map_take]
    rw [e]
    have k := k (.lst (dI ((ones ++ others).take cap))) (by rw [em])
    rw [em] at k
    exact k
  have hb : ¬ (ones = [] ∨ others = [] ∨ cap = 0) := by
    rw [dI_empty, dI_empty] at hb
    simp only [Bool.or_eq_false_iff, decide_eq_false_iff_not] at hb
    rintro (q | q | q)
    · exact hb.1 q
    · exact hb.2.1 q
    · exact hb.2.2 (by omega)
  -- if len(ones) == 1 and len(others) == 1
  refine s_if S (et_and (et_test (ev_eqI (ev_lenL (Ev.rd (ev_var rfl))) ev_int)) fun _ => et_test (ev_eqI (ev_lenL (Ev.rd (ev_var rfl))) ev_int)) (fun hb2 H S => ?_) (fun hb2 H S => ?_)
  · have hb2 : ones.length = 1 ∧ others.length = 1 := by
      rw [List.length_map, List.length_map] at hb2
      simp only [Bool.and_eq_true, decide_eq_true_eq] at hb2
      omega
    have em : mrg f s0 ones others cap = cmp s0 (ones.getD 0 0) (others.getD 0 0) (decide (1 < cap)) := by
      unfold mrg
      rw [if_neg hb, if_pos hb2]
    have g1 : ones[0]? = some (ones.getD 0 0) := by
      match ones, hb2.1 with
      | [a], _ => rfl
    have g2 : others[0]? = some (others.getD 0 0) := by
      match others, hb2.2 with
      | [a], _ => rfl
    refine s_retX S (ex_meth (⟨A, s0, ones.getD 0 0, others.getD 0 0, decide (1 < cap)⟩ : CA) (fun _ _ h => h) (fun _ _ h => h) (by decide +kernel) (ev_var rfl)
      (ea_cons (ev_ixL (Ev.rd (ev_var rfl)) ev_int (atI_D (i := 0) g1)) (ea_cons (ev_ixL (Ev.rd (ev_var rfl)) ev_int (atI_D (i := 0) g2)) (ea_cons (ev_ib (ev_var rfl) ev_int) ea_nil))) ⟨rfl, (by
        show [D.raw (V.ref A.o), D.int (ones.getD 0 0), D.int (others.getD 0 0), D.bl (decide ((1 : Int) < ((cap : Nat) : Int)))] = [D.raw (V.ref A.o), D.int (ones.getD 0 0), D.int (others.getD 0 0), D.bl (decide (1 < cap))]
        have : decide ((1 : Int) < ((cap : Nat) : Int)) = decide (1 < cap) := decide_eq_decide.mpr (by omega)
        rw [this]), by show s0.named.length ≤ 100000; omega, by show s0.made.length ≤ 100000; omega⟩) fun d hd => ?_
    have k := k d (by rw [em]; exact hd)
    rw [em] at k
    exact k
  have hb2 : ¬ (ones.length = 1 ∧ others.length = 1) := by
    rw [List.length_map, List.length_map] at hb2
    intro q
    rw [q.1, q.2] at hb2
    simp at hb2
  have n1 : ones.length ≠ 0 := fun e => hb (.inl (List.length_eq_zero_iff.mp e))
  have n2 : others.length ≠ 0 := fun e => hb (.inr (.inl (List.length_eq_zero_iff.mp e)))
  obtain ⟨g, rfl⟩ : ∃ g, f = g + 1 := by
    cases f with
    | zero =>
      exfalso
      apply hb2
      omega
    | succ g => exact ⟨g, rfl⟩
  have esp := hM g rfl
  subst esp
  have hpg : 2 ^ (g + 1) = 2 * 2 ^ g := by rw [Nat.pow_succ, Nat.mul_comm]
  -- odd = self.merged(ones[::2], others[::2], cap // 2 + 1)
  have ec : ((cap : Nat) : Int) / 2 = ((cap / 2 : Nat) : Int) := by omega
  refine s_setX S (ex_meth (⟨A, s0, evs ones, evs others, cap / 2 + 1⟩ : MA) (fun _ _ h => h) (fun _ _ h => h) (by decide +kernel) (ev_var rfl)
    (ea_cons (en_step (Ev.rd (ev_var rfl)) eo_none eo_none (eo_some ev_int) (by decide) (by rw [pick_evs, evs_map, List.length_map, evs_len]; omega)).ev (ea_cons (en_step (Ev.rd (ev_var rfl)) eo_none eo_none (eo_some ev_int) (by decide) (by rw [pick_evs, evs_map, List.length_map, evs_len]; omega)).ev (ea_cons (ev_ii (ev_iiC (ev_var rfl) ev_int div2_ok) ev_int) ea_nil)))
    ⟨rfl, (by rw [pick_evs, pick_evs, evs_map, evs_map, ec]; rfl), by show (evs ones).length ≤ 2 ^ g; rw [evs_len]; omega, by show (evs others).length ≤ 2 ^ g; rw [evs_len]; omega, by omega, by show cap / 2 + 1 ≤ 61; omega, by show s0.named.length + 126 * 2 ^ g ≤ 50000; omega, by show s0.made.length + 189 * 2 ^ g ≤ 50000; omega⟩) fun d σ H hd S => ?_
  simp only at hd S
  have hlo := mrg_len g s0 (evs ones) (evs others) (cap / 2 + 1)
  have hg1 := mrg_grow g s0 (evs ones) (evs others) (cap / 2 + 1) (by omega)
  have em : mrg (g + 1) s0 ones others cap = mloop (mrg g (mrg g s0 (evs ones) (evs others) (cap / 2 + 1)).1 (ods ones) (ods others) (cap / 2)).1 (mrg g s0 (evs ones) (evs others) (cap / 2 + 1)).2
          (mrg g (mrg g s0 (evs ones) (evs others) (cap / 2 + 1)).1 (ods ones) (ods others) (cap / 2)).2 cap ((mrg g s0 (evs ones) (evs others) (cap / 2 + 1)).2.take 1) 0 := by
    conv => lhs; unfold mrg
    rw [if_neg hb, if_neg hb2]
  rw [em] at k
  generalize mrg g s0 (evs ones) (evs others) (cap / 2 + 1) = r1 at hd S hlo hg1 k
  obtain ⟨s1, odd⟩ := r1
  simp only at hd S hlo hg1 k
  subst hd
  have gn1 := hg1.named
  have gm1 := hg1.made
  -- even = ..
  refine s_setX S (ex_meth (⟨A, s1, ods ones, ods others, cap / 2⟩ : MA) (fun _ _ h => h) (fun _ _ h => h) (by decide +kernel) (ev_var rfl)
    (ea_cons (en_step (Ev.rd (ev_var rfl)) (eo_some ev_int) eo_none (eo_some ev_int) (by decide) (by rw [pick_ods, ods_map, List.length_map, ods_len]; omega)).ev (ea_cons (en_step (Ev.rd (ev_var rfl)) (eo_some ev_int) eo_none (eo_some ev_int) (by decide) (by rw [pick_ods, ods_map, List.length_map, ods_len]; omega)).ev (ea_cons (ev_iiC (ev_var rfl) ev_int div2_ok) ea_nil)))
    ⟨rfl, (by rw [pick_ods, pick_ods, ods_map, ods_map, ec]), by show (ods ones).length ≤ 2 ^ g; rw [ods_len]; omega, by show (ods others).length ≤ 2 ^ g; rw [ods_len]; omega, by omega, by show cap / 2 ≤ 61; omega, by show s1.named.length + 126 * 2 ^ g ≤ 50000; omega, by show s1.made.length + 189 * 2 ^ g ≤ 50000; omega⟩) fun d σ H hd S => ?_
  simp only at hd S
  have hle := mrg_len g s1 (ods ones) (ods others) (cap / 2)
  have hg2 := mrg_grow g s1 (ods ones) (ods others) (cap / 2) (by omega)
  generalize mrg g s1 (ods ones) (ods others) (cap / 2) = r2 at hd S hle hg2 k
  obtain ⟨s2, even⟩ := r2
  simp only at hd S hle hg2 k
  subst hd
  have gn2 := hg2.named
  have gm2 := hg2.made
  have S : State K F0 h0 _ (Iv.mg K C A s2) (wEnv A ones others cap odd even Sl.un Sl.un Sl.un) Gh.nil σ H := S
  -- found, at = (odd[:1], 0)
  refine s_par S (eas_new (en_slL (Ev.rd (ev_var rfl)) eo_none (eo_some ev_int)) (eas_val ev_int eas_nil)) (by show 6 < 9; decide) (by show 7 < 9; decide) fun σ H S => ?_
  have e0 : cutD (dI odd) none (some 1) = dI (odd.take 1) := by rw [show (1 : Int) = ((1 : Nat) : Int) from rfl, cutD_to, ← List.map_take]
  rw [e0] at S
  have S : State K F0 h0 _ (Iv.mg K C A s2) (wEnv A ones others cap odd even (Sl.own (.lst (dI (odd.take 1)))) (Sl.val (.int ((0 : Nat) : Int))) Sl.un) Gh.nil σ H := S
  have hc1 : 1 ≤ cap := by
    have : cap ≠ 0 := fun e => hb (.inr (.inr e))
    omega
  refine s_while S (fun m env I => ∃ (s : Ms) (found : List Int) (k : Nat) (sl : Sl), m = cap - found.length ∧ env = wEnv A ones others cap odd even (Sl.own (.lst (dI found))) (Sl.val (.int (k : Nat))) sl ∧ I = Iv.mg K C A s ∧
      mloop s odd even cap found k = mloop s2 odd even cap (odd.take 1) 0 ∧ found.length ≤ 62 ∧ s.named.length + 2 * (cap - found.length) ≤ 50000 ∧ s.made.length + 3 * (cap - found.length) ≤ 50000) (cap - (odd.take 1).length)
    ⟨s2, odd.take 1, 0, Sl.un, rfl, rfl, rfl, rfl, by rw [List.length_take]; omega, by omega, by omega⟩ ?_
  rintro m env I σ H ⟨s, found, kk, sl, rfl, rfl, rfl, hfin, hfl, hb1, hb3⟩ S
  have hpl : (pairAt odd even kk).length ≤ 2 := by
    unfold pairAt
    rw [List.length_append, List.length_take, List.length_take]
    omega
  have evp : ∀ sl, Ev K _ (wEnv A ones others cap odd even (Sl.own (.lst (dI found))) (Sl.val (.int (kk : Nat))) sl) (.lst (dI (pairAt odd even kk))) := fun sl =>
    (en_cat (Ev.rd (en_slL (Ev.rd (ev_var (i := 4) rfl)) (eo_some (ev_ii (g := fun i j => i + j) (ev_var (i := 7) rfl) (ev_int (i := 1)))) (eo_some (ev_ii (g := fun i j => i + j) (ev_var (i := 7) rfl) (ev_int (i := 2))))).ev)
      (Ev.rd (en_slL (Ev.rd (ev_var (i := 5) rfl)) (eo_some (ev_var (i := 7) rfl)) (eo_some (ev_ii (g := fun i j => i + j) (ev_var (i := 7) rfl) (ev_int (i := 1))))).ev) (by rw [pair_lens]; omega)).ev.to (by rw [pair_cut])
  refine ⟨_, et_and (et_test (ev_ib (ev_lenL (evr_own rfl)) (ev_var rfl))) fun _ => et_test (ev_neNil (n := 0) (evp sl) (pyI _) shpI), fun hbt H S => ?_, fun hbf H S => ?_⟩
  · rw [List.length_map, dI_empty] at hbt
    simp only [Bool.and_eq_true, decide_eq_true_eq, Bool.not_eq_true', decide_eq_false_iff_not] at hbt
    have hcond : found.length < cap ∧ pairAt odd even kk ≠ [] := ⟨by omega, hbt.2⟩
    have em2 : mloop s odd even cap found kk = mloop (mstep s (pairAt odd even kk) cap found.length).1 odd even cap (found ++ (mstep s (pairAt odd even kk) cap found.length).2) (kk + 1) := by
      rw [mloop, dif_pos hcond]
    have hsl := mstep_len s (pairAt odd even kk) cap found.length
    have hgr := mstep_grow s (pairAt odd even kk) cap found.length
    have gn := hgr.named
    have gm := hgr.made
    have hml : (mstep s (pairAt odd even kk) cap found.length).2.length ≤ 2 := by
      unfold mstep
      split
      · exact hpl
      · rw [cmp_len]; split <;> omega
    refine ⟨Nxt K F0 h0 _ Gh.nil _ (cap - (found ++ (mstep s (pairAt odd even kk) cap found.length).2).length), fun σ3 H3 q => ⟨_, by rw [List.length_append]; omega, q⟩, ?_⟩
    -- pair = ..
    refine s_set S (evp sl) fun σ H S => ?_
    have S : State K F0 h0 _ (Iv.mg K C A s) (wEnv A ones others cap odd even (Sl.own (.lst (dI found))) (Sl.val (.int (kk : Nat))) (Sl.val (.lst (dI (pairAt odd even kk))))) Gh.nil σ H := S
    -- found += ..
    refine s_augL (Pe := fun es => es = dI (mstep s (pairAt odd even kk) cap found.length).2) (J := Iv.mg K C A (mstep s (pairAt odd even kk) cap found.length).1) S rfl
      (ex_if (EvT.im (et_test (ev_eqI (ev_lenL (Ev.rd (ev_var rfl))) ev_int))) (fun q => ?_) (fun q => ?_)) (fun es e => by rw [e, List.length_map, List.length_map]; omega) fun es H he S => ?_
    · have q : (pairAt odd even kk).length = 1 := by
        rw [List.length_map] at q
        have := of_decide_eq_true q.symm
        omega
      have es : mstep s (pairAt odd even kk) cap found.length = (s, pairAt odd even kk) := by unfold mstep; rw [if_pos q]
      rw [es]
      exact (Ev.im (ev_var rfl)).imp fun d e => ⟨_, e, rfl⟩
    · have q : ¬ (pairAt odd even kk).length = 1 := by
        rw [List.length_map] at q
        have := of_decide_eq_false q.symm
        omega
      have es : mstep s (pairAt odd even kk) cap found.length = cmp s ((pairAt odd even kk).getD 0 0) ((pairAt odd even kk).getD 1 0) (decide (found.length + 1 < cap)) := by unfold mstep; rw [if_neg q]
      obtain ⟨x, y, exy⟩ : ∃ x y, pairAt odd even kk = [x, y] := by
        match h : pairAt odd even kk, hcond.2, q, hpl with
        | [], a, _, _ => exact absurd rfl a
        | [x], _, b, _ => exact absurd rfl b
        | [x, y], _, _, _ => exact ⟨x, y, rfl⟩
        | _ :: _ :: _ :: _, _, _, c => simp at c
      rw [es]
      refine (ex_methJ (⟨A, s, (pairAt odd even kk).getD 0 0, (pairAt odd even kk).getD 1 0, decide (found.length + 1 < cap)⟩ : CA) (fun _ _ h => h) (fun _ _ h => h) (by decide +kernel) (ev_var rfl)
        (ea_cons (ev_ixL (Ev.rd (ev_var rfl)) ev_int (atI_D (i := 0) (x := (pairAt odd even kk).getD 0 0) (by rw [exy]; rfl))) (ea_cons (ev_ixL (Ev.rd (ev_var rfl)) ev_int (atI_D (i := 1) (x := (pairAt odd even kk).getD 1 0) (by rw [exy]; rfl))) (ea_cons (ev_ib (ev_ii (ev_lenL (evr_own rfl)) ev_int) (ev_var rfl)) ea_nil))) ⟨rfl, (by
          rw [List.length_map]
          show [D.raw (V.ref A.o), D.int ((pairAt odd even kk).getD 0 0), D.int ((pairAt odd even kk).getD 1 0), D.bl (decide (((found.length : Nat) : Int) + 1 < ((cap : Nat) : Int)))] = [D.raw (V.ref A.o), D.int ((pairAt odd even kk).getD 0 0), D.int ((pairAt odd even kk).getD 1 0), D.bl (decide (found.length + 1 < cap))]
          have : decide (((found.length : Nat) : Int) + 1 < ((cap : Nat) : Int)) = decide (found.length + 1 < cap) := decide_eq_decide.mpr (by omega)
          rw [this]), by show s.named.length ≤ 100000; omega, by show s.made.length ≤ 100000; omega⟩ (fun _ _ h => h) fun d e => ⟨_, e, rfl⟩)
    subst he
    have S : State K F0 h0 _ (Iv.mg K C A (mstep s (pairAt odd even kk) cap found.length).1) (wEnv A ones others cap odd even (Sl.own (.lst (dI found ++ dI (mstep s (pairAt odd even kk) cap found.length).2))) (Sl.val (.int (kk : Nat))) (Sl.val (.lst (dI (pairAt odd even kk))))) Gh.nil σ H := S
    rw [← List.map_append] at S
    -- at += 1
    refine s_augI S rfl ev_int fun σ H S => ?_
    refine ⟨_, _, ⟨(mstep s (pairAt odd even kk) cap found.length).1, found ++ (mstep s (pairAt odd even kk) cap found.length).2, kk + 1, _, rfl, rfl, rfl, em2 ▸ hfin, ?_, ?_, ?_⟩, S⟩
    all_goals
      rw [List.length_append]
      omega
  · rw [List.length_map, dI_empty] at hbf
    have hcond : ¬ (found.length < cap ∧ pairAt odd even kk ≠ []) := fun q => by
      have h1 : decide (((found.length : Nat) : Int) < ((cap : Nat) : Int)) = true := decide_eq_true (by omega)
      rw [h1, decide_eq_false q.2] at hbf
      cases hbf
    rw [mloop, dif_neg hcond] at hfin
    have S := s_freeze S (i := 6) rfl
    refine s_ret S (ev_var rfl) ?_
    have k := k (.lst (dI found)) (by rw [← hfin])
    rw [← hfin] at k
    exact k
end
end K21
namespace K21
open PySem PySem.Spec PyProof.Rows L2 Lw
abbrev s_net_knot : Stmt := top 2
theorem sc_net_knot : FnScope ["one", "other", "cap", "first", "merging", "outs"] ["one", "other", "cap", "first"] (defScope s_net_knot) := ⟨rfl, rfl, rfl, by decide +kernel, rfl, by decide +kernel, by decide +kernel⟩
def s0 (first : Int) : Ms := ⟨first, [], []⟩
def knot (ones others : List Int) (cap : Nat) (first : Int) : Ms × List Int := mrg 4 (s0 first) ones others cap
def knD (ones others : List Int) (r : Ms × List Int) : D := .tup [.tup [.tup (dI ones), .tup (dI others)], .tupZ (r.1.named.map nmD), .tupZ (r.1.made.map clD), .tupZ (dI r.2)]
def R_knot (ds : List D) (d : D) : Prop := ∃ (ones others : List Int) (cap : Nat) (first : Int), ds = [.tup (dI ones), .tup (dI others), .int (cap : Nat), .int first] ∧ ones.length ≤ 16 ∧ others.length ≤ 16 ∧ cap ≤ 61 ∧ d = knD ones others (knot ones others cap first)
abbrev rListOf (K : PySem.W.Frag) : List V → Hp → VK → Prop := fun xs H Q => ∃ p ys, xs = [.ref p] ∧ (SqL K H p ys ∨ SqT K H p ys) ∧ ∀ l, H l = none → Q (.ref l) (upd H l (.lst ys))
abbrev rTupleOf (K : PySem.W.Frag) : List V → Hp → VK → Prop := fun xs H Q => ∃ p ys, xs = [.ref p] ∧ ((SqL K H p ys ∧ ∀ l, H l = none → Q (.ref l) (upd H l (.tup ys))) ∨ (SqT K H p ys ∧ Q (.ref p) H))
section
variable {P : Program} {w : World} {K : PySem.W.Frag} {mg : Str → Option Value} {base : Heap}
theorem en_listT {env : List Sl} {ta : TE} {ds : List D} (ha : Ev K ta env (.tup ds)) : EvN K (tCB (rListOf K) (tCons ta tNil)) env (.lst ds) := fun H0 F h H σ ok s Q k =>
  ha H0 F h H σ ok s _ fun v G H' n r => by
    obtain ⟨a, xs, rfl, hs, rr⟩ := r.tup_of
    exact ⟨a, xs, rfl, .inr (Evl.ex_t n.ok.ef hs), fun p hp => k p G _ (n.trans (Nx.raw n.ok hp)) (n.was hp) (lc_new n.ok (s.nx n) hp rr)⟩
theorem ev_tupleT {env : List Sl} {ta : TE} {ds : List D} (ha : Ev K ta env (.tup ds)) : Ev K (tCB (rTupleOf K) (tCons ta tNil)) env (.tup ds) := fun H0 F h H σ ok s Q k =>
  ha H0 F h H σ ok s _ fun v G H' n r => by
    obtain ⟨a, xs, rfl, hs, rr⟩ := r.tup_of
    exact ⟨a, xs, rfl, .inr ⟨Evl.ex_t n.ok.ef hs, k _ G H' n (.tup hs rr)⟩⟩
theorem w_knot {f C : Addr} {fd : FuncData} (F : Fun K "net_knot" "net_knot" s_net_knot f fd) (T : Txt K mg C) (b_list : mg "list" = none) (b_tuple : mg "tuple" = none) (M_Merging : Mak P w K mg base 1 "Merging" C (initSp C)) (M_merged : Met P w K mg base 7 C "merged" (mrgSp K C 4)) :
    FnOk P w K mg base L2.CX0 8 f fd ["one", "other", "cap", "first"] (pSp K 4 R_knot) := by
  refine ok_pure F sc_net_knot fun cdv B outer s H E hr => ⟨_, (pss_cons (ps_set (i := 4) sc_net_knot.nd rfl (Or.inl rfl) (pe_mk M_Merging hr (by omega) (by rfl) (pa_cons (pv 3) pa_nil)))
  (pss_cons (ps_set (i := 5) sc_net_knot.nd rfl (Or.inl rfl) (pe_mt M_merged hr (by omega) (pv 4) (pa_cons (pe_callTy call_list_of (by rfl) b_list (by decide +kernel) (pa_cons (pv 0) pa_nil)) (pa_cons (pe_callTy call_list_of (by rfl) b_list (by decide +kernel) (pa_cons (pv 1) pa_nil)) (pa_cons (pv 2) pa_nil)))))
  (pss_one (ps_ret (pe_tup (pa_cons (pe_tup (pa_cons (pe_callTy call_tuple_of (by rfl) b_tuple (by decide +kernel) (pa_cons (pv 0) pa_nil)) (pa_cons (pe_callTy call_tuple_of (by rfl) b_tuple (by decide +kernel) (pa_cons (pv 1) pa_nil)) pa_nil))) (pa_cons (pe_tupleZ (by rfl) b_tuple (pe_fld (pv 4) rfl)) (pa_cons (pe_tupleZ (by rfl) b_tuple (pe_fld (pv 4) rfl)) (pa_cons (pe_tupleZ (by rfl) b_tuple (pv 5)) pa_nil))))))))), fun F0 h0 σ ds d Q hR hn S k => ?_⟩
  obtain ⟨ones, others, cap, first, rfl, l1, l2, hc, rfl⟩ := hR
  have hsz := sizeLine_eq
  have hz : ∀ n, n ≤ 4 → n ≤ sizeLine := fun n h => by omega
  refine s_make (ns := flds) (fs := (s0 first).fs) S (ea_cons (ev_var rfl) ea_nil) (fun G vs H1 x dx Q r ok hx hdx hne kk => ?_) fun o dx σ H S => ?_
  · cases r with
    | cons r rn =>
      cases rn
      rw [r.int_eq]
      refine ⟨x, dx, first, rfl, upd_same, fun ln lm H' e1 e2 e3 a1 a2 a3 a4 => ?_⟩
      have x1 : ln ≠ x := fun z => by rw [z, upd_same] at e1; cases e1
      have x2 : lm ≠ x := fun z => by rw [z, upd_same] at e2; cases e2
      rw [upd_ne x1] at e1
      rw [upd_ne x2] at e2
      have y1 : ln ≠ dx := fun z => by rw [z, upd_same] at e1; cases e1
      have y2 : lm ≠ dx := fun z => by rw [z, upd_same] at e2; cases e2
      rw [upd_ne y1] at e1
      rw [upd_ne y2] at e2
      have a5 : H' dx = some (.own x) := by rw [a4 dx hne y1.symm y2.symm, upd_ne hne, upd_same]
      have a6 : ∀ b o, H1 b = some o → H' b = some o := fun b o e => by
        have n1 : b ≠ x := fun z => by rw [z, hx] at e; cases e
        have n2 : b ≠ dx := fun z => by rw [z, hdx] at e; cases e
        have n3 : b ≠ ln := fun z => by rw [z, e1] at e; cases e
        have n4 : b ≠ lm := fun z => by rw [z, e2] at e; cases e
        rw [a4 b n1 n3 n4, upd_ne n1, upd_ne n2]
        exact e
      let hn : Hp := upd (upd (upd (upd h0 dx (.own x)) ln (.lst [])) lm (.lst [])) x (.ins C dx (flds.zip [.int first, .ref ln, .ref lm]))
      have hcase : ∀ b o, hn b = some o → H' b = some o ∧ (h0 b = some o ∨ H1 b = none) := fun b o e => by
        by_cases b1 : b = x
        · subst b1
          have e : upd _ b _ b = some o := e
          rw [upd_same] at e
          rw [← e]
          exact ⟨a1, .inr hx⟩
        · have e : upd _ x _ b = some o := e
          rw [upd_ne b1] at e
          by_cases b2 : b = lm
          · subst b2
            rw [upd_same] at e
            rw [← e]
            exact ⟨a3, .inr e2⟩
          · rw [upd_ne b2] at e
            by_cases b3 : b = ln
            · subst b3
              rw [upd_same] at e
              rw [← e]
              exact ⟨a2, .inr e1⟩
            · rw [upd_ne b3] at e
              by_cases b4 : b = dx
              · subst b4
                rw [upd_same] at e
                rw [← e]
                exact ⟨a5, .inr hdx⟩
              · rw [upd_ne b4] at e
                exact ⟨a6 b o (ok.eh b o e), .inl e⟩
      have f1 : hn x = some (.ins C dx (flds.zip [.int first, .ref ln, .ref lm])) := upd_same
      have f2 : hn ln = some (.lst []) := by
        show upd _ x _ ln = _
        rw [upd_ne x1, upd_ne e3.symm, upd_same]
      have f3 : hn lm = some (.lst []) := by
        show upd _ x _ lm = _
        rw [upd_ne x2, upd_same]
      have hold : Ex h0 hn := fun b o e => by
        have q := ok.eh b o e
        have n1 : b ≠ x := fun z => by rw [z, hx] at q; cases q
        have n2 : b ≠ dx := fun z => by rw [z, hdx] at q; cases q
        have n3 : b ≠ ln := fun z => by rw [z, e1] at q; cases q
        have n4 : b ≠ lm := fun z => by rw [z, e2] at q; cases q
        show upd _ x _ b = _
        rw [upd_ne n1, upd_ne n4, upd_ne n3, upd_ne n2]
        exact e
      have z0 : ∀ b, H1 b = none → h0 b = none ∧ G b = none := fun b e => ⟨ok.fh e, ok.ff e⟩
      have bn : ∀ a, a ≠ x → H1 a = none → (⟨h0, x, dx⟩ : At).base a = none := fun a n e => by
        show upd h0 x _ a = none
        rw [upd_ne n]
        exact (z0 a e).1
      refine kk hn H' ⟨⟨fun b u e => a6 b u (ok.ef b u e), fun b u e => (hcase b u e).1, fun b u e => ?_⟩, Evl.Ex.refl _, fun b u e _ => a6 b u e, fun b u e => ⟨u, a6 b u e⟩, fun b u e n => (by rw [e] at n; cases n), fun b u e n => ?_⟩ ⟨[.int first, .ref ln, .ref lm], rfl, f1, ⟨rfl, fun b u e => ?_, fun i d e => ?_, fun i d e => ?_, fun i j d e a q1 q2 q3 q4 => ?_⟩, hold, (z0 x hx).1⟩
      · rcases (hcase b u e).2 with q | q
        · exact ok.dj b u q
        · exact (z0 b q).2
      · rcases (hcase b u e).2 with q | q
        · rw [n] at q; cases q
        · exact q
      · by_cases hb : b = x
        · subst hb; exact ⟨_, f1⟩
        · have e : upd h0 x _ b = some u := e
          rw [upd_ne hb] at e
          exact ⟨u, hold b u e⟩
      · match i, e with
        | 0, e => cases e; exact ⟨_, rfl, .int first⟩
        | 1, e => cases e
        | 2, e => cases e
        | i + 3, e => simp [Ms.fs] at e
      · match i, e with
        | 0, e => cases e
        | 1, e => cases e; exact ⟨ln, rfl, (z0 ln e1).2, rfl, bn ln x1 e1, [], f2, .nil⟩
        | 2, e => cases e; exact ⟨lm, rfl, (z0 lm e2).2, rfl, bn lm x2 e2, [], f3, .nil⟩
        | i + 3, e => simp [Ms.fs] at e
      · match i, j, q1, q2, q3, q4 with
        | 1, 1, _, _, _, _ => rfl
        | 2, 2, _, _, _, _ => rfl
        | 1, 2, _, _, q3, q4 => cases q3; cases q4; exact absurd rfl e3
        | 2, 1, _, _, q3, q4 => cases q3; cases q4; exact absurd rfl e3
        | 0, _, q1, _, _, _ => cases q1
        | 1, 0, _, q2, _, _ => cases q2
        | 2, 0, _, q2, _, _ => cases q2
        | i + 3, _, q1, _, _, _ => simp [Ms.fs] at q1
        | 1, j + 3, _, q2, _, _ => simp [Ms.fs] at q2
        | 2, j + 3, _, q2, _, _ => simp [Ms.fs] at q2
  -- outs = merging.merged(list(one), list(other), cap)
  refine s_setX S (ex_meth (⟨⟨h0, o, dx⟩, s0 first, ones, others, cap⟩ : MA) (fun _ _ h => h) (fun _ _ h => h) (by decide +kernel) (ev_var rfl)
    (ea_cons (en_listT (ev_var rfl)).ev (ea_cons (en_listT (ev_var rfl)).ev (ea_cons (ev_var rfl) ea_nil))) ⟨rfl, rfl, l1, l2, by omega, hc, by show 0 + 126 * 2 ^ 4 ≤ 50000; decide, by show 0 + 189 * 2 ^ 4 ≤ 50000; decide⟩) fun d σ H hd S => ?_
  subst hd
  have kk : ∀ d, d = knD ones others (knot ones others cap first) → Done K F0 h0 _ (Iv.mg K C ⟨h0, o, dx⟩ (knot ones others cap first).1) d _ := fun d e => by
    subst e
    exact Done.drop k
  refine s_retX S (ex_tup (exa_cons (Ev.im (ev_tup (ea_cons (ev_tupleT (ev_var rfl)) (ea_cons (ev_tupleT (ev_var rfl)) ea_nil)) (hz _ (by simp)))) (exa_cons (ex_ftup (ef_fld T.cl T.n2 flds_nd (i := 1) rfl rfl (ev_var rfl))) (exa_cons (ex_ftup (ef_fld T.cl T.n3 flds_nd (i := 2) rfl rfl (ev_var rfl))) (exa_cons (Ev.im (ev_tupleZ (Ev.rd (ev_var rfl)))) exa_nil)))) ?_) fun d hd => kk d ?_
  · rintro ds ⟨_, _, rfl, ⟨_, _, rfl, ⟨_, _, rfl, ⟨_, _, rfl, rfl, rfl⟩, rfl⟩, rfl⟩, rfl⟩
    exact hz _ (by simp)
  · obtain ⟨ds, ⟨_, _, rfl, ⟨_, _, rfl, ⟨_, _, rfl, ⟨_, _, rfl, rfl, rfl⟩, rfl⟩, rfl⟩, rfl⟩, rfl⟩ := hd
    rfl
end
end K21
namespace K21
open PySem PySem.Spec PyProof.Rows L2 Lw
abbrev s__law_begun : Stmt := top 4
theorem sc__law_begun : FnScope ["_law_script"] ["_law_script"] (defScope s__law_begun) := ⟨rfl, rfl, rfl, by decide +kernel, rfl, by decide +kernel, by decide +kernel⟩
abbrev s__law_draw : Stmt := top 5
theorem sc__law_draw : FnScope ["_law_tape", "_law_many", "_law_spot", "_law_most", "_law_cell", "_law_found"] ["_law_tape", "_law_many"] (defScope s__law_draw) := ⟨rfl, rfl, rfl, by decide +kernel, rfl, by decide +kernel, by decide +kernel⟩
abbrev s__law_pick : Stmt := top 6
theorem sc__law_pick : FnScope ["_law_tape", "_law_some"] ["_law_tape", "_law_some"] (defScope s__law_pick) := ⟨rfl, rfl, rfl, by decide +kernel, rfl, by decide +kernel, by decide +kernel⟩
section
variable {P : Program} {w : World} {K : PySem.W.Frag} {mg : Str → Option Value} {base : Heap}
theorem w_draw {f : Addr} {fd : FuncData} (F : Fun K "_law_draw" "_law_draw" s__law_draw f fd) (b_len : mg "len" = none) : FnOk P w K mg base L2.CX0 1 f fd ["_law_tape", "_law_many"] dSp := by
  refine F.ok sc__law_draw (fun vs H Q E h => ?_) (fun cdv A outer s H vs Q E hr h => ⟨_, (pss_cons (ps_if (pt_cmpR op_lt (pe_dget (hu_of hr) (pv 0) pe_str (fun _ _ => rfl)) (pv 1) (nomark _))
  (pss_cons (ps_par (i := 2) (j := 3) (by rfl) sc__law_draw.nd rfl rfl (by decide) rfl rfl (pa_cons (pe_dget (hu_of hr) (pv 0) pe_str (fun _ _ => rfl)) (pa_cons (pe_callB call_len_seq (by rfl) b_len (by decide +kernel) (pa_cons (pe_dget (hu_of hr) (pv 0) pe_str (fun _ _ => rfl)) pa_nil)) pa_nil)) (by rfl))
  (pss_cons (ps_asg (pe_tup (pa_cons (pe_ix ix_list (pe_dget (hu_of hr) (pv 0) pe_str (fun _ _ => rfl)) (pe_op op_mod (pv 2) (pv 3)) (fun _ _ => rfl)) (pa_cons (pe_op op_add (pv 2) pe_int) pa_nil))) (pg_tup rfl (pgs_cons (pg_name (i := 4) sc__law_draw.nd rfl (Or.inl rfl)) (pgs_cons (pg_sub (pv 0) pe_str (set_dict (hu_of hr))) pgs_nil))))
  (pss_cons (ps_dput (hu_of hr) (pv 0) pe_str (pe_op op_mod (pe_op op_pow (pe_op op_add (pe_op op_add (pe_op op_mod (pv 4) pe_int) (pe_op op_mul pe_int (pv 2))) pe_int) pe_int) (pe_op op_add (pe_op op_pow pe_int pe_int) pe_int)) (by rfl))
  (pss_one (ps_if (PW.pt (pw_and (pt_cmpR op_ge (pv 4) (pe_op op_pow pe_int pe_int) (nomark _)) (pw_and1 (pt_cmpR op_lt (pv 2) (pv 3) (nomark _)))))
  (pss_one (ps_dput (hu_of hr) (pv 0) pe_str (pe_op op_sub (pv 4) (pe_op op_pow pe_int pe_int)) (by rfl)))
  pss_nil)))))
  pss_nil)
  (pss_cons (ps_asg (pe_tup (pa_cons (pe_op op_mod (pe_dget (hu_of hr) (pv 0) pe_str (fun _ _ => rfl)) (pv 1)) (pa_cons (pe_op op_fdivW (pe_dget (hu_of hr) (pv 0) pe_str (fun _ _ => rfl)) (pv 1)) pa_nil))) (pg_tup rfl (pgs_cons (pg_name (i := 5) sc__law_draw.nd rfl (Or.inl rfl)) (pgs_cons (pg_sub (pv 0) pe_str (set_dict (hu_of hr))) pgs_nil))))
  (pss_one (ps_ret (pv 5))))), ?_⟩)
  · obtain ⟨F, hh, t, m, many, ok, _, rfl, _⟩ := h
    rfl
  · obtain ⟨F, hh, t, m, many, ok, ⟨c, cells, spot, left, rfl, hc, l0, l63, s0, sm, hl0⟩, rfl, m0, m1, hm, k⟩ := h
    have hFt : F t = none := ok.dj t _ one_same
    have hct : c ≠ t := fun z => by rw [z, hFt] at hc; cases hc
    have hHt : H t = some (.dK (tpD c spot left)) := ok.eh t _ one_same
    have hHc : H c = some (.lst (cells.map V.int)) := ok.ef c _ hc
    -- the end, from any left behind
    have fin : ∀ (H' : Hp) (sp lf : Int) (a2 a3 a4 a5 : Option V), H' t = some (.dK (tpD c sp lf)) → (∀ b u, b ≠ t → H b = some u → H' b = some u) → 0 ≤ sp → sp ≤ (m : Int) + 1 → 0 ≤ lf →
        (tSeq (tAsg (tTup (tCons (tOp (rI (fun _ j => 0 < j) fun i j => .int (i % j)) (tDGet (tVar 0) (tC (.str "left"))) (tVar 1)) (tCons (tOp (rI CDivW fun i j => .int (i / j)) (tDGet (tVar 0) (tC (.str "left"))) (tVar 1)) tNil))) (gTup K 2 (gCons (gName 5) (gCons (gSub (tVar 0) (tC (.str "left")) (fun o i v H Q => ∃ a H', o = .ref a ∧ DPut H a i v H' ∧ Q H')) gNil)))) (tRet (tVar 5))) { nx := fun _ H' => Q .non H', rt := Q } [some (V.ref t), some (V.int many), a2, a3, a4, a5] H' := by
      intro H' sp lf a2 a3 a4 a5 ht hk h0 h1 hl
      refine ⟨_, rfl, t, _, rfl, dg_left ht, _, rfl, lf, many, rfl, rfl, m0, _, rfl, t, _, rfl, dg_left ht, _, rfl, lf, many, rfl, rfl, divW_ok m0 m1, by show 2 ≤ sizeLine; decide, fun p hp => ?_⟩
      have npt : p ≠ t := fun z => by rw [z, ht] at hp; cases hp
      have ht2 : (upd H' p (.tup [.int (lf % many), .int (lf / many)])) t = some (.dK (tpD c sp lf)) := by rw [upd_ne npt.symm]; exact ht
      refine ⟨p, [.int (lf % many), .int (lf / many)], rfl, .inl (.inl upd_same), rfl, .int (lf % many), [.int (lf / many)], rfl, .int (lf / many), [], rfl, _, rfl, t, _, rfl, dp_left ht2, rfl, _, rfl, ?_⟩
      refine k (lf % many) (one t (.dK (tpD c sp (lf / many)))) _ (Int.emod_nonneg _ (by omega)) (Int.emod_lt_of_pos _ m0) (Nx.turn ok rfl rfl (fun b u hb e => ?_) upd_same) ⟨c, cells, sp, lf / many, rfl, hc, l0, l63, h0, by omega, Int.ediv_nonneg hl (by omega)⟩
      rw [upd_ne hb, upd_ne (fun z => ?_)]
      · exact hk b u hb e
      · rw [z] at e
        have := hk p u npt e
        rw [hp] at this; cases this
    -- if tape["left"] < many
    refine ⟨_, rfl, t, _, rfl, dg_left hHt, _, rfl, left, many, rfl, rfl, _, rfl, ?_⟩
    refine ite2 (fun _ => ?_) (fun _ => ?_)
    · refine ⟨_, rfl, t, _, rfl, dg_spot hHt, _, rfl, t, _, rfl, dg_cells hHt, c, _, rfl, .inl (.inl (.inl hHc)), _, _, rfl, ?_⟩
      rw [List.length_map]
      have e0 : 0 ≤ spot % (cells.length : Int) := Int.emod_nonneg _ (by omega)
      have e1 : spot % (cells.length : Int) < cells.length := Int.emod_lt_of_pos _ (by omega)
      obtain ⟨j, ej⟩ := Int.eq_ofNat_of_zero_le e0
      have hj : j < cells.length := by omega
      obtain ⟨cell, hcell⟩ : ∃ x, cells[j]? = some x := ⟨_, List.getElem?_eq_getElem hj⟩
      have hat : L2.atI (cells.map V.int) (spot % (cells.length : Int)) = some (.int cell) := by
        rw [ej]
        refine atI_nat ?_
        rw [List.getElem?_map, hcell]; rfl
      -- cell, tape["spot"] = tape["cells"][spot % most], spot + 1
      refine ⟨_, rfl, t, _, rfl, dg_cells hHt, _, rfl, _, rfl, spot, _, rfl, rfl, (by show (0 : Int) < (cells.length : Int); omega), c, _, _, .int cell, rfl, rfl, .inl (.inl hHc), hat, _, rfl, spot, 1, rfl, rfl, by show 2 ≤ sizeLine; decide, fun p hp => ?_⟩
      have npt : p ≠ t := fun z => by rw [z, hHt] at hp; cases hp
      have ht2 : (upd H p (.tup [.int cell, .int (spot + 1)])) t = some (.dK (tpD c spot left)) := by rw [upd_ne npt.symm]; exact hHt
      refine ⟨p, [.int cell, .int (spot + 1)], rfl, .inl (.inl upd_same), rfl, .int cell, [.int (spot + 1)], rfl, .int (spot + 1), [], rfl, _, rfl, t, _, rfl, dp_spot ht2, rfl, ?_⟩
      generalize hH2 : upd (upd H p (.tup [.int cell, .int (spot + 1)])) t (.dK (tpD c (spot + 1) left)) = H2
      have h2t : H2 t = some (.dK (tpD c (spot + 1) left)) := by rw [← hH2]; exact upd_same
      have h2k : ∀ b u, b ≠ t → H b = some u → H2 b = some u := fun b u hb e => by
        rw [← hH2, upd_ne hb, upd_ne (fun z => by rw [z, hp] at e; cases e)]; exact e
      -- tape["left"] = (cell % .. + .. * spot + ..) ** 17 % ..
      have b0 : 0 ≤ cell % 2147483647 := Int.emod_nonneg _ (by decide)
      have b1 : cell % 2147483647 < 2147483647 := Int.emod_lt_of_pos _ (by decide)
      have hbase : (cell % 2147483647 + 69621 * spot + 48271).natAbs < 2 ^ 64 := by
        have hm' : m < 1000000000 := hm
        omega
      refine ⟨_, rfl, cell, 2147483647, rfl, rfl, (by show (0 : Int) < 2147483647; decide), _, rfl, 69621, spot, rfl, rfl, .inl ⟨by decide, by decide⟩, _, _, rfl, rfl, _, _, rfl, rfl, _, 17, rfl, rfl, ⟨by decide, by decide, hbase⟩, 10, 50, rfl, rfl, ⟨by decide, by decide, by decide⟩, _, _, rfl, rfl, _, _, rfl, rfl, (by show (0 : Int) < 10 ^ (50 : Int).toNat + 151; decide +kernel), _, rfl, t, _, rfl, dp_left h2t, ?_⟩
      generalize hlf : (cell % 2147483647 + 69621 * spot + 48271) ^ (17 : Int).toNat % (10 ^ (50 : Int).toNat + 151) = lf
      have hlf0 : 0 ≤ lf := by rw [← hlf]; exact Int.emod_nonneg _ (by decide +kernel)
      generalize hH3 : upd H2 t (.dK (tpD c (spot + 1) lf)) = H3
      have h3t : H3 t = some (.dK (tpD c (spot + 1) lf)) := by rw [← hH3]; exact upd_same
      have h3k : ∀ b u, b ≠ t → H b = some u → H3 b = some u := fun b u hb e => by rw [← hH3, upd_ne hb]; exact h2k b u hb e
      -- if cell >= 10 ** 18 and spot < most
      refine ⟨_, rfl, 10, 18, rfl, rfl, ⟨by decide, by decide, by decide⟩, _, _, rfl, rfl, _, rfl, ?_⟩
      refine ite2 (fun hc1 => ?_) (fun _ => ?_)
      · have hc1 := of_decide_eq_true hc1
        refine ⟨_, rfl, _, rfl, _, _, rfl, rfl, _, rfl, ?_⟩
        refine ite2 (fun _ => ?_) (fun _ => ?_)
        · refine ⟨_, rfl, 10, 18, rfl, rfl, ⟨by decide, by decide, by decide⟩, _, _, rfl, rfl, _, rfl, t, _, rfl, dp_left h3t, ?_⟩
          exact fin _ (spot + 1) _ _ _ _ _ upd_same (fun b u hb e => by rw [upd_ne hb]; exact h3k b u hb e) (by omega) (by omega) (by
            have : (10 : Int) ^ (18 : Int).toNat ≤ cell := hc1
            omega)
        · exact fin H3 (spot + 1) lf _ _ _ _ h3t h3k (by omega) (by omega) hlf0
      · refine iteF ?_
        exact fin H3 (spot + 1) lf _ _ _ _ h3t h3k (by omega) (by omega) hlf0
    · exact fin H spot left none none none none hHt (fun b u _ e => e) s0 (by omega) hl0
theorem w_pick {f : Addr} {fd : FuncData} (F : Fun K "_law_pick" "_law_pick" s__law_pick f fd) (b_len : mg "len" = none) (C__law_draw : Cal P w K mg base 1 "_law_draw" dSp) : FnOk P w K mg base L2.CX0 2 f fd ["_law_tape", "_law_some"] (pickSp K) := by
  refine ok_imp F sc__law_pick fun cdv A outer s H E hr => ⟨_, (pss_one (ps_ret (pe_ix ix_list (pv 1) (pe_cal C__law_draw hr (by omega) (by rfl) (pa_cons (pv 0) (pa_cons (pe_callB call_len_seq (by rfl) b_len (by decide +kernel) (pa_cons (pv 1) pa_nil)) pa_nil))) (fun _ _ => rfl)))), fun F0 h0 σ a ds Q hR hn S k => ?_⟩
  obtain ⟨rfl, hne, hl, hm⟩ := hR
  have hl0 : 0 < a.xs.length := by
    cases e : a.xs with
    | nil => exact absurd e hne
    | cons _ _ => simp
  have hsz := sizeLine_eq
  -- the item drawn
  obtain ⟨F1, h1, n0, hI, s, hg⟩ := S
  obtain ⟨v1, e1, r1⟩ := s.val 1 _ rfl
  refine ⟨v1, e1, ex_draw (K := K) (ea_cons (ev_var rfl) (ea_cons (ev_lenL (Ev.rd (ev_var rfl))) ea_nil)) (by omega) (by omega) hm H F1 h1 H σ n0.ok hI s _ fun v d G h' H' n j p r => ?_⟩
  obtain ⟨i, rfl, i0, i1⟩ := p
  obtain ⟨b, xs, rfl, hs, rr⟩ := (r1.mono n.ex).lst_of
  obtain ⟨ii, rfl⟩ := Int.eq_ofNat_of_zero_le i0
  have hii : ii < a.xs.length := by omega
  have hd : a.xs[ii]? = some a.xs[ii] := List.getElem?_eq_getElem hii
  obtain ⟨u, hu, ru⟩ := rr.get hd
  exact ⟨b, xs, _, u, rfl, r.int_eq, .inl (.inl (n.ok.ef _ _ hs)), atI_nat hu, k _ (List.getElem_mem hii) u G h' H' (n0.trans n) j ru⟩
theorem w_begun {f : Addr} {fd : FuncData} (F : Fun K "_law_begun" "_law_begun" s__law_begun f fd) : FnOk P w K mg base L2.CX0 1 f fd ["_law_script"] (bSp K) := by
  refine F.ok sc__law_begun (fun vs H Q E h => ?_) (fun cdv A outer s H vs Q E hr h => ⟨_, (pss_one (ps_ret (pe_disp (pps_cons pe_str (pe_orT (pe_slice sl_list (pv 0) po_none (po_some pe_int)) (pe_one (pe_lst (pa_cons pe_int pa_nil)))) (pps_cons pe_str pe_int (pps_cons pe_str pe_int pps_nil))) (by rfl) (by rfl) (fun z => by cases z) (by decide)))), ?_⟩)
  · obtain ⟨a, ns, rfl, _⟩ := h
    rfl
  · obtain ⟨a, ns, rfl, hs, hl, k⟩ := h
    intro p hp
    have eqs : cutV (ns.map V.int) none (some 63) = ns.map V.int := by
      unfold cutV
      rw [HT.sIx_none]
      have : HT.sIx (ns.map V.int).length (ns.map V.int).length (some 63) = (ns.map V.int).length := by
        have := HT.sIx_nat (ns.map V.int).length (ns.map V.int).length 63
        rw [List.length_map] at this ⊢
        rw [show ((63 : Nat) : Int) = 63 from rfl] at this
        rw [this]; omega
      rw [this]
      simp only [Nat.sub_zero, List.drop_zero]
      exact List.take_length
    have hs1 : SqL K (upd H p (.dK [])) a (ns.map V.int) := Evl.ex_l (Evl.Ex.new hp) hs
    refine ⟨.ref a, rfl, 63, rfl, a, _, rfl, hs1, fun q hq => ?_⟩
    rw [eqs]
    have hqp : q ≠ p := fun z => by rw [z, upd_same] at hq; cases hq
    have hq0 : H q = none := by rw [upd_ne hqp] at hq; exact hq
    refine ⟨!(ns.map V.int).isEmpty, .inl ⟨_, .inl (.inl upd_same), rfl⟩, ?_⟩
    cases hns : ns with
    | nil =>
      refine iteF ?_
      refine ⟨by show 1 ≤ sizeLine; decide, fun q2 hq2 => ?_⟩
      have n1 : q2 ≠ q := fun z => by rw [z, upd_same] at hq2; cases hq2
      rw [upd_ne n1] at hq2
      have n2 : q2 ≠ p := fun z => by rw [z, upd_same] at hq2; cases hq2
      rw [upd_ne n2] at hq2
      refine ⟨by rw [upd_ne n2.symm, upd_ne hqp.symm, upd_same], tpD q2 0 0, rfl, by show 3 ≤ 15; decide, ?_⟩
      rw [tp_merge]
      refine k p q2 [0] _ hp hq2 n2 (fun b u e => ?_) upd_same (by rw [upd_ne n2, upd_same]; rfl) (by decide) (by decide)
      rw [upd_ne (ne_of_none e hp), upd_ne (ne_of_none e hq2), upd_ne (ne_of_none e hq0), upd_ne (ne_of_none e hp)]
      exact e
    | cons x xs =>
      rw [hns] at hl
      refine iteT ?_
      refine ⟨by rw [upd_ne hqp.symm, upd_same], tpD q 0 0, rfl, by show 3 ≤ 15; decide, ?_⟩
      rw [tp_merge]
      refine k p q (x :: xs) _ hp hq0 hqp (fun b u e => ?_) upd_same (by rw [upd_ne hqp, upd_same]) (by simp) hl
      rw [upd_ne (ne_of_none e hp), upd_ne (ne_of_none e hq0), upd_ne (ne_of_none e hp)]
      exact e
end
end K21
namespace K21
open PySem PySem.Spec PyProof.Rows L2 Lw
abbrev s__law_marks : Stmt := top 7
theorem sc__law_marks : FnScope ["_law_tape", "_law_many", "_law_by", "_law_far", "_law_first", "_law_names", "_law_signs", "_law_k", "_law_name"] ["_law_tape", "_law_many"] (defScope s__law_marks) := ⟨rfl, rfl, rfl, by decide +kernel, rfl, by decide +kernel, by decide +kernel⟩
abbrev s__law_is_so : Stmt := top 8
theorem sc__law_is_so : FnScope ["_law_on", "_law_mark"] ["_law_on", "_law_mark"] (defScope s__law_is_so) := ⟨rfl, rfl, rfl, by decide +kernel, rfl, by decide +kernel, by decide +kernel⟩
/-! ### marks of unlike names -/
def MkOk (ms : List Int) : Prop := (∀ x ∈ ms, x ≠ 0 ∧ (x.natAbs : Int) < 1000000001) ∧ (ms.map Int.natAbs).Nodup
theorem away61 {b i j : Nat} (h1 : 1 ≤ b) (h2 : b ≤ 60) (hij : i < j) (hj : j < 61) : b * i % 61 ≠ b * j % 61 := fun e => by
  have hc : Nat.Coprime 61 b := by
    have : ∀ b : Fin 61, 1 ≤ b.val → Nat.gcd 61 b.val = 1 := by decide
    exact this ⟨b, by omega⟩ h1
  have hd : 61 ∣ b * (j - i) := by
    rw [Nat.mul_sub]
    have := Nat.sub_mod_eq_zero_of_mod_eq e.symm
    exact Nat.dvd_of_mod_eq_zero this
  have := hc.dvd_of_dvd_mul_left hd
  have := Nat.le_of_dvd (by omega) this
  omega
def nameAt (first far b : Int) (k : Nat) : Int := first + far * (b * (0 + (k : Int)) % 61)
theorem name_bound {first far b : Int} (k : Nat) (hf : 1 ≤ far) (h1 : 1 ≤ first) (h2 : first + 60 * far ≤ 1000000000) : 1 ≤ nameAt first far b k ∧ nameAt first far b k ≤ 1000000000 := by
  unfold nameAt
  have e0 : 0 ≤ b * (0 + (k : Int)) % 61 := Int.emod_nonneg _ (by decide)
  have e1 : b * (0 + (k : Int)) % 61 < 61 := Int.emod_lt_of_pos _ (by decide)
  generalize b * (0 + (k : Int)) % 61 = z at *
  have h3 : 0 ≤ far * z := Int.mul_nonneg (by omega) e0
  have h4 : far * z ≤ far * 60 := Int.mul_le_mul_of_nonneg_left (by omega) (by omega)
  omega
theorem name_unlike {first far b : Int} {i j : Nat} (hf : 1 ≤ far) (h1 : 1 ≤ b) (h2 : b ≤ 60) (hij : i < j) (hj : j < 61) : nameAt first far b i ≠ nameAt first far b j := fun e => by
  unfold nameAt at e
  obtain ⟨bn, rfl⟩ := Int.eq_ofNat_of_zero_le (show 0 ≤ b by omega)
  have e2 : far * ((bn : Int) * (0 + (i : Int)) % 61) = far * ((bn : Int) * (0 + (j : Int)) % 61) := by omega
  have e3 := Int.eq_of_mul_eq_mul_left (show far ≠ 0 by omega) e2
  refine away61 (b := bn) (by omega) (by omega) hij hj ?_
  have c1 : ((bn * i % 61 : Nat) : Int) = (bn : Int) * (0 + (i : Int)) % 61 := by rw [Int.zero_add]; simp
  have c2 : ((bn * j % 61 : Nat) : Int) = (bn : Int) * (0 + (j : Int)) % 61 := by rw [Int.zero_add]; simp
  omega
theorem marks_ok {first far b : Int} {n : Nat} {ms : List Int} (hf : 1 ≤ far) (h1 : 1 ≤ first) (h2 : first + 60 * far ≤ 1000000000) (b1 : 1 ≤ b) (b2 : b ≤ 60) (hn : n ≤ 61) (hl : ms.length = n)
    (h : ∀ (i : Nat) x, ms[i]? = some x → x = nameAt first far b i ∨ x = 0 - nameAt first far b i) : MkOk ms := by
  refine ⟨fun x hx => ?_, ?_⟩
  · obtain ⟨i, e⟩ := List.mem_iff_getElem?.mp hx
    have nb := name_bound (b := b) i hf h1 h2
    rcases h i x e with q | q <;> omega
  · unfold List.Nodup
    rw [List.pairwise_iff_getElem]
    intro i j hi hj hij e
    rw [List.length_map] at hi hj
    rw [List.getElem_map, List.getElem_map] at e
    have nu := name_unlike (first := first) (far := far) hf b1 b2 hij (by omega)
    have ni := name_bound (b := b) i hf h1 h2
    have nj := name_bound (b := b) j hf h1 h2
    have q1 := h i _ (List.getElem?_eq_getElem hi)
    have q2 := h j _ (List.getElem?_eq_getElem hj)
    omega
def intOf : D → Int
  | .int i => i
  | _ => 0
theorem ints_of {ds : List D} (h : ∀ d ∈ ds, ∃ i, d = .int i) : ds = dI (ds.map intOf) := by
  show ds = (ds.map intOf).map D.int
  rw [List.map_map]
  conv => lhs; rw [← List.map_id ds]
  apply List.map_congr_left
  intro d hd
  obtain ⟨i, rfl⟩ := h d hd
  rfl
structure TA where
  t : Addr
  m : Nat
  n : Nat
def marksSp (K : PySem.W.Frag) : Sp := iSp K 2 (fun a : TA => Iv.tape a.t a.m) (fun a => Iv.tape a.t (a.m + 5 + a.n)) (fun a ds => ds = [.raw (.ref a.t), .int (a.n : Nat)] ∧ a.n ≤ 60 ∧ a.m + 100 ≤ tapeEnd)
  (fun a d => ∃ ms : List Int, d = .lst (dI ms) ∧ ms.length = a.n ∧ MkOk ms)
def two (env : List Sl) (i j : Nat) : D → List Sl
  | .tup [a, b] => (env.set i (Sl.val a)).set j (Sl.val b)
  | _ => env
theorem tg_two {K : PySem.W.Frag} {env : List Sl} {i j : Nat} {a b : D} : Tg K (gTup K 2 (gCons (gName i) (gCons (gName j) gNil))) env (.tup [a, b]) (two env i j (.tup [a, b])) := tg_tup rfl (tgs_cons tg_name (tgs_cons tg_name tgs_nil))
def isoSp : Sp := fun vs H Q _ => ∃ (a : Addr) (ns : List Int) (m : Int), vs = [.ref a, .int m] ∧ H a = some (.dK (onV ns)) ∧ Q (.bl (tv (fun n => decide (n ∈ ns)) m)) H
section
variable {P : Program} {w : World} {K : PySem.W.Frag} {mg : Str → Option Value} {base : Heap}
theorem w_marks {f : Addr} {fd : FuncData} (F : Fun K "_law_marks" "_law_marks" s__law_marks f fd) (b_range : mg "range" = none) (C__law_draw : Cal P w K mg base 1 "_law_draw" dSp) (C__law_pick : Cal P w K mg base 2 "_law_pick" (pickSp K)) : FnOk P w K mg base L2.CX0 3 f fd ["_law_tape", "_law_many"] (marksSp K) := by
  refine ok_imp F sc__law_marks fun cdv B outer s H E hr => ⟨_, (pss_cons (ps_asg (pe_tup (pa_cons (pe_op op_add pe_int (pe_cal C__law_draw hr (by omega) (by rfl) (pa_cons (pv 0) (pa_cons pe_int pa_nil)))) (pa_cons (pe_cal C__law_pick hr (by omega) (by rfl) (pa_cons (pv 0) (pa_cons (pe_lst (pa_cons pe_int (pa_cons pe_int (pa_cons pe_int (pa_cons pe_int pa_nil))))) pa_nil))) pa_nil))) (pg_tup rfl (pgs_cons (pg_name (i := 2) sc__law_marks.nd rfl (Or.inr rfl)) (pgs_cons (pg_name (i := 3) sc__law_marks.nd rfl (Or.inr rfl)) pgs_nil))))
  (pss_cons (ps_set (i := 4) sc__law_marks.nd rfl (Or.inr rfl) (pe_cal C__law_pick hr (by omega) (by rfl) (pa_cons (pv 0) (pa_cons (pe_lst (pa_cons pe_int (pa_cons pe_int (pa_cons pe_int (pa_cons (pe_op op_add pe_int (pe_cal C__law_draw hr (by omega) (by rfl) (pa_cons (pv 0) (pa_cons pe_int pa_nil)))) (pa_cons (pe_op op_sub (pe_op op_pow pe_int pe_int) (pe_op op_mul pe_int (pv 3))) pa_nil)))))) pa_nil))))
  (pss_cons (ps_asg (pe_tup (pa_cons (pe_lc (own := [("_law_k", 7)]) (g := gName 7) (by rfl) sc__law_marks.nd (pi_range1 (by rfl) b_range (pa_cons (pv 1) pa_nil)) (blkOk_by (own := [("_law_k", 7)]) (N := ["_law_tape", "_law_many", "_law_by", "_law_far", "_law_first", "_law_names", "_law_signs", "_law_k", "_law_name"]) (by kernel_rfl)) (fun _ _ _ _ _ => (pg_name (i := 7) sc__law_marks.nd rfl (Or.inl rfl))) (fun _ _ _ _ _ => pts_nil) (fun _ _ _ _ _ => (pe_op op_add (pv 4) (pe_op op_mul (pv 3) (pe_op op_mod (pe_op op_mul (pv 2) (pv 7)) pe_int))))) (pa_cons (pe_cal C__law_pick hr (by omega) (by rfl) (pa_cons (pv 0) (pa_cons (pe_lst (pa_cons pe_int (pa_cons pe_int (pa_cons pe_int (pa_cons pe_int pa_nil))))) pa_nil))) pa_nil))) (pg_tup rfl (pgs_cons (pg_name (i := 5) sc__law_marks.nd rfl (Or.inl rfl)) (pgs_cons (pg_name (i := 6) sc__law_marks.nd rfl (Or.inr rfl)) pgs_nil))))
  (pss_one (ps_ret (pe_lc (own := [("_law_name", 8)]) (g := gName 8) (by rfl) sc__law_marks.nd (pi_list (pv 5)) (blkOk_by (own := [("_law_name", 8)]) (N := ["_law_tape", "_law_many", "_law_by", "_law_far", "_law_first", "_law_names", "_law_signs", "_law_k", "_law_name"]) (by kernel_rfl)) (fun _ _ _ _ _ => (pg_name (i := 8) sc__law_marks.nd rfl (Or.inl rfl))) (fun _ _ _ _ _ => pts_nil) (fun _ _ _ _ _ => (pe_ifExp (pt_cmpR op_lt (pe_cal C__law_draw hr (by omega) (by rfl) (pa_cons (pv 0) (pa_cons (pv 6) pa_nil))) (pe_op op_sub pe_int (pe_op op_fdivW (pv 6) pe_int)) (nomark _)) (pv 8) (pe_op op_sub pe_int (pv 8)))))))))), fun F0 h0 σ a ds Q hR hn S k => ?_⟩
  obtain ⟨t, m, n⟩ := a
  obtain ⟨rfl, hn60, hm⟩ := hR
  simp only at hn60 hm k S
  have hm9 : m + 100 ≤ 1000000000 := hm
  have hsz := sizeLine_eq
  have te : tapeEnd = 1000000000 := rfl
  refine s_asgX (P := fun d => ∃ b far : Int, d = .tup [.int b, .int far] ∧ (1 ≤ b ∧ b < 1 + 60) ∧ (far = 1 ∨ far = 7 ∨ far = 16000000)) (env' := two _ 2 3) S
    ((ex_tup (exa_cons (ex_plus ev_int (ea_cons (ev_var rfl) (ea_cons ev_int ea_nil)) (by decide) (by decide) (by omega)) (exa_cons (ex_pickA (A := PI fun f => f = 1 ∨ f = 7 ∨ f = 16000000) (by omega) (ev_var rfl)
      (al_cons (ev_int.pi (.inl rfl)) (al_cons (ev_int.pi (.inl rfl)) (al_cons (ev_int.pi (.inr (.inl rfl))) (al_cons (ev_int.pi (.inr (.inr rfl))) al_nil)))) (by decide) (by decide)) exa_nil)) (by
        rintro ds ⟨_, _, _, ⟨_, _, _, rfl, rfl⟩, rfl⟩
        show 2 ≤ sizeLine; omega)).imp (by
      rintro d ⟨ds, ⟨_, _, ⟨b, rfl, hb⟩, ⟨_, _, ⟨far, rfl, hfar⟩, rfl, rfl⟩, rfl⟩, rfl⟩
      exact ⟨b, far, rfl, hb, hfar⟩)) (by
    rintro d ⟨b, far, rfl, _⟩
    exact tg_two) fun d σ H hd S => ?_
  obtain ⟨b, far, rfl, hb, hfar⟩ := hd
  have S : State K F0 h0 _ (Iv.tape t (m + 2)) [Sl.val (.raw (.ref t)), Sl.val (.int (n : Nat)), Sl.val (.int b), Sl.val (.int far), Sl.un, Sl.un, Sl.un, Sl.un, Sl.un] Gh.nil σ H := S
  -- first
  refine s_setX S (ex_pickA (A := PI fun z => 1 ≤ z ∧ z + 60 * far ≤ 1000000000) (m := m + 3) (by omega) (ev_var rfl)
    (al_cons (ev_int.pi (by omega)) (al_cons (ev_int.pi (by omega)) (al_cons (ev_int.pi (by omega)) (al_cons ((ex_plus ev_int (ea_cons (ev_var rfl) (ea_cons ev_int ea_nil)) (by decide) (by decide) (by omega)).pi fun i h => by omega)
      (al_cons (Ev.pi (ev_ii (ev_iiC ev_int ev_int ⟨by decide, by decide, by decide⟩) (ev_iiC ev_int (ev_var rfl) (.inl ⟨by decide, by decide⟩))) (by
        show 1 ≤ (10 : Int) ^ 9 - 60 * far ∧ (10 : Int) ^ 9 - 60 * far + 60 * far ≤ 1000000000
        omega)) al_nil))))) (by decide) (by decide)) fun d σ H hd S => ?_
  obtain ⟨first, rfl, hf1, hf2⟩ := hd
  have S : State K F0 h0 _ (Iv.tape t (m + 4)) [Sl.val (.raw (.ref t)), Sl.val (.int (n : Nat)), Sl.val (.int b), Sl.val (.int far), Sl.val (.int first), Sl.un, Sl.un, Sl.un, Sl.un] Gh.nil σ H := S
  -- names, signs
  refine s_asgX (P := fun d => ∃ signs : Int, d = .tup [.lst ((List.range n).map fun k => .int (nameAt first far b k)), .int signs] ∧ 1 ≤ signs ∧ signs ≤ 3) (env' := two _ 5 6) S
    ((ex_tup (exa_cons (Ev.im (en_map (xs := List.range n) (enc := fun k => .int (0 + (k : Int))) (fun k => .int (nameAt first far b k)) ((ei_rng1 (ea_cons (ev_var rfl) ea_nil) (by omega)).to (by unfold rngD; simp)) (by rw [List.length_range]; omega) (by simp) (fun k hk => by
        have hk := List.mem_range.mp hk
        exact ev_ii (ev_var rfl) (ev_iiC (ev_var rfl) (ev_iiC (ev_iiC (ev_var rfl) (ev_var rfl) (.inl ⟨by omega, by omega⟩)) ev_int (by decide)) (.inl ⟨by omega, by omega⟩)))).ev)
      (exa_cons (ex_pickA (A := PI fun z => 1 ≤ z ∧ z ≤ 3) (by omega) (ev_var rfl)
      (al_cons (ev_int.pi (by decide)) (al_cons (ev_int.pi (by decide)) (al_cons (ev_int.pi (by decide)) (al_cons (ev_int.pi (by decide)) al_nil)))) (by decide) (by decide)) exa_nil)) (by
        rintro ds ⟨_, _, _, ⟨_, _, _, rfl, rfl⟩, rfl⟩
        show 2 ≤ sizeLine; omega)).imp (by
      rintro d ⟨ds, ⟨_, _, rfl, ⟨_, _, ⟨signs, rfl, hs⟩, rfl, rfl⟩, rfl⟩, rfl⟩
      exact ⟨signs, rfl, hs⟩)) (by
    rintro d ⟨signs, rfl, _⟩
    exact tg_two) fun d σ H hd S => ?_
  obtain ⟨signs, rfl, hs1, hs2⟩ := hd
  have S : State K F0 h0 _ (Iv.tape t (m + 5)) [Sl.val (.raw (.ref t)), Sl.val (.int (n : Nat)), Sl.val (.int b), Sl.val (.int far), Sl.val (.int first), Sl.val (.lst ((List.range n).map fun k => .int (nameAt first far b k))), Sl.val (.int signs), Sl.un, Sl.un] Gh.nil σ H := S
  have hf0 : 1 ≤ far := by omega
  refine s_retX S (ex_map (xs := List.range n) (enc := fun k => .int (nameAt first far b k)) (fun i => Iv.tape t (m + 5 + i)) (fun k d => ∃ z, d = .int z ∧ (z = nameAt first far b k ∨ z = 0 - nameAt first far b k)) (ei_list (ev_var rfl)) (by rw [List.length_range]; omega) (by simp) fun i k hk => ?_) fun d hd => ?_
  · have hi : i < n := by
      have := (List.getElem?_eq_some_iff.mp hk).1
      rw [List.length_range] at this; exact this
    refine ex_if (PB := fun _ => True) (ext_test ((ex_ib (ex_draw (ea_cons (ev_var rfl) (ea_cons (ev_var rfl) ea_nil)) (by omega) (by omega) (by omega)) (Ev.pi (A := fun _ => True) (ev_ii ev_int (ev_iiC (ev_var rfl) ev_int div2_ok)) trivial)).imp fun d ⟨i, j, _, _, e⟩ => ⟨_, e, trivial⟩))
      (fun _ => (Ev.im (ev_var rfl)).imp fun d e => ⟨_, e, .inl rfl⟩) (fun _ => (Ev.im (ev_ii ev_int (ev_var rfl))).imp fun d e => ⟨_, e, .inr rfl⟩)
  · obtain ⟨ds, rfl, hl, hds⟩ := hd
    rw [List.length_range] at hl
    have hat : ∀ (i : Nat) (h : i < n), ∃ z, ds[i]? = some (.int z) ∧ (z = nameAt first far b i ∨ z = 0 - nameAt first far b i) := fun i h => by
      obtain ⟨d, e1, z, e2, e3⟩ := hds i i (by rw [List.getElem?_range h])
      exact ⟨z, by rw [e1, e2], e3⟩
    have hall : ∀ d ∈ ds, ∃ i, d = .int i := fun d hd => by
      obtain ⟨i, e⟩ := List.mem_iff_getElem?.mp hd
      have hi := (List.getElem?_eq_some_iff.mp e).1
      obtain ⟨z, e1, _⟩ := hat i (by omega)
      rw [e1] at e
      cases e
      exact ⟨z, rfl⟩
    have hd2 := ints_of hall
    rw [List.length_range]
    refine k (.lst ds) ⟨ds.map intOf, by rw [← hd2], by rw [List.length_map, hl], marks_ok (n := n) hf0 hf1 (by omega) hb.1 (by omega) (by omega) (by rw [List.length_map, hl]) fun i x e => ?_⟩
    rw [List.getElem?_map] at e
    have hi : i < n := by
      cases q : ds[i]? with
      | none => rw [q] at e; cases e
      | some d => have := (List.getElem?_eq_some_iff.mp q).1; omega
    obtain ⟨z, e1, e2⟩ := hat i hi
    rw [e1] at e
    cases e
    exact e2
theorem w_iso {f : Addr} {fd : FuncData} (F : Fun K "_law_is_so" "_law_is_so" s__law_is_so f fd) (b_abs : mg "abs" = none) : FnOk P w K mg base L2.CX0 1 f fd ["_law_on", "_law_mark"] isoSp := by
  refine F.ok sc__law_is_so (fun vs H Q E h => ?_) (fun cdv A outer s H vs Q E hr h => ⟨_, (pss_one (ps_ret (pe_cmpR op_eq (pe_cmp (pc_din (hu_of hr) (pe_callB call_abs (by rfl) b_abs (by decide +kernel) (pa_cons (pv 1) pa_nil)) (pv 0)) (by rfl)) (pe_cmpR op_gt (pv 1) pe_int (nomark _)) (nomark _)))), ?_⟩)
  · obtain ⟨a, ns, m, rfl, _⟩ := h
    rfl
  · obtain ⟨a, ns, m, rfl, ha, k⟩ := h
    refine ⟨_, rfl, m, rfl, _, rfl, a, valV (onV ns) (.inl (m.natAbs : Nat)), rfl, .inl ⟨_, .inl (m.natAbs : Nat), .inl ha, ?_, rfl⟩, _, rfl, m, 0, rfl, rfl, rfl, ?_⟩
    · have e : (if m < 0 then -m else m) = ((m.natAbs : Nat) : Int) := by split <;> omega
      rw [e]
      rfl
    · rw [onV_val]
      have e : decide (V.bl (decide (((m.natAbs : Nat) : Int) ∈ ns)) = V.bl (decide (0 < m))) = tv (fun n => decide (n ∈ ns)) m := by
        show _ = (decide (((m.natAbs : Nat) : Int) ∈ ns) == decide (0 < m))
        cases decide (((m.natAbs : Nat) : Int) ∈ ns) <;> cases decide (0 < m) <;> rfl
      rw [e]
      exact k
theorem ev_iso {env : List Sl} {ta tb : TE} {ns : List Int} {m : Int} {E : XK} (ha : EvR K ta env (.dct (onK ns))) (hb : Ev K tb env (.int m)) : Ev K (tCall isoSp [] E (tCons ta (tCons tb tNil))) env (.bl (tv (fun n => decide (n ∈ ns)) m)) := fun H0 F h H σ ok s Q k =>
  ha H0 F h H σ ok s _ fun v1 G1 H1 n1 r1 => hb H0 G1 h H1 σ n1.ok (s.nx n1) _ fun v2 G2 H2 n2 r2 => by
    obtain ⟨a, kvs, rfl, hs, rr⟩ := (r1.nx n2).dct n2.ok
    have e := onV_of rr
    subst e
    rw [r2.int_eq]
    exact ⟨a, ns, m, rfl, hs, k _ G2 H2 (n1.trans n2) (.bl _)⟩
end
end K21
namespace K21
open PySem PySem.Spec PyProof.Rows L2 Lw
abbrev s__law_named : Stmt := top 9
theorem sc__law_named : FnScope ["_law_names", "_law_on", "_law_name", "_law_meaning", "_law_one", "_law_some"] ["_law_names", "_law_on"] (defScope s__law_named) := ⟨rfl, rfl, rfl, by decide +kernel, rfl, by decide +kernel, by decide +kernel⟩
abbrev s__law_is_held : Stmt := top 10
theorem sc__law_is_held : FnScope ["_law_clauses", "_law_on", "_law_one", "_law_some"] ["_law_clauses", "_law_on"] (defScope s__law_is_held) := ⟨rfl, rfl, rfl, by decide +kernel, rfl, by decide +kernel, by decide +kernel⟩
def memB (ns : List Int) (n : Int) : Bool := decide (n ∈ ns)
def stepOn (ns : List Int) (p : Int × List (List Int)) : List Int := if mean (memB ns) p.2 = true then addN ns p.1 else ns
def onOf (on0 : List Int) (named : List (Int × List (List Int))) : List Int := named.foldl stepOn (on0.foldl addN [])
theorem stepOn_len (ns : List Int) (p : Int × List (List Int)) : (stepOn ns p).length ≤ ns.length + 1 := by
  unfold stepOn
  split
  · exact addN_len _ _
  · omega
theorem foldOn_len : ∀ (named : List (Int × List (List Int))) (ns : List Int), (named.foldl stepOn ns).length ≤ ns.length + named.length
  | [], ns => by simp
  | p :: named, ns => by
    rw [List.foldl_cons, List.length_cons]
    have h1 := foldOn_len named (stepOn ns p)
    have h2 := stepOn_len ns p
    omega
def Small (named : List (Int × List (List Int))) : Prop := ∀ p ∈ named, p.2.length ≤ 2 ∧ ∀ c ∈ p.2, c.length ≤ 2
def R_named (ds : List D) (d : D) : Prop := ∃ (named : List (Int × List (List Int))) (on0 : List Int), ds = [.tup (named.map nmD), .lst (dI on0)] ∧ named.length ≤ 100000 ∧ on0.length ≤ 1000 ∧ Small named ∧ d = .dct (onK (onOf on0 named))
def R_held (ds : List D) (d : D) : Prop := ∃ (cs : List (List Int)) (ns : List Int), ds = [.tup (cs.map clD), .dct (onK ns)] ∧ cs.length ≤ 100000 ∧ (∀ c ∈ cs, c.length ≤ 3) ∧ d = .bl (cs.all fun c => c.any (tv (memB ns)))
theorem filt_empty {α β : Type} (f : α → β) (c : α → Bool) : ∀ xs : List α, ((xs.filter c).map f).isEmpty = xs.all fun x => !c x
  | [] => rfl
  | x :: xs => by
    rw [List.all_cons, ← filt_empty f c xs]
    cases h : c x with
    | true => rw [List.filter_cons_of_pos h]; rfl
    | false => rw [List.filter_cons_of_neg (by rw [h]; exact Bool.false_ne_true)]; rfl
theorem pyCl (c : List Int) : Py (clD c) (.tuple (c.map .int)) := .tup (pyI c)
section
variable {P : Program} {w : World} {K : PySem.W.Frag} {mg : Str → Option Value} {base : Heap}
theorem w_named {f : Addr} {fd : FuncData} (F : Fun K "_law_named" "_law_named" s__law_named f fd) (b_dict : mg "dict" = none) (C__law_is_so : Cal P w K mg base 1 "_law_is_so" isoSp) : FnOk P w K mg base L2.CX0 2 f fd ["_law_names", "_law_on"] (pSp K 2 R_named) := by
  refine ok_pure F sc__law_named fun cdv B outer s H E hr => ⟨_, (pss_cons (ps_set (i := 1) sc__law_named.nd rfl (Or.inr rfl) (pe_callTy (call_dictP rfl) (by rfl) b_dict (by decide +kernel) (pa_cons (pe_lc (own := [("_law_name", 2)]) (g := gName 2) (by rfl) sc__law_named.nd (pi_list (pv 1)) (blkOk_by (own := [("_law_name", 2)]) (N := ["_law_names", "_law_on", "_law_name", "_law_meaning", "_law_one", "_law_some"]) (by kernel_rfl)) (fun _ _ _ _ _ => (pg_name (i := 2) sc__law_named.nd rfl (Or.inl rfl))) (fun _ _ _ _ _ => pts_nil) (fun _ _ _ _ _ => (pe_tup (pa_cons (pv 2) (pa_cons pe_bl pa_nil))))) pa_nil)))
  (pss_cons (ps_for PassesOwn.never rfl (pi_tup (pv 0)) (pg_tup rfl (pgs_cons (pg_name (i := 2) sc__law_named.nd rfl (Or.inl rfl)) (pgs_cons (pg_name (i := 3) sc__law_named.nd rfl (Or.inl rfl)) pgs_nil)))
  (pss_one (ps_if (pt_cmpR (op_neD hr.units) (pe_lc (own := [("_law_some", 5)]) (g := gName 5) (by rfl) sc__law_named.nd (pi_tup (pv 3)) (blkOk_by (own := [("_law_some", 5)]) (N := ["_law_names", "_law_on", "_law_name", "_law_meaning", "_law_one", "_law_some"]) (by kernel_rfl)) (fun _ _ _ _ _ => (pg_name (i := 5) sc__law_named.nd rfl (Or.inl rfl))) (by intro _ _ _ _ _; exact (pts_one (pt_cmpR (op_eqDK K hr.units) (pe_lc (own := [("_law_one", 4)]) (g := gName 4) (by rfl) sc__law_named.nd (pi_tupK K (pv 5)) (blkOk_by (own := [("_law_one", 4)]) (N := ["_law_names", "_law_on", "_law_name", "_law_meaning", "_law_one", "_law_some"]) (by kernel_rfl)) (fun _ _ _ _ _ => (pg_name (i := 4) sc__law_named.nd rfl (Or.inl rfl))) (fun _ _ _ _ _ => (pts_one (pt_not (pt_val (pe_cal C__law_is_so hr (by omega) (by rfl) (pa_cons (pv 1) (pa_cons (pv 4) pa_nil))) (fun _ => rfl))))) (fun _ _ _ _ _ => (pv 4))) (pe_lst pa_nil) (nomark _)))) (fun _ _ _ _ _ => (pv 5))) (pe_lst pa_nil) (nomark _))
  (pss_one (ps_dput (hu_of hr) (pv 1) (pv 2) pe_bl (by rfl)))
  pss_nil)))
  (pss_one (ps_ret (pv 1))))), fun F0 h0 σ ds d Q hR hn S k => ?_⟩
  obtain ⟨named, on0, rfl, hl, hl0, hsm, rfl⟩ := hR
  have hsz := sizeLine_eq
  -- on = dict([(name, True) for name in on])
  refine s_setN S (en_dictOn (ns := on0) (en_map (xs := on0) (enc := D.int) (fun n => prD (n, .bl true)) (ei_list (ev_var rfl)) (by omega) (by simp) (fun n _ => ev_tup (ea_cons (ev_var rfl) (ea_cons ev_bl ea_nil)) (by show 2 ≤ sizeLine; omega))).ev) fun σ H S => ?_
  refine s_for S (ei_tup (ev_var rfl)) (fun k env I => ∃ a b : Sl, env = [Sl.val (.tup (named.map nmD)), Sl.own (.dct (onK ((named.take k).foldl stepOn (on0.foldl addN [])))), a, b, Sl.un, Sl.un] ∧ I = Iv.eq h0) ⟨Sl.un, Sl.un, rfl, rfl⟩ ?_ ?_
  · rintro i d env I hd ⟨a, b, rfl, rfl⟩
    rw [List.getElem?_map] at hd
    obtain ⟨p, hp, rfl⟩ : ∃ p, named[i]? = some p ∧ d = nmD p := by
      cases e : named[i]? with
      | none => rw [e] at hd; cases hd
      | some p => rw [e] at hd; exact ⟨p, rfl, (Option.some.inj hd).symm⟩
    have hmem : p ∈ named := List.mem_of_getElem? hp
    obtain ⟨hm2, hc2⟩ := hsm p hmem
    have htk : named.take (i + 1) = named.take i ++ [p] := by rw [List.take_add_one, hp]; rfl
    have hfold : (named.take (i + 1)).foldl stepOn (on0.foldl addN []) = stepOn ((named.take i).foldl stepOn (on0.foldl addN [])) p := by rw [htk, List.foldl_append]; rfl
    have hlen := foldOn_len (named.take i) (on0.foldl addN [])
    have hlen2 := foldN_len on0 []
    rw [List.length_take] at hlen
    rw [List.length_nil] at hlen2
    generalize (named.take i).foldl stepOn (on0.foldl addN []) = ns at hlen hfold ⊢
    refine ⟨_, tg_tup rfl (tgs_cons tg_name (tgs_cons tg_name tgs_nil)), fun gs σ H S => ?_⟩
    have S : State K F0 h0 _ (Iv.eq h0) [Sl.val (.tup (named.map nmD)), Sl.own (.dct (onK ns)), Sl.val (.int p.1), Sl.val (meanD p.2), Sl.un, Sl.un] gs σ H := S
    refine s_if S (et_test ((ev_neNil (n := 1) (en_lcn (xs := p.2) (enc := clD) (fun c => c.all (tv (memB ns))) clD (ei_tup (ev_var rfl)) (by omega) (by simp) (fun c hc => ?_) (fun c hc _ => ev_var rfl)).ev (PyAll.map fun c _ => pyCl c) (shpAll_map fun c _ => shp_tuple shpI)))) (fun hb H S => ?_) (fun hb H S => ?_)
    · have := hc2 c hc
      refine et_test ((ev_eqNil (n := 0) (en_lcn (xs := c) (enc := D.int) (fun l => !tv (memB ns) l) D.int (ei_tup (ev_var rfl)) (by omega) (by simp) (fun l hl => et_not (et_B (ev_iso (evr_own rfl) (ev_var rfl)))) (fun l hl _ => ev_var rfl)).ev (pyI _) shpI).to ?_)
      rw [filt_empty]
      simp
    · have hb : mean (memB ns) p.2 = true := by
        rw [filt_empty] at hb
        unfold mean
        rw [List.all_eq_not_any_not] at hb
        simpa using hb
      refine s_dputN S rfl (ev_var rfl) (by omega) fun H S => ?_
      have es : stepOn ns p = addN ns p.1 := by unfold stepOn; rw [if_pos hb]
      exact ⟨_, _, ⟨_, _, by rw [hfold, es]; rfl, rfl⟩, S⟩
    · have hb : ¬ mean (memB ns) p.2 = true := by
        rw [filt_empty] at hb
        unfold mean
        rw [List.all_eq_not_any_not] at hb
        intro q
        simp at hb q
        obtain ⟨c, hc, hq⟩ := q
        obtain ⟨l, hl, hq2⟩ := hb c hc
        rw [hq l hl] at hq2
        cases hq2
      have es : stepOn ns p = ns := by unfold stepOn; rw [if_neg hb]
      exact ⟨_, _, ⟨_, _, by rw [hfold, es], rfl⟩, S⟩
  · rintro env I σ H ⟨a, b, rfl, rfl⟩ S
    rw [List.length_map, List.take_length] at S
    have S := s_freeze S (i := 1) rfl
    exact s_ret S (ev_var rfl) k
theorem w_held {f : Addr} {fd : FuncData} (F : Fun K "_law_is_held" "_law_is_held" s__law_is_held f fd) (C__law_is_so : Cal P w K mg base 1 "_law_is_so" isoSp) : FnOk P w K mg base L2.CX0 2 f fd ["_law_clauses", "_law_on"] (pSp K 2 R_held) := by
  refine ok_pure F sc__law_is_held fun cdv B outer s H E hr => ⟨_, (pss_one (ps_ret (pe_cmpR (op_eqD hr.units) (pe_lc (own := [("_law_some", 3)]) (g := gName 3) (by rfl) sc__law_is_held.nd (pi_tup (pv 0)) (blkOk_by (own := [("_law_some", 3)]) (N := ["_law_clauses", "_law_on", "_law_one", "_law_some"]) (by kernel_rfl)) (fun _ _ _ _ _ => (pg_name (i := 3) sc__law_is_held.nd rfl (Or.inl rfl))) (by intro _ _ _ _ _; exact (pts_one (pt_cmpR (op_eqDK K hr.units) (pe_lc (own := [("_law_one", 2)]) (g := gName 2) (by rfl) sc__law_is_held.nd (pi_tupK K (pv 3)) (blkOk_by (own := [("_law_one", 2)]) (N := ["_law_clauses", "_law_on", "_law_one", "_law_some"]) (by kernel_rfl)) (fun _ _ _ _ _ => (pg_name (i := 2) sc__law_is_held.nd rfl (Or.inl rfl))) (fun _ _ _ _ _ => (pts_one (pt_val (pe_cal C__law_is_so hr (by omega) (by rfl) (pa_cons (pv 1) (pa_cons (pv 2) pa_nil))) (fun _ => rfl)))) (fun _ _ _ _ _ => (pv 2))) (pe_lst pa_nil) (nomark _)))) (fun _ _ _ _ _ => (pv 3))) (pe_lst pa_nil) (nomark _)))), fun F0 h0 σ ds d Q hR hn S k => ?_⟩
  obtain ⟨cs, ns, rfl, hl, hc3, rfl⟩ := hR
  have hsz := sizeLine_eq
  refine s_ret S ((ev_eqNil (n := 1) (en_lcn (xs := cs) (enc := clD) (fun c => !c.any (tv (memB ns))) clD (ei_tup (ev_var rfl)) (by omega) (by simp) (fun c hc => ?_) (fun c hc _ => ev_var rfl)).ev (PyAll.map fun c _ => pyCl c) (shpAll_map fun c _ => shp_tuple shpI)).to ?_) k
  · have := hc3 c hc
    refine et_test ((ev_eqNil (n := 0) (en_lcn (xs := c) (enc := D.int) (fun l => tv (memB ns) l) D.int (ei_tup (ev_var rfl)) (by omega) (by simp) (fun l hl => et_B (ev_iso (Ev.rd (ev_var rfl)) (ev_var rfl))) (fun l hl _ => ev_var rfl)).ev (pyI _) shpI).to ?_)
    rw [filt_empty, List.not_any_eq_all_not]
  · rw [filt_empty]
    simp
end
end K21
namespace K21
open PySem Lw
/-! ### the setting that the law brings about -/
theorem tv_congr {V W : Int → Bool} {l : Int} (h : V (l.natAbs : Nat) = W (l.natAbs : Nat)) : tv V l = tv W l := by
  unfold tv
  rw [h]
theorem mean_congr {V W : Int → Bool} {m : List (List Int)} (h : ∀ c ∈ m, ∀ l ∈ c, V (l.natAbs : Nat) = W (l.natAbs : Nat)) : mean V m = mean W m := by
  unfold mean
  rw [Bool.eq_iff_iff, List.any_eq_true, List.any_eq_true]
  constructor
  · rintro ⟨c, hc, e⟩
    refine ⟨c, hc, ?_⟩
    rw [List.all_eq_true] at e ⊢
    exact fun l hl => by rw [← tv_congr (h c hc l hl)]; exact e l hl
  · rintro ⟨c, hc, e⟩
    refine ⟨c, hc, ?_⟩
    rw [List.all_eq_true] at e ⊢
    exact fun l hl => by rw [tv_congr (h c hc l hl)]; exact e l hl
theorem fold_sem (first : Int) : ∀ (rest : List (Int × List (List Int))) (j : Nat) (ns : List Int), (∀ n ∈ ns, n < first + (j : Nat)) →
    (∀ (i : Nat) p, rest[i]? = some p → p.1 = first + (j : Nat) + (i : Nat) ∧ ∀ c ∈ p.2, ∀ l ∈ c, (l.natAbs : Int) < first + (j : Nat) + (i : Nat)) →
    (∀ n, n < first + (j : Nat) → (n ∈ rest.foldl stepOn ns ↔ n ∈ ns)) ∧ ∀ p ∈ rest, decide (p.1 ∈ rest.foldl stepOn ns) = mean (memB (rest.foldl stepOn ns)) p.2
  | [], j, ns, _, _ => ⟨fun _ _ => Iff.rfl, fun _ h => nomatch h⟩
  | p :: rest, j, ns, hns, hr => by
    obtain ⟨e0, l0⟩ := hr 0 p rfl
    have e0 : p.1 = first + (j : Nat) := by rw [e0]; simp
    have hst : ∀ n, n ∈ stepOn ns p → n = p.1 ∨ n ∈ ns := fun n hn => by
      unfold stepOn at hn
      split at hn
      · rw [addN_mem] at hn; exact hn.symm
      · exact .inr hn
    have hst2 : ∀ n, n ∈ ns → n ∈ stepOn ns p := fun n hn => by
      unfold stepOn
      split
      · rw [addN_mem]; exact .inl hn
      · exact hn
    obtain ⟨a1, a2⟩ := fold_sem first rest (j + 1) (stepOn ns p) (fun n hn => by
      rcases hst n hn with q | q
      · rw [q, e0]; omega
      · have := hns n q; omega) (fun i q hq => by
      obtain ⟨b1, b2⟩ := hr (i + 1) q (by simpa using hq)
      exact ⟨by rw [b1]; omega, fun c hc l hl => by have := b2 c hc l hl; omega⟩)
    rw [List.foldl_cons]
    generalize hfin : rest.foldl stepOn (stepOn ns p) = fin at *
    have low : ∀ n, n < first + (j : Nat) → (n ∈ fin ↔ n ∈ ns) := fun n hn => by
      rw [a1 n (by omega)]
      constructor
      · intro h
        rcases hst n h with q | q
        · rw [q, e0] at hn; omega
        · exact q
      · exact hst2 n
    refine ⟨low, fun q hq => ?_⟩
    rcases List.mem_cons.mp hq with rfl | hq
    · have em : mean (memB fin) q.2 = mean (memB ns) q.2 := mean_congr fun c hc l hl => by
        have := l0 c hc l hl
        have := low (l.natAbs : Nat) (by omega)
        unfold memB
        exact decide_eq_decide.mpr this
      rw [em]
      have hq1 : q.1 ∈ fin ↔ q.1 ∈ stepOn ns q := a1 q.1 (by rw [e0]; omega)
      have hq0 : ¬ q.1 ∈ ns := fun h => by have := hns _ h; omega
      unfold stepOn at hq1
      cases hm : mean (memB ns) q.2 with
      | true =>
        rw [if_pos hm, addN_mem] at hq1
        exact decide_eq_true (hq1.mpr (.inr rfl))
      | false =>
        rw [if_neg (by rw [hm]; exact Bool.false_ne_true)] at hq1
        exact decide_eq_false fun h => hq0 (hq1.mp h)
    · exact a2 q hq
theorem onOf_mod {s : Ms} (w : Wf s) {on0 : List Int} (h0 : ∀ n ∈ on0, n < s.first) : Mod (memB (onOf on0 s.named)) s ∧ ∀ n, n < s.first → memB (onOf on0 s.named) n = decide (n ∈ on0) := by
  have hm : ∀ n, n ∈ on0.foldl addN [] ↔ n ∈ on0 := fun n => by rw [foldN_mem]; simp
  obtain ⟨a1, a2⟩ := fold_sem s.first s.named 0 (on0.foldl addN []) (fun n hn => by have := h0 n ((hm n).mp hn); simpa using this) fun i p hp => by
    obtain ⟨b1, b2⟩ := w.named i p hp
    exact ⟨by rw [b1]; simp, fun c hc l hl => by have := (b2 c hc l hl).2; simpa using this⟩
  refine ⟨fun p hp => a2 p hp, fun n hn => ?_⟩
  unfold memB
  exact decide_eq_decide.mpr ((a1 n (by simpa using hn)).trans (hm n))
/-- which marks are on -/
def someOf (ms : List Int) (n1 c1 c2 : Nat) : List Int := ms.take c1 ++ (ms.drop n1).take c2
def on0Of (ms : List Int) (n1 c1 c2 : Nat) : List Int := (ms.filter fun m => decide (m ∈ someOf ms n1 c1 c2) == decide (0 < m)).map fun m => ((m.natAbs : Nat) : Int)
theorem idx_of {ms : List Int} (h : (ms.map Int.natAbs).Nodup) {i j : Nat} {x y : Int} (hi : ms[i]? = some x) (hj : ms[j]? = some y) (e : x.natAbs = y.natAbs) : i = j := by
  unfold List.Nodup at h
  rw [List.pairwise_iff_getElem] at h
  have li := (List.getElem?_eq_some_iff.mp hi).1
  have lj := (List.getElem?_eq_some_iff.mp hj).1
  have ei : ms[i] = x := (List.getElem?_eq_some_iff.mp hi).2
  have ej : ms[j] = y := (List.getElem?_eq_some_iff.mp hj).2
  rcases Nat.lt_trichotomy i j with q | q | q
  · exfalso
    apply h i j (by rw [List.length_map]; exact li) (by rw [List.length_map]; exact lj) q
    rw [List.getElem_map, List.getElem_map, ei, ej, e]
  · exact q
  · exfalso
    apply h j i (by rw [List.length_map]; exact lj) (by rw [List.length_map]; exact li) q
    rw [List.getElem_map, List.getElem_map, ei, ej, e]
theorem mem_some {ms : List Int} (h : (ms.map Int.natAbs).Nodup) {n1 c1 c2 i : Nat} {x : Int} (hi : ms[i]? = some x) : x ∈ someOf ms n1 c1 c2 ↔ i < c1 ∨ (n1 ≤ i ∧ i < n1 + c2) := by
  unfold someOf
  rw [List.mem_append]
  constructor
  · rintro (q | q)
    · obtain ⟨j, e⟩ := List.mem_iff_getElem?.mp q
      rw [List.getElem?_take] at e
      split at e
      · have := idx_of h hi e rfl
        omega
      · cases e
    · obtain ⟨j, e⟩ := List.mem_iff_getElem?.mp q
      rw [List.getElem?_take] at e
      split at e
      · rw [List.getElem?_drop] at e
        have := idx_of h hi e rfl
        omega
      · cases e
  · rintro (q | ⟨q1, q2⟩)
    · exact .inl (List.mem_iff_getElem?.mpr ⟨i, by rw [List.getElem?_take, if_pos q]; exact hi⟩)
    · refine .inr (List.mem_iff_getElem?.mpr ⟨i - n1, ?_⟩)
      rw [List.getElem?_take, if_pos (by omega), List.getElem?_drop, show n1 + (i - n1) = i by omega]
      exact hi
theorem on0_mem {ms : List Int} (h : (ms.map Int.natAbs).Nodup) {n1 c1 c2 : Nat} {x : Int} (hx : x ∈ ms) : ((x.natAbs : Nat) : Int) ∈ on0Of ms n1 c1 c2 ↔ (decide (x ∈ someOf ms n1 c1 c2) == decide (0 < x)) = true := by
  unfold on0Of
  rw [List.mem_map]
  constructor
  · rintro ⟨y, hy, e⟩
    rw [List.mem_filter] at hy
    obtain ⟨i, ei⟩ := List.mem_iff_getElem?.mp hx
    obtain ⟨j, ej⟩ := List.mem_iff_getElem?.mp hy.1
    have := idx_of h ei ej (by omega)
    subst this
    rw [ei] at ej
    cases ej
    exact hy.2
  · intro q
    exact ⟨x, List.mem_filter.mpr ⟨hx, q⟩, rfl⟩
theorem tv_some {V : Int → Bool} {ms : List Int} {B : Int} (h : (ms.map Int.natAbs).Nodup) {n1 c1 c2 : Nat} {x : Int} (hx : x ∈ ms) (hb : (x.natAbs : Int) < B) (hV : ∀ n, n < B → V n = decide (n ∈ on0Of ms n1 c1 c2)) : tv V x = decide (x ∈ someOf ms n1 c1 c2) := by
  unfold tv
  rw [hV _ hb]
  have e := on0_mem (n1 := n1) (c1 := c1) (c2 := c2) h hx
  cases q : (decide (x ∈ someOf ms n1 c1 c2) == decide (0 < x)) with
  | true =>
    rw [decide_eq_true (e.mpr q)]
    have := eq_of_beq q
    rw [this]
    cases decide (0 < x) <;> rfl
  | false =>
    rw [decide_eq_false (fun z => by have := e.mp z; rw [q] at this; cases this)]
    cases q1 : decide (x ∈ someOf ms n1 c1 c2) <;> cases q2 : decide (0 < x) <;> rw [q1, q2] at q <;> first | rfl | cases q
theorem srt_both {V : Int → Bool} {ms : List Int} {B : Int} (h : (ms.map Int.natAbs).Nodup) {n1 c1 c2 : Nat} (l1 : n1 ≤ ms.length) (hc : c1 ≤ n1) (hb : ∀ x ∈ ms, (x.natAbs : Int) < B) (hV : ∀ n, n < B → V n = decide (n ∈ on0Of ms n1 c1 c2)) :
    Srt V (ms.take n1) c1 ∧ Srt V (ms.drop n1) c2 := by
  constructor
  · intro t m e
    rw [List.getElem?_take] at e
    split at e
    · have hm := List.mem_of_getElem? e
      rw [tv_some h hm (hb m hm) hV, decide_eq_decide, mem_some h e]
      omega
    · cases e
  · intro t m e
    rw [List.getElem?_drop] at e
    have hm := List.mem_of_getElem? e
    rw [tv_some h hm (hb m hm) hV, decide_eq_decide, mem_some h e]
    omega
/-- the law, of one setting -/
theorem law_one {ms : List Int} (hk : MkOk ms) {n1 c1 c2 cap : Nat} (l1 : n1 ≤ ms.length) (h16 : ms.length ≤ 16 + n1) (h16' : n1 ≤ 16) (hc1 : c1 ≤ n1) (hc2 : c2 ≤ ms.length - n1) :
    let r := knot (ms.take n1) (ms.drop n1) cap 1000000001
    let on := onOf (on0Of ms n1 c1 c2) r.1.named
    r.2.length = min cap ms.length ∧ Wf r.1 ∧ r.1.first = 1000000001 ∧ (r.1.made.all fun c => c.any (tv (memB on))) = true ∧ r.2.map (tv (memB on)) = (List.range r.2.length).map fun t => decide (t < c1 + c2) := by
  intro r on
  have w0 : Wf (s0 1000000001) := ⟨by show (0 : Int) < 1000000001; decide, fun i p hp => by simp [s0] at hp, (fun c hc => nomatch hc), (fun p hp => nomatch hp), (fun c hc => nomatch hc)⟩
  have kn : ∀ ns : List Int, (∀ x ∈ ns, x ∈ ms) → Kn (s0 1000000001) ns := fun ns h m hm => by
    have := hk.1 m (h m hm)
    exact ⟨this.1, by show (m.natAbs : Int) < 1000000001 + ((0 : Nat) : Int); omega⟩
  have lt1 : (ms.take n1).length = n1 := by rw [List.length_take]; omega
  have ld1 : (ms.drop n1).length = ms.length - n1 := by rw [List.length_drop]
  obtain ⟨g, l, v⟩ := mrg_good 4 (s0 1000000001) (ms.take n1) (ms.drop n1) cap (by rw [lt1]; omega) (by rw [ld1]; omega) w0 (kn _ fun x hx => List.mem_of_mem_take hx) (kn _ fun x hx => List.mem_of_mem_drop hx)
  have hf : r.1.first = 1000000001 := g.ext.first
  have h0 : ∀ n ∈ on0Of ms n1 c1 c2, n < r.1.first := fun n hn => by
    unfold on0Of at hn
    obtain ⟨x, hx, rfl⟩ := List.mem_map.mp hn
    have := (hk.1 x (List.mem_filter.mp hx).1).2
    rw [hf]; exact this
  obtain ⟨hm, hV⟩ := onOf_mod g.wf h0
  obtain ⟨s1, s2⟩ := srt_both (V := memB on) (B := 1000000001) hk.2 l1 hc1 (fun x hx => (hk.1 x hx).2) (fun n hn => hV n (by rw [← hf] at hn; exact hn))
  have hs := v (memB on) c1 c2 (by rw [lt1]; exact hc1) (by rw [ld1]; exact hc2) hm s1 s2
  refine ⟨l.trans (by rw [lt1, ld1]; congr 1; omega), g.wf, hf, ?_, ?_⟩
  · rw [List.all_eq_true]
    exact g.held (memB on) hm (fun c hc => nomatch hc)
  · apply List.ext_getElem?
    intro t
    rw [List.getElem?_map, List.getElem?_map]
    cases e : r.2[t]? with
    | none =>
      have : (List.range r.2.length)[t]? = none := by
        rw [List.getElem?_eq_none_iff] at e ⊢
        rw [List.length_range]; exact e
      rw [this]; rfl
    | some m =>
      have hl := (List.getElem?_eq_some_iff.mp e).1
      rw [List.getElem?_range hl]
      show some (tv (memB on) m) = some (decide (t < c1 + c2))
      rw [hs t m e]
end K21
namespace K21
open PySem PySem.Spec PyProof.Rows L2 Lw
abbrev s_law : Stmt := top 11
theorem sc_law : FnScope ["_law_script", "_law_tape", "_law_turn", "_law_lens", "_law_marks_here", "_law_total", "_law_cap", "_law_ones", "_law_others", "_law_rows", "_law_names", "_law_clauses", "_law_outs", "_law_counts", "_law_some", "_law_on", "_law_due", "_law_k", "_law_one", "_law_mark", "_law_at"] ["_law_script"] (defScope s_law) := ⟨rfl, rfl, rfl, by decide +kernel, rfl, by decide +kernel, by decide +kernel⟩
def spLaw (K : PySem.W.Frag) : Sp := fun vs H Q _ => ∃ (a : Addr) (ns : List Int), vs = [.ref a] ∧ SqL K H a (ns.map V.int) ∧ ns.length ≤ 63 ∧ ∀ H', Q (.bl true) H'
theorem sat_un {K : PySem.W.Frag} {F h H : Hp} {σ : L2.St} {n : Nat} (hl : σ.length = n) : Sat K H F h H (List.replicate n Sl.un) σ := by
  have no : ∀ (i : Nat) e, (List.replicate n Sl.un)[i]? = some e → e = Sl.un := fun i e q => by
    rw [List.getElem?_replicate] at q
    split at q
    · exact (Option.some.inj q).symm
    · cases q
  refine ⟨by rw [hl, List.length_replicate], fun b o e => ⟨o, e⟩, fun i d e => ?_, fun i d e => ?_, fun i j d e a q1 _ _ _ => ?_⟩
  · cases no i _ e
  · cases no i _ e
  · cases no i _ q1
/-- the names rise -/
theorem names_rise {s : Ms} (w : Wf s) : (s.named.map (·.1)).Pairwise (· < ·) := by
  rw [List.pairwise_iff_getElem]
  intro i j hi hj hij
  rw [List.length_map] at hi hj
  rw [List.getElem_map, List.getElem_map]
  have e1 := (w.named i _ (List.getElem?_eq_getElem hi)).1
  have e2 := (w.named j _ (List.getElem?_eq_getElem hj)).1
  omega
section
variable {P : Program} {w : World} {K : PySem.W.Frag} {mg : Str → Option Value} {base : Heap}
theorem w_law {f : Addr} {fd : FuncData} (F : Fun K "law" "law" s_law f fd) (b_range : mg "range" = none) (b_len : mg "len" = none) (b_sum : mg "sum" = none) (b_min : mg "min" = none) (b_abs : mg "abs" = none) (b_tuple : mg "tuple" = none) (b_dict : mg "dict" = none) (b_sorted : mg "sorted" = none)
    (C__law_begun : Cal P w K mg base 1 "_law_begun" (bSp K)) (C__law_draw : Cal P w K mg base 1 "_law_draw" dSp) (C__law_pick : Cal P w K mg base 2 "_law_pick" (pickSp K)) (C__law_marks : Cal P w K mg base 3 "_law_marks" (marksSp K)) (C_net_knot : Cal P w K mg base 8 "net_knot" (pSp K 4 R_knot))
    (C__law_is_so : Cal P w K mg base 1 "_law_is_so" isoSp) (C__law_named : Cal P w K mg base 2 "_law_named" (pSp K 2 R_named)) (C__law_is_held : Cal P w K mg base 2 "_law_is_held" (pSp K 2 R_held)) : FnOk P w K mg base L2.CX0 9 f fd ["_law_script"] (spLaw K) := by
  refine F.ok sc_law (fun vs H Q E h => ?_) (fun cdv A outer s H vs Q E hr h => ⟨_, (pss_cons (ps_set (i := 1) sc_law.nd rfl (Or.inr rfl) (pe_cal C__law_begun hr (by omega) (by rfl) (pa_cons (pv 0) pa_nil)))
  (pss_cons (ps_for PassesOwn.never rfl (pi_range1 (by rfl) b_range (pa_cons pe_int pa_nil)) (pg_name (i := 2) sc_law.nd rfl (Or.inl rfl))
  (pss_cons (ps_set (i := 3) sc_law.nd rfl (Or.inr rfl) (pe_lc (own := [("_law_k", 17)]) (g := gName 17) (by rfl) sc_law.nd (pi_range1 (by rfl) b_range (pa_cons pe_int pa_nil)) (blkOk_by (own := [("_law_k", 17)]) (N := ["_law_script", "_law_tape", "_law_turn", "_law_lens", "_law_marks_here", "_law_total", "_law_cap", "_law_ones", "_law_others", "_law_rows", "_law_names", "_law_clauses", "_law_outs", "_law_counts", "_law_some", "_law_on", "_law_due", "_law_k", "_law_one", "_law_mark", "_law_at"]) (by kernel_rfl)) (fun _ _ _ _ _ => (pg_name (i := 17) sc_law.nd rfl (Or.inl rfl))) (fun _ _ _ _ _ => pts_nil) (fun _ _ _ _ _ => (pe_op op_add pe_int (pe_cal C__law_draw hr (by omega) (by rfl) (pa_cons (pv 1) (pa_cons (pe_cal C__law_pick hr (by omega) (by rfl) (pa_cons (pv 1) (pa_cons (pe_lst (pa_cons pe_int (pa_cons pe_int (pa_cons pe_int pa_nil)))) pa_nil))) pa_nil)))))))
  (pss_cons (ps_par (i := 4) (j := 5) (by rfl) sc_law.nd rfl rfl (by decide) rfl rfl (pa_cons (pe_cal C__law_marks hr (by omega) (by rfl) (pa_cons (pv 1) (pa_cons (pe_callB (cr_sum rfl) (by rfl) b_sum (by decide +kernel) (pa_cons (pv 3) pa_nil)) pa_nil))) (pa_cons (pe_callB (cr_sum rfl) (by rfl) b_sum (by decide +kernel) (pa_cons (pv 3) pa_nil)) pa_nil)) (by rfl))
  (pss_cons (ps_set (i := 6) sc_law.nd rfl (Or.inl rfl) (pe_cal C__law_pick hr (by omega) (by rfl) (pa_cons (pv 1) (pa_cons (pe_lst (pa_cons pe_int (pa_cons pe_int (pa_cons pe_int (pa_cons (pv 5) (pa_cons (pe_op op_add pe_int (pe_cal C__law_draw hr (by omega) (by rfl) (pa_cons (pv 1) (pa_cons (pv 5) pa_nil)))) (pa_cons (pe_op op_add pe_int (pe_cal C__law_draw hr (by omega) (by rfl) (pa_cons (pv 1) (pa_cons pe_int pa_nil)))) pa_nil))))))) pa_nil))))
  (pss_cons (ps_par (i := 7) (j := 8) (by rfl) sc_law.nd rfl rfl (by decide) rfl rfl (pa_cons (pe_tupleZ (by rfl) b_tuple (pe_slice sl_list (pv 4) po_none (po_some (pe_ix ix_list (pv 3) pe_int (fun _ _ => rfl))))) (pa_cons (pe_tupleZ (by rfl) b_tuple (pe_slice sl_list (pv 4) (po_some (pe_ix ix_list (pv 3) pe_int (fun _ _ => rfl))) po_none)) pa_nil)) (by rfl))
  (pss_cons (ps_asg (pe_cal C_net_knot hr (by omega) (by rfl) (pa_cons (pv 7) (pa_cons (pv 8) (pa_cons (pv 6) (pa_cons (pe_op op_add (pe_op op_pow pe_int pe_int) pe_int) pa_nil))))) (pg_tup rfl (pgs_cons (pg_name (i := 9) sc_law.nd rfl (Or.inl rfl)) (pgs_cons (pg_name (i := 10) sc_law.nd rfl (Or.inl rfl)) (pgs_cons (pg_name (i := 11) sc_law.nd rfl (Or.inl rfl)) (pgs_cons (pg_name (i := 12) sc_law.nd rfl (Or.inl rfl)) pgs_nil))))))
  (pss_cons (ps_if (PW.pt (pw_or (pt_cmpR (op_neD hr.units) (pv 9) (pe_tup (pa_cons (pv 7) (pa_cons (pv 8) pa_nil))) (nomark _)) (pw_or (pt_cmpR op_ne (pe_callB call_len_seq (by rfl) b_len (by decide +kernel) (pa_cons (pv 12) pa_nil)) (pe_callB (call_min2 rfl) (by rfl) b_min (by decide +kernel) (pa_cons (pv 6) (pa_cons (pv 5) pa_nil))) (nomark _)) (pw_or1 (pt_cmpR (op_neD hr.units) (pe_lc (own := [("_law_one", 18)]) (g := gName 18) (by rfl) sc_law.nd (pi_tup (pv 10)) (blkOk_by (own := [("_law_one", 18)]) (N := ["_law_script", "_law_tape", "_law_turn", "_law_lens", "_law_marks_here", "_law_total", "_law_cap", "_law_ones", "_law_others", "_law_rows", "_law_names", "_law_clauses", "_law_outs", "_law_counts", "_law_some", "_law_on", "_law_due", "_law_k", "_law_one", "_law_mark", "_law_at"]) (by kernel_rfl)) (fun _ _ _ _ _ => (pg_name (i := 18) sc_law.nd rfl (Or.inl rfl))) (fun _ _ _ _ _ => pts_nil) (fun _ _ _ _ _ => (pe_ix (ix_tupK K) (pv 18) pe_int (fun _ _ => rfl)))) (pe_callB (call_sortedDW rfl) (by rfl) b_sorted (by decide +kernel) (pa_cons (pe_callTy (call_dictZ rfl) (by rfl) b_dict (by decide +kernel) (pa_cons (pv 10) pa_nil)) pa_nil)) (nomark _))))))
  (pss_one (ps_ret pe_bl))
  pss_nil)
  (pss_one (ps_for PassesOwn.never rfl (pi_list (pe_lc (own := [("_law_k", 17)]) (g := gName 17) (by rfl) sc_law.nd (pi_range1 (by rfl) b_range (pa_cons (pe_op op_mul (pe_op op_add (pe_ix ix_list (pv 3) pe_int (fun _ _ => rfl)) pe_int) (pe_op op_add (pe_ix ix_list (pv 3) pe_int (fun _ _ => rfl)) pe_int)) pa_nil)) (blkOk_by (own := [("_law_k", 17)]) (N := ["_law_script", "_law_tape", "_law_turn", "_law_lens", "_law_marks_here", "_law_total", "_law_cap", "_law_ones", "_law_others", "_law_rows", "_law_names", "_law_clauses", "_law_outs", "_law_counts", "_law_some", "_law_on", "_law_due", "_law_k", "_law_one", "_law_mark", "_law_at"]) (by kernel_rfl)) (fun _ _ _ _ _ => (pg_name (i := 17) sc_law.nd rfl (Or.inl rfl))) (fun _ _ _ _ _ => pts_nil) (fun _ _ _ _ _ => (pe_tup (pa_cons (pe_op op_mod (pv 17) (pe_op op_add (pe_ix (ix_listK K) (pv 3) pe_int (fun _ _ => rfl)) pe_int)) (pa_cons (pe_op op_fdivW (pv 17) (pe_op op_add (pe_ix (ix_listK K) (pv 3) pe_int (fun _ _ => rfl)) pe_int)) pa_nil)))))) (pg_name (i := 13) sc_law.nd rfl (Or.inr rfl))
  (pss_cons (ps_set (i := 14) sc_law.nd rfl (Or.inr rfl) (pe_op op_cat (pe_slice sl_list (pv 4) po_none (po_some (pe_ix ix_tup (pv 13) pe_int (fun _ _ => rfl)))) (pe_slice sl_list (pv 4) (po_some (pe_ix ix_list (pv 3) pe_int (fun _ _ => rfl))) (po_some (pe_op op_add (pe_ix ix_list (pv 3) pe_int (fun _ _ => rfl)) (pe_ix ix_tup (pv 13) pe_int (fun _ _ => rfl)))))))
  (pss_cons (ps_set (i := 15) sc_law.nd rfl (Or.inr rfl) (pe_cal C__law_named hr (by omega) (by rfl) (pa_cons (pv 10) (pa_cons (pe_lc (own := [("_law_mark", 19)]) (g := gName 19) (by rfl) sc_law.nd (pi_list (pv 4)) (blkOk_by (own := [("_law_mark", 19)]) (N := ["_law_script", "_law_tape", "_law_turn", "_law_lens", "_law_marks_here", "_law_total", "_law_cap", "_law_ones", "_law_others", "_law_rows", "_law_names", "_law_clauses", "_law_outs", "_law_counts", "_law_some", "_law_on", "_law_due", "_law_k", "_law_one", "_law_mark", "_law_at"]) (by kernel_rfl)) (fun _ _ _ _ _ => (pg_name (i := 19) sc_law.nd rfl (Or.inl rfl))) (fun _ _ _ _ _ => (pts_one (pt_cmpR op_eq (pe_cmpR (op_in_seqK K) (pv 19) (pv 14) (by rfl)) (pe_cmpR op_gt (pv 19) pe_int (nomark _)) (nomark _)))) (fun _ _ _ _ _ => (pe_callB call_abs (by rfl) b_abs (by decide +kernel) (pa_cons (pv 19) pa_nil)))) pa_nil))))
  (pss_cons (ps_setLc (i := 16) (own := [("_law_at", 20)]) (g := gName 20) (by rfl) sc_law.nd rfl rfl (sw_true rfl rfl rfl (by decide +kernel)) (pi_range1 (by rfl) b_range (pa_cons (pe_callB call_len_seq (by rfl) b_len (by decide +kernel) (pa_cons (pv 12) pa_nil)) pa_nil)) (blkOk_by (own := [("_law_at", 20)]) (N := ["_law_script", "_law_tape", "_law_turn", "_law_lens", "_law_marks_here", "_law_total", "_law_cap", "_law_ones", "_law_others", "_law_rows", "_law_names", "_law_clauses", "_law_outs", "_law_counts", "_law_some", "_law_on", "_law_due", "_law_k", "_law_one", "_law_mark", "_law_at"]) (by kernel_rfl)) (fun _ _ _ _ _ => (pg_name (i := 20) sc_law.nd rfl (Or.inl rfl))) (fun _ _ _ _ _ => pts_nil) (fun _ _ _ _ _ => (pe_cmpR op_lt (pv 20) (pe_callB (cr_sumTK K rfl) (by rfl) b_sum (by decide +kernel) (pa_cons (pv 13) pa_nil)) (nomark _))))
  (pss_one (ps_if (PW.pt (pw_or (pt_not (pt_val (pe_cal C__law_is_held hr (by omega) (by rfl) (pa_cons (pv 11) (pa_cons (pv 15) pa_nil))) (fun _ => rfl))) (pw_or1 (pt_cmpR (op_neD hr.units) (pe_lc (own := [("_law_mark", 19)]) (g := gName 19) (by rfl) sc_law.nd (pi_tup (pv 12)) (blkOk_by (own := [("_law_mark", 19)]) (N := ["_law_script", "_law_tape", "_law_turn", "_law_lens", "_law_marks_here", "_law_total", "_law_cap", "_law_ones", "_law_others", "_law_rows", "_law_names", "_law_clauses", "_law_outs", "_law_counts", "_law_some", "_law_on", "_law_due", "_law_k", "_law_one", "_law_mark", "_law_at"]) (by kernel_rfl)) (fun _ _ _ _ _ => (pg_name (i := 19) sc_law.nd rfl (Or.inl rfl))) (fun _ _ _ _ _ => pts_nil) (fun _ _ _ _ _ => (pe_cal C__law_is_so hr (by omega) (by rfl) (pa_cons (pv 15) (pa_cons (pv 19) pa_nil))))) (pv 16) (nomark _)))))
  (pss_one (ps_ret pe_bl))
  pss_nil))))))))))))))
  (pss_one (ps_ret pe_bl)))), ?_⟩)
  · obtain ⟨a, ns, rfl, _⟩ := h
    rfl
  obtain ⟨a, ns, rfl, hs, hl, kQ⟩ := h
  have hsz := sizeLine_eq
  have te : tapeEnd = 1000000000 := rfl
  refine ⟨.ref a, rfl, a, ns, rfl, hs, hl, fun t c cells H1 ht hc hct ex h1 h2 l0 l1 => ?_⟩
  obtain ⟨F0, h0, ok, tp, _⟩ := law_start (K := K) ht hc hct ex h1 h2 l0 l1
  generalize hσ : (L2.start _ [V.ref a]) = σ0
  have hσl : σ0.length = 21 := by rw [← hσ]; rfl
  have S : State K F0 h0 H1 (Iv.tape t 0) (Sl.un :: Sl.val (.raw (.ref t)) :: List.replicate 19 Sl.un) Gh.nil (σ0.set 1 (some (V.ref t))) H1 :=
    ⟨F0, h0, Nx.refl ok, tp, (sat_un hσl).set (.raw _) 1, trivial⟩
  refine s_for S (ei_rng1 (ea_cons ev_int ea_nil) (by decide)) (fun k env I => ∃ (rest : List Sl) (m : Nat), rest.length = 19 ∧ env = Sl.un :: Sl.val (.raw (.ref t)) :: rest ∧ m ≤ 100 * k ∧ I = Iv.tape t m) ⟨_, 0, by rw [List.length_replicate], rfl, by omega, rfl⟩ ?_ ?_
  · rintro turn d env I hd ⟨rest, m, hrl, rfl, hm, rfl⟩
    have hturn : turn < 2 := by
      have := (List.getElem?_eq_some_iff.mp hd).1
      unfold rngD at this
      rw [List.length_map, List.length_range] at this
      exact this
    match rest, hrl with
    | [x2, x3, x4, x5, x6, x7, x8, x9, x10, x11, x12, x13, x14, x15, x16, x17, x18, x19, x20], _ =>
    refine ⟨_, tg_name, fun gs σ H S => ?_⟩
    have S : State K F0 h0 H1 (Iv.tape t m) [Sl.un, Sl.val (.raw (.ref t)), Sl.val d, x3, x4, x5, x6, x7, x8, x9, x10, x11, x12, x13, x14, x15, x16, x17, x18, x19, x20] gs σ H := S
    -- lens
    refine s_setX S (ex_map (xs := List.range 2) (enc := fun k => .int (0 + (k : Int))) (fun i => Iv.tape t (m + 2 * i)) (fun _ d => ∃ z : Int, d = .int z ∧ 1 ≤ z ∧ z ≤ 12) ((ei_rng1 (ea_cons ev_int ea_nil) (by decide)).to (by unfold rngD; rfl)) (by rw [List.length_range]; omega) (by simp) fun i k hk => ?_) fun d3 σ H hd3 S => ?_
    · have hi : i < 2 := by
        have := (List.getElem?_eq_some_iff.mp hk).1
        rw [List.length_range] at this; exact this
      exact (ex_ii (A := (· = 1)) (ev_int.pi rfl) (ex_drawA (A := fun z => 3 ≤ z ∧ z ≤ 12) (ev_var rfl) (ex_pickA (A := PI fun z => 3 ≤ z ∧ z ≤ 12) (m := m + 2 * i) (by omega) (ev_var rfl) (al_cons (ev_int.pi (by decide)) (al_cons (ev_int.pi (by decide)) (al_cons (ev_int.pi (by decide)) al_nil))) (by decide) (by decide)) (fun i h => ⟨by omega, by omega⟩) (by omega))).imp fun d ⟨z, e, i, j, hi, ⟨many, hmn, h1, h2⟩, hz⟩ => ⟨z, e, by omega, by omega⟩
    obtain ⟨ds, rfl, hdl, hds⟩ := hd3
    rw [List.length_range] at hdl
    obtain ⟨_, e0, a, rfl, ha1, ha2⟩ := hds 0 0 rfl
    obtain ⟨_, e1, b, rfl, hb1, hb2⟩ := hds 1 1 rfl
    obtain ⟨n1, rfl⟩ := Int.eq_ofNat_of_zero_le (show 0 ≤ a by omega)
    obtain ⟨n2, rfl⟩ := Int.eq_ofNat_of_zero_le (show 0 ≤ b by omega)
    have eds : ds = dI [(n1 : Int), (n2 : Int)] := by
      match ds, hdl, e0, e1 with
      | [x, y], _, e0, e1 => cases e0; cases e1; rfl
    subst eds
    have S : State K F0 h0 H1 (Iv.tape t (m + 4)) [Sl.un, Sl.val (.raw (.ref t)), Sl.val d, Sl.val (.lst (dI [(n1 : Int), (n2 : Int)])), x4, x5, x6, x7, x8, x9, x10, x11, x12, x13, x14, x15, x16, x17, x18, x19, x20] gs σ H := S
    have esum : [(n1 : Int), (n2 : Int)].sum = ((n1 + n2 : Nat) : Int) := by simp
    -- marks, total
    refine s_parX S (exa_cons (ex_callE (⟨t, m + 4, n1 + n2⟩ : TA) (fun _ _ h => h) (ea_cons (ev_var rfl) (ea_cons (ev_sum (Ev.rd (ev_var rfl))) ea_nil)) ⟨rfl, by rw [esum], by show n1 + n2 ≤ 60; omega, by show m + 4 + 100 ≤ 1000000000; omega⟩) (exa_cons (Ev.im (ev_sum (Ev.rd (ev_var rfl)))) exa_nil)) (by
        rintro _ ⟨_, _, _, ⟨_, _, _, rfl, rfl⟩, rfl⟩
        rfl) fun d4 d5 σ H hd S => ?_
    obtain ⟨_, _, hd4, ⟨_, _, hd5, rfl, rfl⟩, e⟩ := hd
    cases e
    obtain ⟨ms, rfl, hml, hmk⟩ := hd4
    subst hd5
    rw [esum] at S
    have hml : ms.length = n1 + n2 := hml
    have S : State K F0 h0 H1 (Iv.tape t (m + 4 + 5 + (n1 + n2))) [Sl.un, Sl.val (.raw (.ref t)), Sl.val d, Sl.val (.lst (dI [(n1 : Int), (n2 : Int)])), Sl.val (.lst (dI ms)), Sl.val (.int ((n1 + n2 : Nat) : Int)), x6, x7, x8, x9, x10, x11, x12, x13, x14, x15, x16, x17, x18, x19, x20] gs σ H := S
    -- cap
    refine s_setX S (ex_pickA (A := PI fun z => 1 ≤ z ∧ z ≤ 61) (m := m + 4 + 5 + (n1 + n2) + 2) (by omega) (ev_var rfl)
      (al_cons (ev_int.pi (by decide)) (al_cons (ev_int.pi (by decide)) (al_cons (ev_int.pi (by decide)) (al_cons ((ev_var rfl).pi (by omega)) (al_cons ((ex_plus ev_int (ea_cons (ev_var rfl) (ea_cons (ev_var rfl) ea_nil)) (by omega) (by omega) (by omega)).pi fun i h => by omega)
        (al_cons ((ex_plus ev_int (ea_cons (ev_var rfl) (ea_cons ev_int ea_nil)) (by decide) (by decide) (by omega)).pi fun i h => by omega) al_nil)))))) (by decide) (by decide)) fun d6 σ H hd S => ?_
    obtain ⟨capi, rfl, hc1, hc2⟩ := hd
    obtain ⟨cap, rfl⟩ := Int.eq_ofNat_of_zero_le (show 0 ≤ capi by omega)
    have S : State K F0 h0 H1 (Iv.tape t (m + 4 + 5 + (n1 + n2) + 3)) [Sl.un, Sl.val (.raw (.ref t)), Sl.val d, Sl.val (.lst (dI [(n1 : Int), (n2 : Int)])), Sl.val (.lst (dI ms)), Sl.val (.int ((n1 + n2 : Nat) : Int)), Sl.val (.int (cap : Nat)), x7, x8, x9, x10, x11, x12, x13, x14, x15, x16, x17, x18, x19, x20] gs σ H := S
    -- ones, others
    refine s_par S (eas_val (ev_tupleZ (Ev.rd (en_slL (Ev.rd (ev_var rfl)) eo_none (eo_some (ev_ixL (Ev.rd (ev_var rfl)) ev_int rfl))).ev)) (eas_val (ev_tupleZ (Ev.rd (en_slL (Ev.rd (ev_var rfl)) (eo_some (ev_ixL (Ev.rd (ev_var rfl)) ev_int rfl)) eo_none).ev)) eas_nil)) (by show 7 < 21; decide) (by show 8 < 21; decide) fun σ H S => ?_
    have c1e : Lw.cutD (dI ms) none (some (n1 : Int)) = dI (ms.take n1) := by rw [cutD_to, ← List.map_take]
    have c2e : Lw.cutD (dI ms) (some (n1 : Int)) none = dI (ms.drop n1) := by rw [cutD_from, ← List.map_drop]
    rw [c1e, c2e] at S
    have S : State K F0 h0 H1 (Iv.tape t (m + 4 + 5 + (n1 + n2) + 3)) [Sl.un, Sl.val (.raw (.ref t)), Sl.val d, Sl.val (.lst (dI [(n1 : Int), (n2 : Int)])), Sl.val (.lst (dI ms)), Sl.val (.int ((n1 + n2 : Nat) : Int)), Sl.val (.int (cap : Nat)), Sl.val (.tupZ (dI (ms.take n1))), Sl.val (.tupZ (dI (ms.drop n1))), x9, x10, x11, x12, x13, x14, x15, x16, x17, x18, x19, x20] gs σ H := S
    -- the knot
    have lt1 : (ms.take n1).length = n1 := by rw [List.length_take]; omega
    have ld1 : (ms.drop n1).length = n2 := by rw [List.length_drop]; omega
    have e9 : (10 : Int) ^ (9 : Int).toNat + 1 = 1000000001 := by decide
    refine s_asg S (ev_call (d := knD (ms.take n1) (ms.drop n1) (knot (ms.take n1) (ms.drop n1) cap 1000000001)) (ea_cons (Ev.wk (ev_var rfl)) (ea_cons (Ev.wk (ev_var rfl)) (ea_cons (ev_var rfl) (ea_cons ((ev_ii (ev_iiC ev_int ev_int ⟨by decide, by decide, by decide⟩) ev_int).to (congrArg D.int e9)) ea_nil)))) rfl
      ⟨ms.take n1, ms.drop n1, cap, 1000000001, rfl, by rw [lt1]; omega, by rw [ld1]; omega, by omega, rfl⟩) (tg_tup rfl (tgs_cons tg_name (tgs_cons tg_name (tgs_cons tg_name (tgs_cons tg_name tgs_nil))))) fun σ H S => ?_
    have hlaw : ∀ c1 c2, c1 ≤ n1 → c2 ≤ n2 → _ := fun c1 c2 q1 q2 => law_one (cap := cap) hmk (n1 := n1) (c1 := c1) (c2 := c2) (by omega) (by omega) (by omega) q1 (by omega)
    obtain ⟨hlen, hwf, hfirst, _, _⟩ := hlaw 0 0 (Nat.zero_le _) (Nat.zero_le _)
    have hgrow := mrg_grow 4 (s0 1000000001) (ms.take n1) (ms.drop n1) cap (by omega)
    have hgn : (knot (ms.take n1) (ms.drop n1) cap 1000000001).1.named.length ≤ 2000 := by have := hgrow.named; simp [s0] at this; exact Nat.le_trans this (by decide)
    have hgm : (knot (ms.take n1) (ms.drop n1) cap 1000000001).1.made.length ≤ 3000 := by have := hgrow.made; simp [s0] at this; exact Nat.le_trans this (by decide)
    generalize knot (ms.take n1) (ms.drop n1) cap 1000000001 = r at *
    obtain ⟨s1, outs⟩ := r
    simp only at hlen hwf hfirst hgn hgm hlaw
    have S : State K F0 h0 H1 (Iv.tape t (m + 4 + 5 + (n1 + n2) + 3)) [Sl.un, Sl.val (.raw (.ref t)), Sl.val d, Sl.val (.lst (dI [(n1 : Int), (n2 : Int)])), Sl.val (.lst (dI ms)), Sl.val (.int ((n1 + n2 : Nat) : Int)), Sl.val (.int (cap : Nat)), Sl.val (.tupZ (dI (ms.take n1))), Sl.val (.tupZ (dI (ms.drop n1))),
      Sl.val (.tup [.tup (dI (ms.take n1)), .tup (dI (ms.drop n1))]), Sl.val (.tupZ (s1.named.map nmD)), Sl.val (.tupZ (s1.made.map clD)), Sl.val (.tupZ (dI outs)), x13, x14, x15, x16, x17, x18, x19, x20] gs σ H := S
    have hrise := names_rise hwf
    have hpairs : s1.named.map nmD = (s1.named.map fun p => (p.1, meanD p.2)).map prD := by rw [List.map_map]; rfl
    have hfst : (s1.named.map fun p => (p.1, meanD p.2)).map (·.1) = s1.named.map (·.1) := by rw [List.map_map]; rfl
    have hnm : (s1.named.map fun p => D.int p.1) = dI (s1.named.map (·.1)) := by
      show _ = List.map _ (List.map _ _)
      rw [List.map_map]
      rfl
    -- what is told of rows, outs, names
    refine s_if S (et_or (et_test (ev_neSame (n := 2) (ev_var rfl) (ev_tup (ea_cons (Ev.wk (ev_var rfl)) (ea_cons (Ev.wk (ev_var rfl)) ea_nil)) (by show 2 ≤ sizeLine; omega)) (.tup (.cons (.tup (pyI _)) (.cons (.tup (pyI _)) .nil))) (.tup (.cons (.tup (pyI _)) (.cons (.tup (pyI _)) .nil))) (shp_tuple (shpAll_cons (shp_tuple shpI) (shpAll_cons (shp_tuple shpI) shpAll_nil)))))
      fun _ => et_or (et_test (ev_neI (ev_lenT (Ev.wk (ev_var rfl))) (ev_min2 (ev_var rfl) (ev_var rfl)))) fun _ => et_test (ev_neSame (n := 1) (e := .list ((s1.named.map (·.1)).map PyData.int))
        ((en_map (xs := s1.named) (enc := nmD) (fun p => .int p.1) (ei_tup (Ev.wk (ev_var rfl))) (by omega) (by simp) (fun p _ => ev_ixT (ev_var rfl) ev_int rfl)).ev.to (congrArg D.lst hnm))
        ((en_sortedD (Ev.rd (en_dictZ (ps := s1.named.map fun p => (p.1, meanD p.2)) ((ev_var rfl).to (congrArg D.tupZ hpairs)) (by rw [hfst]; exact hrise.imp fun h => Int.ne_of_lt h)).ev) (by rw [hfst]; exact hrise.imp fun h => Int.le_of_lt h)).ev.to (congrArg (fun l => D.lst (dI l)) hfst))
        (.lst (pyI _)) (.lst (pyI _)) (shp_list shpI))) (fun hb H S => ?_) (fun hb H S => ?_)
    · exfalso
      rw [List.length_map, hlen, hml] at hb
      have : (((min cap (n1 + n2) : Nat)) : Int) = min ((cap : Nat) : Int) ((n1 + n2 : Nat) : Int) := by omega
      rw [this] at hb
      simp at hb
    -- all counts
    refine s_for S (ei_list (en_map (xs := List.range ((n1 + 1) * (n2 + 1))) (enc := fun k => .int (0 + (k : Int))) (fun k => .tup (dI [(0 + (k : Int)) % ((n1 : Int) + 1), (0 + (k : Int)) / ((n1 : Int) + 1)])) ((ei_rng1 (ea_cons (ev_iiC (ev_ii (ev_ixL (Ev.rd (ev_var rfl)) ev_int rfl) ev_int) (ev_ii (ev_ixL (Ev.rd (ev_var rfl)) ev_int rfl) ev_int) (.inl ⟨by omega, by omega⟩)) ea_nil) (by
        have q1 : ((n1 : Int) + 1) * ((n2 : Int) + 1) = (((n1 + 1) * (n2 + 1) : Nat) : Int) := by push_cast; rfl
        have q2 : (n1 + 1) * (n2 + 1) ≤ 13 * 13 := Nat.mul_le_mul (by omega) (by omega)
        omega)).to (by
        have q1 : ((n1 : Int) + 1) * ((n2 : Int) + 1) = (((n1 + 1) * (n2 + 1) : Nat) : Int) := by push_cast; rfl
        unfold rngD
        rw [q1, Int.toNat_natCast])) (by
        have q2 : (n1 + 1) * (n2 + 1) ≤ 13 * 13 := Nat.mul_le_mul (by omega) (by omega)
        rw [List.length_range]; omega) (by simp) (fun k hk => ?_)).ev) (fun k env I => ∃ y13 y14 y15 y16 : Sl, env = [Sl.un, Sl.val (.raw (.ref t)), Sl.val d, Sl.val (.lst (dI [(n1 : Int), (n2 : Int)])), Sl.val (.lst (dI ms)), Sl.val (.int ((n1 + n2 : Nat) : Int)), Sl.val (.int (cap : Nat)), Sl.val (.tupZ (dI (ms.take n1))), Sl.val (.tupZ (dI (ms.drop n1))),
      Sl.val (.tup [.tup (dI (ms.take n1)), .tup (dI (ms.drop n1))]), Sl.val (.tupZ (s1.named.map nmD)), Sl.val (.tupZ (s1.made.map clD)), Sl.val (.tupZ (dI outs)), y13, y14, y15, y16, x17, x18, x19, x20] ∧ I = Iv.tape t (m + 4 + 5 + (n1 + n2) + 3)) ⟨_, _, _, _, rfl, rfl⟩ ?_ ?_
    · exact ev_tup (ea_cons (ev_iiC (ev_var rfl) (ev_ii (ev_ixL (Ev.rd (ev_var rfl)) ev_int rfl) ev_int) (by show (0 : Int) < (n1 : Int) + 1; omega)) (ea_cons (ev_iiC (ev_var rfl) (ev_ii (ev_ixL (Ev.rd (ev_var rfl)) ev_int rfl) ev_int) (divW_ok (by omega) (by omega))) ea_nil)) (by show 2 ≤ sizeLine; omega)
    · rintro k d' env I hd' ⟨y13, y14, y15, y16, rfl, rfl⟩
      obtain ⟨hk, rfl⟩ : k < (n1 + 1) * (n2 + 1) ∧ d' = .tup (dI [(0 + (k : Int)) % ((n1 : Int) + 1), (0 + (k : Int)) / ((n1 : Int) + 1)]) := by
        have hl := (List.getElem?_eq_some_iff.mp hd').1
        rw [List.length_map, List.length_range] at hl
        rw [List.getElem?_map, List.getElem?_range hl] at hd'
        exact ⟨hl, (Option.some.inj hd').symm⟩
      obtain ⟨c1, ec1⟩ : ∃ c1 : Nat, c1 = k % (n1 + 1) := ⟨_, rfl⟩
      obtain ⟨c2, ec2⟩ : ∃ c2 : Nat, c2 = k / (n1 + 1) := ⟨_, rfl⟩
      have hc1' : c1 ≤ n1 := by have := Nat.mod_lt k (show 0 < n1 + 1 by omega); omega
      have hc2' : c2 ≤ n2 := by
        have : k / (n1 + 1) < n2 + 1 := Nat.div_lt_of_lt_mul hk
        omega
      have e1 : (0 + (k : Int)) % ((n1 : Int) + 1) = (c1 : Int) := by rw [ec1, Int.zero_add]; simp
      have e2 : (0 + (k : Int)) / ((n1 : Int) + 1) = (c2 : Int) := by rw [ec2, Int.zero_add]; simp
      rw [e1, e2]
      obtain ⟨_, _, _, hheld, houts⟩ := hlaw c1 c2 hc1' hc2'
      refine ⟨_, tg_name, fun gs σ H S => ?_⟩
      -- some
      refine s_set S (en_cat (Ev.rd (en_slL (Ev.rd (ev_var (d := .lst (dI ms)) rfl)) eo_none (eo_some (ev_ixT (ev_var rfl) ev_int rfl))).ev) (Ev.rd (en_slL (Ev.rd (ev_var (d := .lst (dI ms)) rfl)) (eo_some (ev_ixL (Ev.rd (ev_var rfl)) ev_int rfl)) (eo_some (ev_ii (ev_ixL (Ev.rd (ev_var rfl)) ev_int rfl) (ev_ixT (ev_var rfl) ev_int rfl)))).ev) ?_).ev fun σ H S => ?_
      · have b1 : ∀ lo hi, (Lw.cutD (dI ms) lo hi).length ≤ ms.length := fun lo hi => by
          unfold Lw.cutD
          rw [List.length_take, List.length_drop, List.length_map]
          omega
        have b2 := b1 none (some (c1 : Int))
        have b3 := b1 (some (n1 : Int)) (some ((n1 : Int) + (c2 : Int)))
        omega
      have es : Lw.cutD (dI ms) none (some (c1 : Int)) ++ Lw.cutD (dI ms) (some (n1 : Int)) (some ((n1 : Int) + (c2 : Int))) = dI (someOf ms n1 c1 c2) := by
        rw [show (n1 : Int) + (c2 : Int) = ((n1 + c2 : Nat) : Int) by omega, cutD_to, cutD_nat, show n1 + c2 - n1 = c2 by omega]
        unfold someOf
        show _ = List.map D.int (_ ++ _)
        rw [List.map_append, List.map_take, List.map_take, List.map_drop]
      rw [es] at S
      have S : State K F0 h0 H1 (Iv.tape t (m + 4 + 5 + (n1 + n2) + 3)) [Sl.un, Sl.val (.raw (.ref t)), Sl.val d, Sl.val (.lst (dI [(n1 : Int), (n2 : Int)])), Sl.val (.lst (dI ms)), Sl.val (.int ((n1 + n2 : Nat) : Int)), Sl.val (.int (cap : Nat)), Sl.val (.tupZ (dI (ms.take n1))), Sl.val (.tupZ (dI (ms.drop n1))),
        Sl.val (.tup [.tup (dI (ms.take n1)), .tup (dI (ms.drop n1))]), Sl.val (.tupZ (s1.named.map nmD)), Sl.val (.tupZ (s1.made.map clD)), Sl.val (.tupZ (dI outs)), Sl.val (.tup (dI [(c1 : Int), (c2 : Int)])), Sl.val (.lst (dI (someOf ms n1 c1 c2))), y15, y16, x17, x18, x19, x20] gs σ H := S
      -- on
      have hon : ((ms.filter fun m => decide (m ∈ someOf ms n1 c1 c2) == decide (0 < m)).map fun m => D.int ((m.natAbs : Nat) : Int)) = dI (on0Of ms n1 c1 c2) := by
        unfold on0Of
        show _ = List.map _ (List.map _ _)
        rw [List.map_map]
        rfl
      have hol : (on0Of ms n1 c1 c2).length ≤ 24 := by
        unfold on0Of
        rw [List.length_map]
        have := List.length_filter_le (fun m => decide (m ∈ someOf ms n1 c1 c2) == decide (0 < m)) ms
        omega
      refine s_set S (ev_call (d := .dct (onK (onOf (on0Of ms n1 c1 c2) s1.named))) (ea_cons (Ev.wk (ev_var rfl)) (ea_cons ((en_lcn (xs := ms) (enc := D.int) (fun m => decide (m ∈ someOf ms n1 c1 c2) == decide (0 < m)) (fun m => .int ((m.natAbs : Nat) : Int)) (ei_list (ev_var rfl)) (by omega) (by simp) (fun m hm => et_test (ev_eqS (ev_inL (ev_var rfl) (Ev.rd (ev_var rfl))) (ev_ib (ev_var rfl) ev_int) rfl rfl rfl (by
          cases decide (m ∈ someOf ms n1 c1 c2) <;> cases decide ((0 : Int) < m) <;> rfl))) (fun m hm _ => ev_abs (ev_var rfl))).ev.to (congrArg D.lst hon)) ea_nil)) rfl
        ⟨s1.named, on0Of ms n1 c1 c2, rfl, by omega, by omega, hwf.sml, rfl⟩) fun σ H S => ?_
      generalize hO : onOf (on0Of ms n1 c1 c2) s1.named = on at hheld houts S
      have S : State K F0 h0 H1 (Iv.tape t (m + 4 + 5 + (n1 + n2) + 3)) [Sl.un, Sl.val (.raw (.ref t)), Sl.val d, Sl.val (.lst (dI [(n1 : Int), (n2 : Int)])), Sl.val (.lst (dI ms)), Sl.val (.int ((n1 + n2 : Nat) : Int)), Sl.val (.int (cap : Nat)), Sl.val (.tupZ (dI (ms.take n1))), Sl.val (.tupZ (dI (ms.drop n1))),
        Sl.val (.tup [.tup (dI (ms.take n1)), .tup (dI (ms.drop n1))]), Sl.val (.tupZ (s1.named.map nmD)), Sl.val (.tupZ (s1.made.map clD)), Sl.val (.tupZ (dI outs)), Sl.val (.tup (dI [(c1 : Int), (c2 : Int)])), Sl.val (.lst (dI (someOf ms n1 c1 c2))), Sl.val (.dct (onK on)), y16, x17, x18, x19, x20] gs σ H := S
      -- due
      have hol2 : outs.length ≤ 24 := by omega
      refine s_set S ((en_map (xs := List.range outs.length) (enc := fun k => .int (0 + (k : Int))) (fun k => .bl (decide (k < c1 + c2))) ((ei_rng1 (ea_cons ((ev_lenT (Ev.wk (ev_var rfl))).to (show D.int (((dI outs).length : Nat) : Int) = .int ((outs.length : Nat) : Int) by rw [List.length_map])) ea_nil) (by omega)).to (by unfold rngD; rw [Int.toNat_natCast])) (by rw [List.length_range]; omega) (by simp) (fun k _ =>
        (ev_ib (ev_var rfl) (ev_sumT (ev_var rfl))).to (congrArg D.bl (decide_eq_decide.mpr (by
          have : [(c1 : Int), (c2 : Int)].sum = (c1 : Int) + (c2 : Int) := by simp
          rw [this]
          omega))))).ev.to (show D.lst ((List.range outs.length).map fun k => D.bl (decide (k < c1 + c2))) = .lst (outs.map fun m => .bl (tv (memB on) m)) from congrArg D.lst (by
          have := congrArg (List.map D.bl) houts
          rw [List.map_map, List.map_map] at this
          exact this.symm))) fun σ H S => ?_
      have S : State K F0 h0 H1 (Iv.tape t (m + 4 + 5 + (n1 + n2) + 3)) [Sl.un, Sl.val (.raw (.ref t)), Sl.val d, Sl.val (.lst (dI [(n1 : Int), (n2 : Int)])), Sl.val (.lst (dI ms)), Sl.val (.int ((n1 + n2 : Nat) : Int)), Sl.val (.int (cap : Nat)), Sl.val (.tupZ (dI (ms.take n1))), Sl.val (.tupZ (dI (ms.drop n1))),
        Sl.val (.tup [.tup (dI (ms.take n1)), .tup (dI (ms.drop n1))]), Sl.val (.tupZ (s1.named.map nmD)), Sl.val (.tupZ (s1.made.map clD)), Sl.val (.tupZ (dI outs)), Sl.val (.tup (dI [(c1 : Int), (c2 : Int)])), Sl.val (.lst (dI (someOf ms n1 c1 c2))), Sl.val (.dct (onK on)), Sl.val (.lst (outs.map fun m => .bl (tv (memB on) m))), x17, x18, x19, x20] gs σ H := S
      -- what is held, and the outs
      refine s_if S (et_or (et_not (et_B (ev_call (d := .bl true) (ea_cons (Ev.wk (ev_var rfl)) (ea_cons (ev_var rfl) ea_nil)) rfl ⟨s1.made, on, rfl, by omega, hwf.sml2, by rw [hheld]⟩))) fun _ => et_test (ev_neSame (n := 1) (e := .list (outs.map fun m => .bool (tv (memB on) m)))
        (en_map (xs := outs) (enc := D.int) (fun m => .bl (tv (memB on) m)) (ei_tup (Ev.wk (ev_var rfl))) (by omega) (by simp) (fun m _ => ev_iso (Ev.rd (ev_var rfl)) (ev_var rfl))).ev (ev_var rfl) (.lst (PyAll.map fun m _ => .bl _)) (.lst (PyAll.map fun m _ => .bl _)) (shp_list (shpAll_map fun m _ => shp_bool)))) (fun hb H S => ?_) (fun hb H S => ?_)
      · cases hb
      · exact ⟨_, _, ⟨_, _, _, _, rfl, rfl⟩, S⟩
    · rintro env I σ H ⟨y13, y14, y15, y16, rfl, rfl⟩ S
      exact ⟨_, _, ⟨_, _, rfl, rfl, by omega, rfl⟩, S⟩
  · rintro env I σ H ⟨rest, m, hrl, rfl, hm, rfl⟩ S
    show tRet (tC (.bl true)) { nx := fun _ H' => Q .non H', rt := Q } σ H
    refine s_ret S (ev_bl (i := true)) ?_
    intro v F h H _ _ r
    rw [r.bl_eq]
    exact kQ H
end
end K21
namespace K21
open PySem PySem.Spec PyProof.Rows L2 Lw
theorem never {P : Program} {w : World} {K : PySem.W.Frag} {mg : Str → Option Value} {base : Heap} {fM : Addr} {fd : FuncData} (F : Fun K "merged" "Merging.merged" s_Merging_merged fM fd) : FnOk P w K mg base L2.CX0 2 fM fd ["self", "ones", "others", "cap"] (fun _ _ _ _ => False) :=
  F.ok sc_Merging_merged (fun vs H Q E h => h.elim) (fun cdv A outer s H vs Q E hr h => h.elim)
theorem all_mk {l : PySem.W.OpenLaw} {w : World} {K : PySem.W.Frag} {h : Heap} {mg : Str → Option Value} {fa C0 f0 f1 f2 f3 f4 f5 f6 f7 f8 f9 f10 f11 f12 : Addr} (X : K.In h) (G : h.Ns mainGlobals mg) (hfa : mg "law" = some (.ref fa))
    {od0 an0 od1 an1 od2 an2 od3 an3 od4 an4 od5 an5 od6 an6 od7 an7 od8 an8 od9 an9 od10 an10 od11 an11 od12 an12 : Option Addr} {sl0 sl1 sl2 sl3 sl4 sl5 sl6 sl7 sl8 sl9 sl10 sl11 sl12 : Array (Option Value)} {oc0 kV0 dc0 pm0 cd0 ct0 oc1 kV1 dc1 pm1 cd1 ct1 oc2 kV2 dc2 pm2 cd2 ct2 oc3 kV3 dc3 pm3 cd3 ct3 oc4 kV4 dc4 pm4 cd4 ct4 oc5 kV5 dc5 pm5 cd5 ct5 oc6 kV6 dc6 pm6 cd6 ct6 oc7 kV7 dc7 pm7 cd7 ct7 oc8 kV8 dc8 pm8 cd8 ct8 oc9 kV9 dc9 pm9 cd9 ct9 oc10 kV10 dc10 pm10 cd10 ct10 oc11 kV11 dc11 pm11 cd11 ct11 oc12 kV12 dc12 pm12 cd12 ct12 : Value}
    (aC0 : PySem.W.nsIn K mainGlobals "Merging" = some (some (.ref C0)))
    (a0 : PySem.W.findIn K (.ref C0) "__init__" = some (some (.ref f0)))
    (i0 : PySem.W.isFn K (.ref f0) = true)
    (l0 : K.lookup f0 = some ⟨oc0, od0, .func (PySem.W.fnOf "__init__" "Merging.__init__" (defArgs s_Merging___init__) (defBody s_Merging___init__) (defScope s_Merging___init__) .none kV0 dc0 pm0 an0 cd0 ct0), sl0⟩)
    (c0 : PySem.W.codeIn K cd0 "Merging.__init__" = true)
    (k0 : PySem.W.keepIn K (.ref f0) = true)
    (a1 : PySem.W.findIn K (.ref C0) "fresh_name" = some (some (.ref f1)))
    (i1 : PySem.W.isFn K (.ref f1) = true)
    (l1 : K.lookup f1 = some ⟨oc1, od1, .func (PySem.W.fnOf "fresh_name" "Merging.fresh_name" (defArgs s_Merging_fresh_name) (defBody s_Merging_fresh_name) (defScope s_Merging_fresh_name) .none kV1 dc1 pm1 an1 cd1 ct1), sl1⟩)
    (c1 : PySem.W.codeIn K cd1 "Merging.fresh_name" = true)
    (k1 : PySem.W.keepIn K (.ref f1) = true)
    (a2 : PySem.W.findIn K (.ref C0) "compared" = some (some (.ref f2)))
    (i2 : PySem.W.isFn K (.ref f2) = true)
    (l2 : K.lookup f2 = some ⟨oc2, od2, .func (PySem.W.fnOf "compared" "Merging.compared" (defArgs s_Merging_compared) (defBody s_Merging_compared) (defScope s_Merging_compared) .none kV2 dc2 pm2 an2 cd2 ct2), sl2⟩)
    (c2 : PySem.W.codeIn K cd2 "Merging.compared" = true)
    (k2 : PySem.W.keepIn K (.ref f2) = true)
    (a3 : PySem.W.findIn K (.ref C0) "merged" = some (some (.ref f3)))
    (i3 : PySem.W.isFn K (.ref f3) = true)
    (l3 : K.lookup f3 = some ⟨oc3, od3, .func (PySem.W.fnOf "merged" "Merging.merged" (defArgs s_Merging_merged) (defBody s_Merging_merged) (defScope s_Merging_merged) .none kV3 dc3 pm3 an3 cd3 ct3), sl3⟩)
    (c3 : PySem.W.codeIn K cd3 "Merging.merged" = true)
    (k3 : PySem.W.keepIn K (.ref f3) = true)
    (a4 : PySem.W.nsIn K mainGlobals "net_knot" = some (some (.ref f4)))
    (l4 : K.lookup f4 = some ⟨oc4, od4, .func (PySem.W.fnOf "net_knot" "net_knot" (defArgs s_net_knot) (defBody s_net_knot) (defScope s_net_knot) .none kV4 dc4 pm4 an4 cd4 ct4), sl4⟩)
    (c4 : PySem.W.codeIn K cd4 "net_knot" = true)
    (k4 : PySem.W.keepIn K (.ref f4) = true)
    (a5 : PySem.W.nsIn K mainGlobals "_law_begun" = some (some (.ref f5)))
    (l5 : K.lookup f5 = some ⟨oc5, od5, .func (PySem.W.fnOf "_law_begun" "_law_begun" (defArgs s__law_begun) (defBody s__law_begun) (defScope s__law_begun) .none kV5 dc5 pm5 an5 cd5 ct5), sl5⟩)
    (c5 : PySem.W.codeIn K cd5 "_law_begun" = true)
    (k5 : PySem.W.keepIn K (.ref f5) = true)
    (a6 : PySem.W.nsIn K mainGlobals "_law_draw" = some (some (.ref f6)))
    (l6 : K.lookup f6 = some ⟨oc6, od6, .func (PySem.W.fnOf "_law_draw" "_law_draw" (defArgs s__law_draw) (defBody s__law_draw) (defScope s__law_draw) .none kV6 dc6 pm6 an6 cd6 ct6), sl6⟩)
    (c6 : PySem.W.codeIn K cd6 "_law_draw" = true)
    (k6 : PySem.W.keepIn K (.ref f6) = true)
    (a7 : PySem.W.nsIn K mainGlobals "_law_pick" = some (some (.ref f7)))
    (l7 : K.lookup f7 = some ⟨oc7, od7, .func (PySem.W.fnOf "_law_pick" "_law_pick" (defArgs s__law_pick) (defBody s__law_pick) (defScope s__law_pick) .none kV7 dc7 pm7 an7 cd7 ct7), sl7⟩)
    (c7 : PySem.W.codeIn K cd7 "_law_pick" = true)
    (k7 : PySem.W.keepIn K (.ref f7) = true)
    (a8 : PySem.W.nsIn K mainGlobals "_law_marks" = some (some (.ref f8)))
    (l8 : K.lookup f8 = some ⟨oc8, od8, .func (PySem.W.fnOf "_law_marks" "_law_marks" (defArgs s__law_marks) (defBody s__law_marks) (defScope s__law_marks) .none kV8 dc8 pm8 an8 cd8 ct8), sl8⟩)
    (c8 : PySem.W.codeIn K cd8 "_law_marks" = true)
    (k8 : PySem.W.keepIn K (.ref f8) = true)
    (a9 : PySem.W.nsIn K mainGlobals "_law_is_so" = some (some (.ref f9)))
    (l9 : K.lookup f9 = some ⟨oc9, od9, .func (PySem.W.fnOf "_law_is_so" "_law_is_so" (defArgs s__law_is_so) (defBody s__law_is_so) (defScope s__law_is_so) .none kV9 dc9 pm9 an9 cd9 ct9), sl9⟩)
    (c9 : PySem.W.codeIn K cd9 "_law_is_so" = true)
    (k9 : PySem.W.keepIn K (.ref f9) = true)
    (a10 : PySem.W.nsIn K mainGlobals "_law_named" = some (some (.ref f10)))
    (l10 : K.lookup f10 = some ⟨oc10, od10, .func (PySem.W.fnOf "_law_named" "_law_named" (defArgs s__law_named) (defBody s__law_named) (defScope s__law_named) .none kV10 dc10 pm10 an10 cd10 ct10), sl10⟩)
    (c10 : PySem.W.codeIn K cd10 "_law_named" = true)
    (k10 : PySem.W.keepIn K (.ref f10) = true)
    (a11 : PySem.W.nsIn K mainGlobals "_law_is_held" = some (some (.ref f11)))
    (l11 : K.lookup f11 = some ⟨oc11, od11, .func (PySem.W.fnOf "_law_is_held" "_law_is_held" (defArgs s__law_is_held) (defBody s__law_is_held) (defScope s__law_is_held) .none kV11 dc11 pm11 an11 cd11 ct11), sl11⟩)
    (c11 : PySem.W.codeIn K cd11 "_law_is_held" = true)
    (k11 : PySem.W.keepIn K (.ref f11) = true)
    (a12 : PySem.W.nsIn K mainGlobals "law" = some (some (.ref f12)))
    (l12 : K.lookup f12 = some ⟨oc12, od12, .func (PySem.W.fnOf "law" "law" (defArgs s_law) (defBody s_law) (defScope s_law) .none kV12 dc12 pm12 an12 cd12 ct12), sl12⟩)
    (c12 : PySem.W.codeIn K cd12 "law" = true)
    (k12 : PySem.W.keepIn K (.ref f12) = true)
    (pg0 : PySem.W.plainGet K C0 Str.empty = true)
    (hd0 : PySem.W.hasDictIn K C0 = true)
    (po0 : PySem.W.plainOver K C0 = true)
    (sa0 : PySem.W.findIn K (.ref C0) "__setattr__" = some (some (.builtin "object.__setattr__")))
    (mk0 : PySem.W.makesIn K C0 = true)
    (kc0 : PySem.W.keepIn K (.ref C0) = true)
    (n0_first : PySem.W.findIn K (.ref C0) "first" = some none)
    (n0_named : PySem.W.findIn K (.ref C0) "named" = some none)
    (n0_made : PySem.W.findIn K (.ref C0) "made" = some none)
    (z_len : PySem.W.nsIn K mainGlobals "len" = some none)
    (z_list : PySem.W.nsIn K mainGlobals "list" = some none)
    (z_tuple : PySem.W.nsIn K mainGlobals "tuple" = some none)
    (z_range : PySem.W.nsIn K mainGlobals "range" = some none)
    (z_abs : PySem.W.nsIn K mainGlobals "abs" = some none)
    (z_dict : PySem.W.nsIn K mainGlobals "dict" = some none)
    (z_sum : PySem.W.nsIn K mainGlobals "sum" = some none)
    (z_min : PySem.W.nsIn K mainGlobals "min" = some none)
    (z_sorted : PySem.W.nsIn K mainGlobals "sorted" = some none)
    : ∃ fd : FuncData, (∀ (s : Shared) (v : Value), BindsTo s fd ⟨[v], []⟩ [("_law_script", v)]) ∧ ∀ base : Heap, K.In base → base.Ns mainGlobals mg → FnOk l.prog w K mg base L2.CX0 9 fa fd ["_law_script"] (spLaw K) := by
  have e := hfa.symm.trans (PySem.W.mg_of X G a12)
  cases e
  have F_Merging___init__ := fun_mk (st := s_Merging___init__) l0 c0 k0
  have B_Merging___init__ := F_Merging___init__.binds (ps := ["self", "first"]) fun _ _ _ _ _ _ us hl => match us, hl with | [_, _], _ => rfl
  have M_Merging___init__ : Meth K C0 "__init__" f0 := ⟨a0, i0, k0⟩
  have F_Merging_fresh_name := fun_mk (st := s_Merging_fresh_name) l1 c1 k1
  have B_Merging_fresh_name := F_Merging_fresh_name.binds (ps := ["self", "meaning"]) fun _ _ _ _ _ _ us hl => match us, hl with | [_, _], _ => rfl
  have M_Merging_fresh_name : Meth K C0 "fresh_name" f1 := ⟨a1, i1, k1⟩
  have F_Merging_compared := fun_mk (st := s_Merging_compared) l2 c2 k2
  have B_Merging_compared := F_Merging_compared.binds (ps := ["self", "one", "other", "is_both"]) fun _ _ _ _ _ _ us hl => match us, hl with | [_, _, _, _], _ => rfl
  have M_Merging_compared : Meth K C0 "compared" f2 := ⟨a2, i2, k2⟩
  have F_Merging_merged := fun_mk (st := s_Merging_merged) l3 c3 k3
  have B_Merging_merged := F_Merging_merged.binds (ps := ["self", "ones", "others", "cap"]) fun _ _ _ _ _ _ us hl => match us, hl with | [_, _, _, _], _ => rfl
  have M_Merging_merged : Meth K C0 "merged" f3 := ⟨a3, i3, k3⟩
  have F_net_knot := fun_mk (st := s_net_knot) l4 c4 k4
  have B_net_knot := F_net_knot.binds (ps := ["one", "other", "cap", "first"]) fun _ _ _ _ _ _ us hl => match us, hl with | [_, _, _, _], _ => rfl
  have g_net_knot := PySem.W.mg_of X G a4
  have F__law_begun := fun_mk (st := s__law_begun) l5 c5 k5
  have B__law_begun := F__law_begun.binds (ps := ["_law_script"]) fun _ _ _ _ _ _ us hl => match us, hl with | [_], _ => rfl
  have g__law_begun := PySem.W.mg_of X G a5
  have F__law_draw := fun_mk (st := s__law_draw) l6 c6 k6
  have B__law_draw := F__law_draw.binds (ps := ["_law_tape", "_law_many"]) fun _ _ _ _ _ _ us hl => match us, hl with | [_, _], _ => rfl
  have g__law_draw := PySem.W.mg_of X G a6
  have F__law_pick := fun_mk (st := s__law_pick) l7 c7 k7
  have B__law_pick := F__law_pick.binds (ps := ["_law_tape", "_law_some"]) fun _ _ _ _ _ _ us hl => match us, hl with | [_, _], _ => rfl
  have g__law_pick := PySem.W.mg_of X G a7
  have F__law_marks := fun_mk (st := s__law_marks) l8 c8 k8
  have B__law_marks := F__law_marks.binds (ps := ["_law_tape", "_law_many"]) fun _ _ _ _ _ _ us hl => match us, hl with | [_, _], _ => rfl
  have g__law_marks := PySem.W.mg_of X G a8
  have F__law_is_so := fun_mk (st := s__law_is_so) l9 c9 k9
  have B__law_is_so := F__law_is_so.binds (ps := ["_law_on", "_law_mark"]) fun _ _ _ _ _ _ us hl => match us, hl with | [_, _], _ => rfl
  have g__law_is_so := PySem.W.mg_of X G a9
  have F__law_named := fun_mk (st := s__law_named) l10 c10 k10
  have B__law_named := F__law_named.binds (ps := ["_law_names", "_law_on"]) fun _ _ _ _ _ _ us hl => match us, hl with | [_, _], _ => rfl
  have g__law_named := PySem.W.mg_of X G a10
  have F__law_is_held := fun_mk (st := s__law_is_held) l11 c11 k11
  have B__law_is_held := F__law_is_held.binds (ps := ["_law_clauses", "_law_on"]) fun _ _ _ _ _ _ us hl => match us, hl with | [_, _], _ => rfl
  have g__law_is_held := PySem.W.mg_of X G a11
  have F_law := fun_mk (st := s_law) l12 c12 k12
  have B_law := F_law.binds (ps := ["_law_script"]) fun _ _ _ _ _ _ us hl => match us, hl with | [_], _ => rfl
  have g_law := PySem.W.mg_of X G a12
  have cl_Merging : Cls K C0 := ⟨pg0, hd0, po0, sa0⟩
  have g_Merging := PySem.W.mg_of X G aC0
  have mk_Merging : Mk K C0 f0 := ⟨mk0, a0, i0, kc0⟩
  have b_len := PySem.W.mg_none_of X G z_len
  have b_list := PySem.W.mg_none_of X G z_list
  have b_tuple := PySem.W.mg_none_of X G z_tuple
  have b_range := PySem.W.mg_none_of X G z_range
  have b_abs := PySem.W.mg_none_of X G z_abs
  have b_dict := PySem.W.mg_none_of X G z_dict
  have b_sum := PySem.W.mg_none_of X G z_sum
  have b_min := PySem.W.mg_none_of X G z_min
  have b_sorted := PySem.W.mg_none_of X G z_sorted
  refine ⟨PySem.W.fnOf "law" "law" (defArgs s_law) (defBody s_law) (defScope s_law) .none kV12 dc12 pm12 an12 cd12 ct12, fun s v => .of_eq rfl, fun base _ _ => ?_⟩
  have T : Txt K mg C0 := ⟨cl_Merging, n0_first, n0_named, n0_made⟩
  have Mf : Met l.prog w K mg base 1 C0 "fresh_name" (freshSp K C0) := ⟨_, _, _, cl_Merging, M_Merging_fresh_name, w_fresh F_Merging_fresh_name T b_len, B_Merging_fresh_name⟩
  have Mc : Met l.prog w K mg base 2 C0 "compared" (cmpSp K C0) := ⟨_, _, _, cl_Merging, M_Merging_compared, w_cmp F_Merging_compared T Mf, B_Merging_compared⟩
  have Mi : Mak l.prog w K mg base 1 "Merging" C0 (initSp C0) := ⟨_, _, _, mk_Merging, w_init F_Merging___init__ T, g_Merging, B_Merging___init__⟩
  have M0 : Met l.prog w K mg base 2 C0 "merged" (fun _ _ _ _ => False) := ⟨_, _, _, cl_Merging, M_Merging_merged, never F_Merging_merged, B_Merging_merged⟩
  have Mm : ∀ f, Met l.prog w K mg base (f + 3) C0 "merged" (mrgSp K C0 f) := fun f => by
    induction f with
    | zero => exact ⟨_, _, _, cl_Merging, M_Merging_merged, w_merged1 F_Merging_merged T b_len Mc M0 (fun g e => nomatch e), B_Merging_merged⟩
    | succ f ih => exact ⟨_, _, _, cl_Merging, M_Merging_merged, w_merged1 F_Merging_merged T b_len Mc ih (fun g e => by cases e; rfl), B_Merging_merged⟩
  have Mm4 : Met l.prog w K mg base 7 C0 "merged" (mrgSp K C0 4) := Mm 4
  have Ck : Cal l.prog w K mg base 8 "net_knot" (pSp K 4 R_knot) := ⟨_, _, _, w_knot F_net_knot T b_list b_tuple Mi Mm4, g_net_knot, F_net_knot.kp, B_net_knot⟩
  have Cb : Cal l.prog w K mg base 1 "_law_begun" (bSp K) := ⟨_, _, _, w_begun F__law_begun, g__law_begun, F__law_begun.kp, B__law_begun⟩
  have Cd : Cal l.prog w K mg base 1 "_law_draw" dSp := ⟨_, _, _, w_draw F__law_draw b_len, g__law_draw, F__law_draw.kp, B__law_draw⟩
  have Cp : Cal l.prog w K mg base 2 "_law_pick" (pickSp K) := ⟨_, _, _, w_pick F__law_pick b_len Cd, g__law_pick, F__law_pick.kp, B__law_pick⟩
  have Cm : Cal l.prog w K mg base 3 "_law_marks" (marksSp K) := ⟨_, _, _, w_marks F__law_marks b_range Cd Cp, g__law_marks, F__law_marks.kp, B__law_marks⟩
  have Cs : Cal l.prog w K mg base 1 "_law_is_so" isoSp := ⟨_, _, _, w_iso F__law_is_so b_abs, g__law_is_so, F__law_is_so.kp, B__law_is_so⟩
  have Cn : Cal l.prog w K mg base 2 "_law_named" (pSp K 2 R_named) := ⟨_, _, _, w_named F__law_named b_dict Cs, g__law_named, F__law_named.kp, B__law_named⟩
  have Ch : Cal l.prog w K mg base 2 "_law_is_held" (pSp K 2 R_held) := ⟨_, _, _, w_held F__law_is_held Cs, g__law_is_held, F__law_is_held.kp, B__law_is_held⟩
  exact w_law F_law b_range b_len b_sum b_min b_abs b_tuple b_dict b_sorted Cb Cd Cp Cm Ck Cs Cn Ch
theorem walk {l : PySem.W.OpenLaw} {q : Program} {loose : List Str} {XP : (Str → Option Value) → Heap → Prop} {YP : World → Heap → Prop} {d : DefRec} {K : Params → PySem.W.Frag} (hn : l.most = some 63) (hdf : d.params.defaults = [])
    (hY : ∀ (w : World) (h : Heap), YP w h → (K w.params).In h)
    (F : ∀ (w : World) (mg : Str → Option Value) (fa : Addr) (h : Heap), (K w.params).In h → h.Ns mainGlobals mg → mg d.name = some (.ref fa) →
      ∃ fd : FuncData, (∀ (s : Shared) (u : Value), BindsTo s fd ⟨[u], []⟩ [("_law_script", u)]) ∧ ∀ base : Heap, (K w.params).In base → base.Ns mainGlobals mg → FnOk l.prog w (K w.params) mg base L2.CX0 9 fa fd ["_law_script"] (spLaw (K w.params))) :
    PySem.W.WalkO q loose XP YP l.row.toRowW d [] (fun f vs => PySem.call f vs) :=
  L2.walk_of (n := 63) (k := 9) (x := "_law_script") (CX := fun _ => L2.CX0) (sp := fun w => spLaw (K w.params)) hn (by decide) hdf ⟨rfl, by decide, by decide⟩ hY F (fun _ _ a ns hl _ hS => ⟨a, ns, rfl, hS, hl, fun _ => rfl⟩) fun _ _ _ _ _ z => z
end K21

open PySem PySem.W PyProof.Rows in
theorem PySem.Challenge.cw_mostclauses_k21_nets_mean_counts_holds : PySem.Challenge.rw_mostclauses_k21_nets_mean_counts.Holds := by
  w_on; o_law; k_head; (case hw => w_witness2)
  k_fill
  refine K21.walk (l := PySem.Challenge.rw_mostclauses_k21_nets_mean_counts) rfl rfl (fun w h Y => PySem.W.kIn_of Y) ?F
  case F =>
    intro w mg fa h KX G hmg
    refine' K21.all_mk KX G hmg ?aC0 ?a0 ?i0 ?l0 ?c0 ?k0 ?a1 ?i1 ?l1 ?c1 ?k1 ?a2 ?i2 ?l2 ?c2 ?k2 ?a3 ?i3 ?l3 ?c3 ?k3 ?a4 ?l4 ?c4 ?k4 ?a5 ?l5 ?c5 ?k5 ?a6 ?l6 ?c6 ?k6 ?a7 ?l7 ?c7 ?k7 ?a8 ?l8 ?c8 ?k8 ?a9 ?l9 ?c9 ?k9 ?a10 ?l10 ?c10 ?k10 ?a11 ?l11 ?c11 ?k11 ?a12 ?l12 ?c12 ?k12 ?pg0 ?hd0 ?po0 ?sa0 ?mk0 ?kc0 ?n0_first ?n0_named ?n0_made ?z_len ?z_list ?z_tuple ?z_range ?z_abs ?z_dict ?z_sum ?z_min ?z_sorted
    (case aC0 => k_is)
    (case a0 => k_is)
    (case i0 => k_is)
    (case l0 => k_is)
    (case c0 => k_is)
    (case k0 => k_is)
    (case a1 => k_is)
    (case i1 => k_is)
    (case l1 => k_is)
    (case c1 => k_is)
    (case k1 => k_is)
    (case a2 => k_is)
    (case i2 => k_is)
    (case l2 => k_is)
    (case c2 => k_is)
    (case k2 => k_is)
    (case a3 => k_is)
    (case i3 => k_is)
    (case l3 => k_is)
    (case c3 => k_is)
    (case k3 => k_is)
    (case a4 => k_is)
    (case l4 => k_is)
    (case c4 => k_is)
    (case k4 => k_is)
    (case a5 => k_is)
    (case l5 => k_is)
    (case c5 => k_is)
    (case k5 => k_is)
    (case a6 => k_is)
    (case l6 => k_is)
    (case c6 => k_is)
    (case k6 => k_is)
    (case a7 => k_is)
    (case l7 => k_is)
    (case c7 => k_is)
    (case k7 => k_is)
    (case a8 => k_is)
    (case l8 => k_is)
    (case c8 => k_is)
    (case k8 => k_is)
    (case a9 => k_is)
    (case l9 => k_is)
    (case c9 => k_is)
    (case k9 => k_is)
    (case a10 => k_is)
    (case l10 => k_is)
    (case c10 => k_is)
    (case k10 => k_is)
    (case a11 => k_is)
    (case l11 => k_is)
    (case c11 => k_is)
    (case k11 => k_is)
    (case a12 => k_is)
    (case l12 => k_is)
    (case c12 => k_is)
    (case k12 => k_is)
    (case pg0 => k_is)
    (case hd0 => k_is)
    (case po0 => k_is)
    (case sa0 => k_is)
    (case mk0 => k_is)
    (case kc0 => k_is)
    (case n0_first => k_is)
    (case n0_named => k_is)
    (case n0_made => k_is)
    (case z_len => k_is)
    (case z_list => k_is)
    (case z_tuple => k_is)
    (case z_range => k_is)
    (case z_abs => k_is)
    (case z_dict => k_is)
    (case z_sum => k_is)
    (case z_min => k_is)
    (case z_sorted => k_is)
