import PyProof.Rows.All
import Wide.All
import OpenK.AllK
import Wide.FinOn
import HandS.ForMost
import HandS.ForExc
import HandS.Walk
import HandS.Style
import HandS.IsInst
import HandS.SetKeys
import HandS.Zip
import HandS.Conv
import HandS.Defaults
import HandS.HeadHook2
import HandS.HeadEnd
import HandS.Head0
import HandS.Head1
import HandS.Head2
import HandS.DictComp
import HandS.SetBool
import HandS.TupLe
import HandS.TupAny
import KE.KDictSum
import HandS.Strs
import HandS.List
import KE.LtData
import PyProof.StrOps2
import HandS.StrMore
import HandS.DictSubView
import HandS.Property
import HandS.HeadNt
import KE.KMethU
import KE.KOpsOwn
import HandS.Replace
import HandS.ReplaceDef
import HandS.ReplaceLit
import HandS.ReplaceList
import HandS.More
import HandS.FStr
import PyProof.RulesMatch
import KE.GoesMore
import KE.KFromBytes
import KE.KSuper
import KE.KExcSuper
import HandS.ExcInit
import HandS.ExcSuper
import HandS.ClsMeth
import HandS.Nested
import HandS.ExcIs
import HandS.ExcField
import HandS.HeadHook1
import HandS.HeadHook3
import HandS.Star
import KE.KIntText
import HandS.Comp
import HandS.SortKw
import KE.DataMinMax
import HandS.Dict
import PyProof.DictUpdate
import PyProof.EvalArms
import KE.DataCmp
import HandS.Ends
import KE.KStateDown
import PySem.Challenge.RW_bytegrove_k05_whole_least_tree_of_a_kind
set_option Elab.async false
set_option linter.all false
set_option maxRecDepth 100000
namespace DL
open PySem PySem.Spec PyProof.Rows L2
inductive D where
  | non | bl (b : Bool) | int (i : Int) | str (x : Str) | adr (a : Addr)
  | tup (ds : List D) | lst (ds : List D) | dk (kds : List (Key × D)) | ins (C : Addr) (fds : List (Str × D))
  /-- a dict that is known, with its address -/
  | ldk (a : Addr) (kds : List (Key × D))
  /-- a locked list; a list, a tuple of the written part K -/
  | zst (ds : List D) | zkl (K : PySem.W.Frag) (ds : List D) | zkt (K : PySem.W.Frag) (ds : List D)
  /-- a caught exception at a, of the class at C, its dict at dd -/
  | exc (a C dd : Addr) (fds : List (Str × D))
  /-- an owned dict while it is walked -/
  | fz (o : HO) (kds : List (Key × D))
mutual
inductive R (F : Hp) : V → D → Prop
  | non : R F .non .non
  | bl (b : Bool) : R F (.bl b) (.bl b)
  | int (i : Int) : R F (.int i) (.int i)
  | str (x : Str) : R F (.str x) (.str x)
  | adr (a : Addr) : R F (.ref a) (.adr a)
  | tup {a : Addr} {xs : List V} {ds : List D} : F a = some (.tup xs) → Rs F xs ds → R F (.ref a) (.tup ds)
  | lst {a : Addr} {xs : List V} {ds : List D} : F a = some (.lst xs) → Rs F xs ds → R F (.ref a) (.lst ds)
  | dk {a : Addr} {kvs : List (Key × V)} {kds : List (Key × D)} : F a = some (.dK kvs) → Rk F kvs kds → R F (.ref a) (.dk kds)
  | ins {a C dx : Addr} {fs : List (Str × V)} {fds : List (Str × D)} : F a = some (.ins C dx fs) → Rn F fs fds → R F (.ref a) (.ins C fds)
  | ldk {a : Addr} {kvs : List (Key × V)} {kds : List (Key × D)} : F a = some (.dK kvs) → Rk F kvs kds → R F (.ref a) (.ldk a kds)
  | zst {a : Addr} {o : Obj} {xs : List V} {ds : List D} : F a = some (.frz o (.lst xs)) → Rs F xs ds → R F (.ref a) (.zst ds)
  | zkl {K : PySem.W.Frag} {a : Addr} {xs : List V} {ds : List D} : (∀ H, SqL K H a xs) → Rs F xs ds → R F (.ref a) (.zkl K ds)
  | zkt {K : PySem.W.Frag} {a : Addr} {xs : List V} {ds : List D} : (∀ H, SqT K H a xs) → Rs F xs ds → R F (.ref a) (.zkt K ds)
  | exc {a C dd : Addr} {fs : List (Str × V)} {fds : List (Str × D)} : F dd = some (.xd fs) → Rn F fs fds → R F (.ref a) (.exc a C dd fds)
  | fz {a : Addr} {od : Obj} {kvs : List (Key × V)} {kds : List (Key × D)} : F a = some (.frz od (.dK kvs)) → Rk F kvs kds → R F (.ref a) (.fz (.frz od (.dK kvs)) kds)
inductive Rs (F : Hp) : List V → List D → Prop
  | nil : Rs F [] []
  | cons {v : V} {vs : List V} {d : D} {ds : List D} : R F v d → Rs F vs ds → Rs F (v :: vs) (d :: ds)
inductive Rk (F : Hp) : List (Key × V) → List (Key × D) → Prop
  | nil : Rk F [] []
  | cons {k : Key} {v : V} {vs : List (Key × V)} {d : D} {ds : List (Key × D)} : R F v d → Rk F vs ds → Rk F ((k, v) :: vs) ((k, d) :: ds)
inductive Rn (F : Hp) : List (Str × V) → List (Str × D) → Prop
  | nil : Rn F [] []
  | cons {k : Str} {v : V} {vs : List (Str × V)} {d : D} {ds : List (Str × D)} : R F v d → Rn F vs ds → Rn F ((k, v) :: vs) ((k, d) :: ds)
end
abbrev Ex (F F' : Hp) : Prop := ∀ a o, F a = some o → F' a = some o
mutual
theorem R.mono {F F' : Hp} (e : Ex F F') : ∀ {v : V} {d : D}, R F v d → R F' v d
  | _, _, .non => .non
  | _, _, .bl b => .bl b
  | _, _, .int i => .int i
  | _, _, .str x => .str x
  | _, _, .adr a => .adr a
  | _, _, .tup h r => .tup (e _ _ h) (Rs.mono e r)
  | _, _, .lst h r => .lst (e _ _ h) (Rs.mono e r)
  | _, _, .dk h r => .dk (e _ _ h) (Rk.mono e r)
  | _, _, .ins h r => .ins (e _ _ h) (Rn.mono e r)
  | _, _, .ldk h r => .ldk (e _ _ h) (Rk.mono e r)
  | _, _, .zst h r => .zst (e _ _ h) (Rs.mono e r)
  | _, _, .zkl h r => .zkl h (Rs.mono e r)
  | _, _, .zkt h r => .zkt h (Rs.mono e r)
  | _, _, .exc h r => .exc (e _ _ h) (Rn.mono e r)
  | _, _, .fz h r => .fz (e _ _ h) (Rk.mono e r)
theorem Rs.mono {F F' : Hp} (e : Ex F F') : ∀ {v : List V} {d : List D}, Rs F v d → Rs F' v d
  | _, _, .nil => .nil
  | _, _, .cons r t => .cons (R.mono e r) (Rs.mono e t)
theorem Rk.mono {F F' : Hp} (e : Ex F F') : ∀ {v : List (Key × V)} {d : List (Key × D)}, Rk F v d → Rk F' v d
  | _, _, .nil => .nil
  | _, _, .cons r t => .cons (R.mono e r) (Rk.mono e t)
theorem Rn.mono {F F' : Hp} (e : Ex F F') : ∀ {v : List (Str × V)} {d : List (Str × D)}, Rn F v d → Rn F' v d
  | _, _, .nil => .nil
  | _, _, .cons r t => .cons (R.mono e r) (Rn.mono e t)
end
theorem Rs.length {F : Hp} : ∀ {xs : List V} {ds : List D}, Rs F xs ds → xs.length = ds.length
  | _, _, .nil => rfl
  | _, _, .cons _ t => congrArg (· + 1) (Rs.length t)
theorem Rk.length {F : Hp} : ∀ {xs : List (Key × V)} {ds : List (Key × D)}, Rk F xs ds → xs.length = ds.length
  | _, _, .nil => rfl
  | _, _, .cons _ t => congrArg (· + 1) (Rk.length t)
theorem Rn.length {F : Hp} : ∀ {xs : List (Str × V)} {ds : List (Str × D)}, Rn F xs ds → xs.length = ds.length
  | _, _, .nil => rfl
  | _, _, .cons _ t => congrArg (· + 1) (Rn.length t)
theorem Rs.get {F : Hp} : ∀ {xs : List V} {ds : List D} {i : Nat} {d : D}, Rs F xs ds → ds[i]? = some d → ∃ v, xs[i]? = some v ∧ R F v d
  | _, _, i, _, .nil, h => by simp at h
  | _, _, 0, _, .cons r t, h => by
    simp at h
    subst h
    exact ⟨_, rfl, r⟩
  | _, _, i + 1, d, .cons r t, h => by
    obtain ⟨v, h1, h2⟩ := Rs.get (i := i) (d := d) t (by simpa using h)
    exact ⟨v, by simpa using h1, h2⟩
theorem Rs.get' {F : Hp} {xs : List V} {ds : List D} {i : Nat} {v : V} (r : Rs F xs ds) (h : xs[i]? = some v) : ∃ d, ds[i]? = some d ∧ R F v d := by
  have hi : i < xs.length := (List.getElem?_eq_some_iff.mp h).1
  obtain ⟨u, e, q⟩ := Rs.get r (List.getElem?_eq_getElem (r.length ▸ hi))
  rw [h] at e
  cases e
  exact ⟨_, List.getElem?_eq_getElem (r.length ▸ hi), q⟩
theorem Rs.snoc {F : Hp} {v : V} {d : D} (q : R F v d) : ∀ {xs : List V} {ds : List D}, Rs F xs ds → Rs F (xs ++ [v]) (ds ++ [d])
  | _, _, .nil => .cons q .nil
  | _, _, .cons r t => .cons r (Rs.snoc q t)
theorem Rs.append {F : Hp} {ys : List V} {es : List D} (q : Rs F ys es) : ∀ {xs : List V} {ds : List D}, Rs F xs ds → Rs F (xs ++ ys) (ds ++ es)
  | _, _, .nil => q
  | _, _, .cons r t => .cons r (Rs.append q t)
theorem Rs.take {F : Hp} : ∀ {xs : List V} {ds : List D} (n : Nat), Rs F xs ds → Rs F (xs.take n) (ds.take n)
  | _, _, 0, _ => .nil
  | _, _, _ + 1, .nil => .nil
  | _, _, n + 1, .cons r t => .cons r (Rs.take n t)
theorem Rs.drop {F : Hp} : ∀ {xs : List V} {ds : List D} (n : Nat), Rs F xs ds → Rs F (xs.drop n) (ds.drop n)
  | _, _, 0, h => h
  | _, _, _ + 1, .nil => .nil
  | _, _, n + 1, .cons r t => Rs.drop n t
theorem Rs.set {F : Hp} {v : V} {d : D} (q : R F v d) : ∀ {xs : List V} {ds : List D} (n : Nat), Rs F xs ds → Rs F (xs.set n v) (ds.set n d)
  | _, _, _, .nil => .nil
  | _, _, 0, .cons r t => .cons q t
  | _, _, n + 1, .cons r t => .cons r (Rs.set q n t)
theorem Rs.dropLast {F : Hp} {xs : List V} {ds : List D} (h : Rs F xs ds) : Rs F xs.dropLast ds.dropLast := by
  rw [List.dropLast_eq_take, List.dropLast_eq_take, h.length]
  exact h.take _
theorem Rs.reverse {F : Hp} : ∀ {xs : List V} {ds : List D}, Rs F xs ds → Rs F xs.reverse ds.reverse
  | _, _, .nil => .nil
  | _, _, .cons r t => by
    rw [List.reverse_cons, List.reverse_cons]
    exact (Rs.reverse t).snoc r
theorem Rs.ints {F : Hp} : ∀ {xs : List V} {ns : List Int}, Rs F xs (ns.map D.int) → xs = ns.map V.int
  | _, [], .nil => rfl
  | _, _ :: _, .cons (.int _) t => congrArg _ (Rs.ints t)
theorem Rs.strs {F : Hp} : ∀ {xs : List V} {ns : List Str}, Rs F xs (ns.map D.str) → xs = ns.map V.str
  | _, [], .nil => rfl
  | _, _ :: _, .cons (.str _) t => congrArg _ (Rs.strs t)
theorem Rs.bls {F : Hp} : ∀ {xs : List V} {ns : List Bool}, Rs F xs (ns.map D.bl) → xs = ns.map V.bl
  | _, [], .nil => rfl
  | _, _ :: _, .cons (.bl _) t => congrArg _ (Rs.bls t)
theorem rs_ints {F : Hp} : ∀ ns : List Int, Rs F (ns.map V.int) (ns.map D.int)
  | [] => .nil
  | n :: r => .cons (.int n) (rs_ints r)
/-- what an object holds -/
inductive Cn (F : Hp) : HO → D → Prop
  | tup {xs : List V} {ds : List D} : Rs F xs ds → Cn F (.tup xs) (.tup ds)
  | lst {xs : List V} {ds : List D} : Rs F xs ds → Cn F (.lst xs) (.lst ds)
  | dk {kvs : List (Key × V)} {kds : List (Key × D)} : Rk F kvs kds → Cn F (.dK kvs) (.dk kds)
  | ins {C dx : Addr} {fs : List (Str × V)} {fds : List (Str × D)} : Rn F fs fds → Cn F (.ins C dx fs) (.ins C fds)
  | fz {od : Obj} {kvs : List (Key × V)} {kds : List (Key × D)} : Rk F kvs kds → Cn F (.frz od (.dK kvs)) (.fz (.frz od (.dK kvs)) kds)
theorem Cn.mono {F F' : Hp} (e : Ex F F') : ∀ {o : HO} {d : D}, Cn F o d → Cn F' o d
  | _, _, .tup r => .tup (r.mono e)
  | _, _, .lst r => .lst (r.mono e)
  | _, _, .dk r => .dk (r.mono e)
  | _, _, .ins r => .ins (r.mono e)
  | _, _, .fz r => .fz (r.mono e)
theorem R.of {F : Hp} {a : Addr} {o : HO} {d : D} (h : F a = some o) : Cn F o d → R F (.ref a) d
  | .tup r => .tup h r
  | .lst r => .lst h r
  | .dk r => .dk h r
  | .ins r => .ins h r
  | .fz r => .fz h r
/-- F holds in H; the dicts at L are locked -/
structure Hd (L : List Addr) (F H : Hp) : Prop where
  at_ : ∀ a o, F a = some o → (a ∉ L ∧ H a = some o) ∨ (a ∈ L ∧ ∃ kvs ob, o = .dK kvs ∧ H a = some (.frz ob o)) ∨ (a ∉ L ∧ ∃ ob xs, o = .frz ob (.lst xs) ∧ H a = some (.lst xs))
  lk : ∀ a ∈ L, F a ≠ none
theorem Hd.tr {L : List Addr} {F H : Hp} (h : Hd L F H) {a : Addr} {o : HO} (e : F a = some o) : H a ≠ none := by
  rcases h.at_ a o e with ⟨_, h⟩ | ⟨_, _, _, _, h⟩ | ⟨_, _, _, _, h⟩ <;> rw [h] <;> exact fun z => by cases z
theorem Hd.free {L : List Addr} {F H : Hp} (h : Hd L F H) {a : Addr} (e : H a = none) : F a = none := by
  cases z : F a with
  | none => rfl
  | some o => exact absurd e (h.tr z)
theorem Hd.lkH {L : List Addr} {F H : Hp} (h : Hd L F H) {a : Addr} (m : a ∈ L) : H a ≠ none := fun e => h.lk a m (h.free e)
theorem Hd.lst {L : List Addr} {F H : Hp} (h : Hd L F H) {a : Addr} {xs : List V} (e : F a = some (.lst xs)) : H a = some (.lst xs) := by
  rcases h.at_ a _ e with ⟨_, h⟩ | ⟨_, _, _, z, _⟩ | ⟨_, _, _, z, _⟩
  · exact h
  · cases z
  · cases z
theorem Hd.tup {L : List Addr} {F H : Hp} (h : Hd L F H) {a : Addr} {xs : List V} (e : F a = some (.tup xs)) : H a = some (.tup xs) := by
  rcases h.at_ a _ e with ⟨_, h⟩ | ⟨_, _, _, z, _⟩ | ⟨_, _, _, z, _⟩
  · exact h
  · cases z
  · cases z
theorem Hd.ins {L : List Addr} {F H : Hp} (h : Hd L F H) {a C dx : Addr} {fs : List (Str × V)} (e : F a = some (.ins C dx fs)) : H a = some (.ins C dx fs) := by
  rcases h.at_ a _ e with ⟨_, h⟩ | ⟨_, _, _, z, _⟩ | ⟨_, _, _, z, _⟩
  · exact h
  · cases z
  · cases z
theorem Hd.zst {L : List Addr} {F H : Hp} (h : Hd L F H) {a : Addr} {ob : Obj} {xs : List V} (e : F a = some (.frz ob (.lst xs))) : H a = some (.lst xs) ∨ ∃ ob, H a = some (.frz ob (.lst xs)) := by
  rcases h.at_ a _ e with ⟨_, h⟩ | ⟨_, _, _, z, _⟩ | ⟨_, _, _, z, h⟩
  · exact .inr ⟨_, h⟩
  · cases z
  · cases z
    exact .inl h
theorem Hd.dk {L : List Addr} {F H : Hp} (h : Hd L F H) {a : Addr} {kvs : List (Key × V)} (e : F a = some (.dK kvs)) : Rd H a (.dK kvs) := by
  rcases h.at_ a _ e with ⟨_, h⟩ | ⟨_, _, ob, _, h⟩ | ⟨_, _, _, z, _⟩
  · exact .inl h
  · exact .inr ⟨ob, h⟩
  · cases z
/-- the owned objects -/
structure Own (F H : Hp) (as : List Addr) (O : List D) : Prop where
  nd : as.Nodup
  len : as.length = O.length
  at_ : ∀ (i : Nat) (a : Addr) (d : D), as[i]? = some a → O[i]? = some d → F a = none ∧ ∃ o, H a = some o ∧ Cn F o d
inductive Sl (F : Hp) : L2.St → List (Option D) → Prop
  | nil : Sl F [] []
  | no {x : Option V} {σ : L2.St} {ρ : List (Option D)} : Sl F σ ρ → Sl F (x :: σ) (none :: ρ)
  | so {v : V} {d : D} {σ : L2.St} {ρ : List (Option D)} : R F v d → Sl F σ ρ → Sl F (some v :: σ) (some d :: ρ)
theorem Sl.mono {F F' : Hp} (e : Ex F F') : ∀ {σ : L2.St} {ρ : List (Option D)}, Sl F σ ρ → Sl F' σ ρ
  | _, _, .nil => .nil
  | _, _, .no t => .no (Sl.mono e t)
  | _, _, .so r t => .so (r.mono e) (Sl.mono e t)
theorem Sl.get {F : Hp} : ∀ {σ : L2.St} {ρ : List (Option D)} {i : Nat} {d : D}, Sl F σ ρ → ρ[i]? = some (some d) → ∃ v, σ[i]? = some (some v) ∧ R F v d
  | _, _, i, _, .nil, h => by simp at h
  | _, _, 0, _, .no t, h => by simp at h
  | _, _, i + 1, d, .no t, h => by
    obtain ⟨v, h1, h2⟩ := Sl.get (i := i) (d := d) t (by simpa using h)
    exact ⟨v, by simpa using h1, h2⟩
  | _, _, 0, _, .so r t, h => by
    simp at h
    subst h
    exact ⟨_, rfl, r⟩
  | _, _, i + 1, d, .so r t, h => by
    obtain ⟨v, h1, h2⟩ := Sl.get (i := i) (d := d) t (by simpa using h)
    exact ⟨v, by simpa using h1, h2⟩
theorem Sl.set {F : Hp} {v : V} {d : D} (r : R F v d) : ∀ {σ : L2.St} {ρ : List (Option D)} (i : Nat), Sl F σ ρ → Sl F (σ.set i (some v)) (ρ.set i (some d))
  | _, _, i, .nil => .nil
  | _, _, 0, .no t => .so r t
  | _, _, i + 1, .no t => .no (Sl.set r i t)
  | _, _, 0, .so _ t => .so r t
  | _, _, i + 1, .so q t => .so q (Sl.set r i t)
/-- forgetting a slot -/
theorem Sl.forget {F : Hp} {x : Option V} : ∀ {σ : L2.St} {ρ : List (Option D)} (i : Nat), Sl F σ ρ → Sl F (σ.set i x) (ρ.set i none)
  | _, _, i, .nil => .nil
  | _, _, 0, .no t => .no t
  | _, _, i + 1, .no t => .no (Sl.forget i t)
  | _, _, 0, .so _ t => .no t
  | _, _, i + 1, .so q t => .so q (Sl.forget i t)
theorem Sl.wipe {F : Hp} {σ : L2.St} {ρ : List (Option D)} (s : Sl F σ ρ) : ∀ vs : List Nat, Sl F (L2.wipe σ vs) (vs.foldr (fun v r => r.set v none) ρ)
  | [] => s
  | v :: vs => Sl.forget v (Sl.wipe s vs)
theorem Sl.length {F : Hp} : ∀ {σ : L2.St} {ρ : List (Option D)}, Sl F σ ρ → σ.length = ρ.length
  | _, _, .nil => rfl
  | _, _, .no t => congrArg (· + 1) (Sl.length t)
  | _, _, .so _ t => congrArg (· + 1) (Sl.length t)
abbrev DSt := List (Option D)
structure Rep (L as : List Addr) (F H : Hp) (σ : L2.St) (ρ : DSt) (O : List D) : Prop where
  hd : Hd L F H
  own : Own F H as O
  sl : Sl F σ ρ
/-- from F, H with the owned as to F', H' with as' -/
structure Go (as : List Addr) (F H : Hp) (as' : List Addr) (F' H' : Hp) : Prop where
  ex : Ex F F'
  nw : ∀ a o, F' a = some o → F a = some o ∨ H a = none ∨ a ∈ as
  kp : ∀ b o, H b = some o → b ∉ as → H' b = some o
  th : ∀ b, H' b = none → H b = none
  sub : ∀ b ∈ as', b ∈ as ∨ H b = none
theorem Go.refl (as : List Addr) (F H : Hp) : Go as F H as F H :=
  ⟨fun _ _ h => h, fun _ _ h => .inl h, fun _ _ h _ => h, fun _ h => h, fun _ h => .inl h⟩
theorem Go.trans {as as1 as2 : List Addr} {F F1 F2 H H1 H2 : Hp} (a : Go as F H as1 F1 H1) (b : Go as1 F1 H1 as2 F2 H2) : Go as F H as2 F2 H2 where
  ex := fun x o h => b.ex _ _ (a.ex _ _ h)
  nw := fun x o h => by
    rcases b.nw x o h with h | h | h
    · exact a.nw x o h
    · exact .inr (.inl (a.th _ h))
    · rcases a.sub x h with h | h
      · exact .inr (.inr h)
      · exact .inr (.inl h)
  kp := fun x o h n => b.kp x o (a.kp x o h n) fun m => by
    rcases a.sub x m with m | m
    · exact n m
    · rw [m] at h; cases h
  th := fun x h => a.th x (b.th x h)
  sub := fun x h => by
    rcases b.sub x h with h | h
    · exact a.sub x h
    · exact .inr (a.th x h)
theorem Own.get {F H : Hp} {as : List Addr} {O : List D} {j : Nat} {d : D} (w : Own F H as O) (h : O[j]? = some d) : ∃ a o, as[j]? = some a ∧ F a = none ∧ H a = some o ∧ Cn F o d := by
  have hj : j < as.length := by rw [w.len]; exact (List.getElem?_eq_some_iff.mp h).1
  obtain ⟨h1, o, h2, h3⟩ := w.at_ j _ d (List.getElem?_eq_getElem hj) h
  exact ⟨_, o, List.getElem?_eq_getElem hj, h1, h2, h3⟩
theorem Own.mem {F H : Hp} {as : List Addr} {O : List D} {a : Addr} (w : Own F H as O) (m : a ∈ as) : F a = none ∧ H a ≠ none := by
  obtain ⟨i, hi, e⟩ := List.mem_iff_getElem.mp m
  have ho : i < O.length := by rw [← w.len]; exact hi
  obtain ⟨h1, o, h2, _⟩ := w.at_ i a _ (by rw [List.getElem?_eq_getElem hi, e]) (List.getElem?_eq_getElem ho)
  exact ⟨h1, by rw [h2]; exact fun z => by cases z⟩
theorem Own.free {F H : Hp} {as : List Addr} {O : List D} {a : Addr} (w : Own F H as O) (m : a ∈ as) : F a = none := (w.mem m).1
theorem Own.tr {F H : Hp} {as : List Addr} {O : List D} {a : Addr} (w : Own F H as O) (m : a ∈ as) : H a ≠ none := (w.mem m).2
/-- the owned objects stand as they are in a later state -/
theorem Own.keep {F F' H H' : Hp} (e : Ex F F') {as : List Addr} {O : List D} (w : Own F H as O) (hf : ∀ a ∈ as, F' a = none) (hh : ∀ a ∈ as, ∀ o, H a = some o → H' a = some o) : Own F' H' as O where
  nd := w.nd
  len := w.len
  at_ := fun i a d h1 h2 => by
    obtain ⟨_, o, h3, h4⟩ := w.at_ i a d h1 h2
    have m := List.mem_of_getElem? h1
    exact ⟨hf a m, o, hh a m o h3, h4.mono e⟩
theorem nodup_ix {as : List Addr} (n : as.Nodup) {i j : Nat} {a : Addr} (h : as[i]? = some a) (h' : as[j]? = some a) : i = j := L2.nd_ix n h h'
/-- the j-th is written -/
theorem Own.put {F H : Hp} {a : Addr} {o' : HO} {d' : D} (c : Cn F o' d') {as : List Addr} {O : List D} {j : Nat} (w : Own F H as O) (h : as[j]? = some a) : Own F (upd H a o') as (O.set j d') where
  nd := w.nd
  len := by rw [List.length_set]; exact w.len
  at_ := fun i b d h1 h2 => by
    by_cases z : j = i
    · subst z
      rw [h] at h1
      cases h1
      have hj : j < O.length := by rw [← w.len]; exact (List.getElem?_eq_some_iff.mp h).1
      rw [List.getElem?_set_self hj] at h2
      cases h2
      exact ⟨w.free (List.mem_of_getElem? h), _, upd_same, c⟩
    · rw [List.getElem?_set_ne z] at h2
      obtain ⟨e1, o, e2, e3⟩ := w.at_ i b d h1 h2
      have nb : b ≠ a := fun y => z (nodup_ix w.nd h (y ▸ h1))
      exact ⟨e1, o, by rw [upd_ne nb]; exact e2, e3⟩
/-- a new one -/
theorem Own.snoc {F H : Hp} {p : Addr} {o : HO} {d : D} (hf : F p = none) (hh : H p = none) (c : Cn F o d) {as : List Addr} {O : List D} (w : Own F H as O) : Own F (upd H p o) (as ++ [p]) (O ++ [d]) where
  nd := by
    rw [List.nodup_append]
    refine ⟨w.nd, by simp, fun a m b m' z => ?_⟩
    simp at m'
    subst m'; subst z
    exact w.tr m hh
  len := by simp [w.len]
  at_ := fun i b d' h1 h2 => by
    rcases Nat.lt_trichotomy i as.length with z | z | z
    · rw [List.getElem?_append_left z] at h1
      rw [List.getElem?_append_left (w.len ▸ z)] at h2
      obtain ⟨e1, o', e2, e3⟩ := w.at_ i b d' h1 h2
      exact ⟨e1, o', by rw [upd_ne (ne_of_none e2 hh)]; exact e2, e3⟩
    · rw [List.getElem?_append_right (Nat.le_of_eq z.symm)] at h1
      rw [List.getElem?_append_right (by rw [← w.len]; exact Nat.le_of_eq z.symm), ← w.len] at h2
      rw [z] at h1 h2
      simp at h1 h2
      subst h1; subst h2
      exact ⟨hf, o, upd_same, c⟩
    · rw [List.getElem?_eq_none (by simp; omega)] at h1
      cases h1
theorem mem_erase_ix {as : List Addr} {j i : Nat} {b : Addr} (h : (as.eraseIdx j)[i]? = some b) : ∃ i', i' ≠ j ∧ as[i']? = some b ∧ i' = if i < j then i else i + 1 := by
  rw [List.getElem?_eraseIdx] at h
  by_cases z : i < j
  · rw [if_pos z] at h
    exact ⟨i, by omega, h, by rw [if_pos z]⟩
  · rw [if_neg z] at h
    exact ⟨i + 1, by omega, h, by rw [if_neg z]⟩
theorem nodup_eraseIdx {as : List Addr} (n : as.Nodup) {j : Nat} {a : Addr} (h : as[j]? = some a) : a ∉ as.eraseIdx j := fun m => by
  obtain ⟨i, hi, e⟩ := List.mem_iff_getElem.mp m
  obtain ⟨i', z, e', _⟩ := mem_erase_ix (by rw [List.getElem?_eq_getElem hi, e] : (as.eraseIdx j)[i]? = some a)
  exact z (nodup_ix n e' h)
/-- the j-th is let go -/
theorem Own.drop {F H : Hp} {as : List Addr} {O : List D} (j : Nat) (w : Own F H as O) : Own F H (as.eraseIdx j) (O.eraseIdx j) where
  nd := w.nd.sublist (List.eraseIdx_sublist ..)
  len := by
    rw [List.length_eraseIdx, List.length_eraseIdx, w.len]
  at_ := fun i b d h1 h2 => by
    rw [List.getElem?_eraseIdx] at h1 h2
    by_cases z : i < j
    · rw [if_pos z] at h1 h2
      exact w.at_ i b d h1 h2
    · rw [if_neg z] at h1 h2
      exact w.at_ (i + 1) b d h1 h2
theorem go_upd {as : List Addr} {F H : Hp} {a : Addr} {o : HO} (m : a ∈ as) : Go as F H as F (upd H a o) where
  ex := fun _ _ h => h
  nw := fun _ _ h => .inl h
  kp := fun b o h n => by
    rw [upd_ne (show b ≠ a from fun z => n (z ▸ m))]
    exact h
  th := fun b h => by
    by_cases z : b = a
    · subst z; rw [upd_same] at h; cases h
    · rw [upd_ne z] at h; exact h
  sub := fun _ h => .inl h
theorem go_new {as : List Addr} {F H : Hp} {p : Addr} {o : HO} (h : H p = none) : Go as F H (as ++ [p]) F (upd H p o) where
  ex := fun _ _ h => h
  nw := fun _ _ h => .inl h
  kp := fun b o e n => by
    rw [upd_ne (ne_of_none e h)]
    exact e
  th := fun b e => by
    by_cases z : b = p
    · subst z; exact h
    · rw [upd_ne z] at e; exact e
  sub := fun b m => by
    rcases List.mem_append.mp m with m | m
    · exact .inl m
    · simp at m; subst m; exact .inr h
/-- laid and known at once -/
theorem go_lay {as : List Addr} {F H : Hp} {p : Addr} {o : HO} (h : H p = none) (hf : F p = none) : Go as F H as (upd F p o) (upd H p o) where
  ex := fun a x e => by
    rw [upd_ne (ne_of_none e hf)]
    exact e
  nw := fun a x e => by
    by_cases z : a = p
    · subst z; exact .inr (.inl h)
    · rw [upd_ne z] at e; exact .inl e
  kp := fun b o e n => by
    rw [upd_ne (ne_of_none e h)]
    exact e
  th := fun b e => by
    by_cases z : b = p
    · subst z; exact h
    · rw [upd_ne z] at e; exact e
  sub := fun b m => .inl m
theorem Hd.upd {L : List Addr} {F H : Hp} {a : Addr} {o : HO} (h : Hd L F H) (hf : F a = none) : Hd L F (L2.upd H a o) where
  at_ := fun b u e => by
    rw [upd_ne (ne_of_none e hf)]
    exact h.at_ b u e
  lk := h.lk
theorem Hd.lay {L : List Addr} {F H : Hp} {p : Addr} {o : HO} (h : Hd L F H) (hh : H p = none) : Hd L (L2.upd F p o) (L2.upd H p o) where
  at_ := fun b u e => by
    by_cases z : b = p
    · subst z
      rw [upd_same] at e
      cases e
      exact .inl ⟨fun m => h.lkH m hh, upd_same⟩
    · rw [upd_ne z] at e
      rw [upd_ne z]
      exact h.at_ b u e
  lk := fun b m e => by
    by_cases z : b = p
    · subst z; rw [upd_same] at e; cases e
    · rw [upd_ne z] at e; exact h.lk b m e
theorem ex_lay {F : Hp} {p : Addr} {o : HO} (hf : F p = none) : Ex F (upd F p o) := fun a x e => by
  rw [upd_ne (ne_of_none e hf)]
  exact e
/-- owned objects where another is laid and known -/
theorem Own.lay {F H : Hp} {p : Addr} {o : HO} {as : List Addr} {O : List D} (w : Own F H as O) (hh : H p = none) (hf : F p = none) : Own (upd F p o) (upd H p o) as O :=
  w.keep (ex_lay hf) (fun a m => by
    have : a ≠ p := fun z => w.tr m (z ▸ hh)
    rw [upd_ne this]; exact w.free m) fun a m o' e => by
    rw [upd_ne (ne_of_none e hh)]; exact e
theorem go_frz {as : List Addr} {F H : Hp} {a : Addr} {o : HO} {j : Nat} (hf : F a = none) (ha : as[j]? = some a) : Go as F H (as.eraseIdx j) (upd F a o) H where
  ex := ex_lay hf
  nw := fun b x e => by
    by_cases z : b = a
    · subst z; exact .inr (.inr (List.mem_of_getElem? ha))
    · rw [upd_ne z] at e; exact .inl e
  kp := fun _ _ h _ => h
  th := fun _ h => h
  sub := fun b m => .inl (List.mem_of_mem_eraseIdx m)
theorem Rep.frz {L as : List Addr} {F H : Hp} {σ : L2.St} {ρ : DSt} {O : List D} {a : Addr} {o : HO} {c : D} {j : Nat} (S : Rep L as F H σ ρ O) (ha : as[j]? = some a) (hc : O[j]? = some c) (hf : F a = none) (ho : H a = some o) (cn : Cn F o c) :
    Rep L (as.eraseIdx j) (upd F a o) H σ ρ (O.eraseIdx j) where
  hd := {
    at_ := fun b u e => by
      by_cases z : b = a
      · subst z
        rw [upd_same] at e
        cases e
        exact .inl ⟨fun m => S.hd.lk _ m hf, ho⟩
      · rw [upd_ne z] at e
        exact S.hd.at_ b u e
    lk := fun b m e => by
      by_cases z : b = a
      · subst z; rw [upd_same] at e; cases e
      · rw [upd_ne z] at e; exact S.hd.lk b m e }
  own := (S.own.drop j).keep (ex_lay hf) (fun b m => by
    have z : b ≠ a := fun y => nodup_eraseIdx S.own.nd ha (y ▸ m)
    rw [upd_ne z]
    exact S.own.free (List.mem_of_mem_eraseIdx m)) fun _ _ _ h => h
  sl := S.sl.mono (ex_lay hf)
/-- as Go, where a dict may have been left locked -/
structure GoX (L as : List Addr) (F H : Hp) (L' as' : List Addr) (F' H' : Hp) : Prop where
  ex : Ex F F'
  nw : ∀ a o, F' a = some o → F a = some o ∨ H a = none ∨ a ∈ as
  kp : ∀ b o, H b = some o → b ∉ as → H' b = some o ∨ (b ∈ L' ∧ b ∉ L ∧ ∃ kvs ob, o = .dK kvs ∧ H' b = some (.frz ob o))
  th : ∀ b, H' b = none → H b = none
  sub : ∀ b ∈ as', b ∈ as ∨ H b = none
theorem Go.x {as as' L : List Addr} {F H F' H' : Hp} (g : Go as F H as' F' H') : GoX L as F H L as' F' H' :=
  ⟨g.ex, g.nw, fun b o h n => .inl (g.kp b o h n), g.th, g.sub⟩
theorem Go.transX {L L' as as1 as2 : List Addr} {F F1 F2 H H1 H2 : Hp} (a : Go as F H as1 F1 H1) (b : GoX L as1 F1 H1 L' as2 F2 H2) : GoX L as F H L' as2 F2 H2 where
  ex := fun x o h => b.ex _ _ (a.ex _ _ h)
  nw := fun x o h => by
    rcases b.nw x o h with h | h | h
    · exact a.nw x o h
    · exact .inr (.inl (a.th _ h))
    · rcases a.sub x h with h | h
      · exact .inr (.inr h)
      · exact .inr (.inl h)
  kp := fun x o h n => b.kp x o (a.kp x o h n) fun m => by
    rcases a.sub x m with m | m
    · exact n m
    · rw [m] at h; cases h
  th := fun x h => a.th x (b.th x h)
  sub := fun x h => by
    rcases b.sub x h with h | h
    · exact a.sub x h
    · exact .inr (a.th x h)
/-- what is wished of an exception: E as the rules have it, e over data (what is locked, its class, its fields) -/
structure Xk where
  E : WX
  e : List Addr → Addr → List (Str × D) → List Addr → DSt → List D → Prop
/-- an exception's dict -/
def XD (F' H H' : Hp) (d : Option Addr) (fds : List (Str × D)) : Prop := match d with
  | none => fds = []
  | some d => H d = none ∧ ∃ fs, H' d = some (.xd fs) ∧ Rn F' fs fds
theorem XD.imp {F' H H1 H' : Hp} {d : Option Addr} {fds : List (Str × D)} (h : XD F' H1 H' d fds) (i : ∀ b, H1 b = none → H b = none) : XD F' H H' d fds := by
  cases d with
  | none => exact h
  | some d => exact ⟨i _ h.1, h.2⟩
def XP (χ : Xk) (L as : List Addr) (F H : Hp) : Prop :=
  ∀ F' H' L' as' σ' ρ' O' cls d fds, GoX L as F H L' as' F' H' → Rep L' as' F' H' σ' ρ' O' → XD F' H H' d fds → χ.e L' cls fds as' ρ' O' → χ.E (.ref cls) d σ' H'
theorem XP.go {χ : Xk} {L as as1 : List Addr} {F H F1 H1 : Hp} (x : XP χ L as F H) (g : Go as F H as1 F1 H1) : XP χ L as1 F1 H1 :=
  fun F' H' L' as' σ' ρ' O' cls d fds g' S n => x F' H' L' as' σ' ρ' O' cls d fds (g.transX g') S (n.imp g.th)
/-- nothing is raised -/
def X0 : Xk := ⟨fun _ _ _ _ => False, fun _ _ _ _ _ _ => False⟩
theorem xp0 {L as : List Addr} {F H : Hp} : XP X0 L as F H := fun _ _ _ _ _ _ _ _ _ _ _ _ _ z => z
def dW {α β : Type} (rel : Hp → α → β → Prop) (χ : Xk) (t : L2.St → Hp → (α → Hp → Prop) → Prop) (L as : List Addr) (ρ : DSt) (O : List D) (k : List Addr → β → List D → Prop) : Prop :=
  ∀ F H σ, Rep L as F H σ ρ O → XP χ L as F H → ∀ Q : α → Hp → Prop, (∀ F' H' as' O' x y, Go as F H as' F' H' → Rep L as' F' H' σ ρ O' → rel F' x y → k as' y O' → Q x H') → t σ H Q
abbrev dE : Xk → TE → List Addr → List Addr → DSt → List D → (List Addr → D → List D → Prop) → Prop := dW R
abbrev dT : Xk → TT → List Addr → List Addr → DSt → List D → (List Addr → Bool → List D → Prop) → Prop := dW (fun _ (a b : Bool) => a = b)
abbrev dA : Xk → TA → List Addr → List Addr → DSt → List D → (List Addr → List D → List D → Prop) → Prop   := dW Rs
/-- an operation on values -/
def rv (r : R2) (L as : List Addr) (O : List D) (d1 d2 : D) (k : List Addr → D → List D → Prop) : Prop :=
  ∀ F H x y, Hd L F H → Own F H as O → R F x d1 → R F y d2 → ∀ Q : VK, (∀ F' H' as' O' v d, Go as F H as' F' H' → Hd L F' H' → Own F' H' as' O' → R F' v d → k as' d O' → Q v H') → r x y H Q
def rc (r : List V → Hp → VK → Prop) (L as : List Addr) (O : List D) (ds : List D) (k : List Addr → D → List D → Prop) : Prop :=
  ∀ F H xs, Hd L F H → Own F H as O → Rs F xs ds → ∀ Q : VK, (∀ F' H' as' O' v d, Go as F H as' F' H' → Hd L F' H' → Own F' H' as' O' → R F' v d → k as' d O' → Q v H') → r xs H Q
structure Kt where
  nx : List Addr → DSt → List D → Prop
  rt : List Addr → D → List D → Prop
  bk : List Addr → DSt → List D → Prop := fun _ _ _ => False
  ct : List Addr → DSt → List D → Prop := fun _ _ _ => False
/-- the ends Z are served by k from here on -/
structure Zk (L as : List Addr) (F H : Hp) (k : Kt) (Z : Ends) : Prop where
  nx : ∀ F' H' as' σ' ρ' O', Go as F H as' F' H' → Rep L as' F' H' σ' ρ' O' → k.nx as' ρ' O' → Z.nx σ' H'
  rt : ∀ F' H' as' O' v d, Go as F H as' F' H' → Hd L F' H' → Own F' H' as' O' → R F' v d → k.rt as' d O' → Z.rt v H'
  bk : ∀ F' H' as' σ' ρ' O', Go as F H as' F' H' → Rep L as' F' H' σ' ρ' O' → k.bk as' ρ' O' → Z.bk σ' H'
  ct : ∀ F' H' as' σ' ρ' O', Go as F H as' F' H' → Rep L as' F' H' σ' ρ' O' → k.ct as' ρ' O' → Z.ct σ' H'
theorem Zk.go {L as as1 : List Addr} {F H F1 H1 : Hp} {k : Kt} {Z : Ends} (z : Zk L as F H k Z) (g : Go as F H as1 F1 H1) : Zk L as1 F1 H1 k Z where
  nx := fun F' H' as' σ' ρ' O' g' => z.nx F' H' as' σ' ρ' O' (g.trans g')
  rt := fun F' H' as' O' v d g' => z.rt F' H' as' O' v d (g.trans g')
  bk := fun F' H' as' σ' ρ' O' g' => z.bk F' H' as' σ' ρ' O' (g.trans g')
  ct := fun F' H' as' σ' ρ' O' g' => z.ct F' H' as' σ' ρ' O' (g.trans g')
def dS (χ : Xk) (t : TS) (L as : List Addr) (ρ : DSt) (O : List D) (k : Kt) : Prop :=
  ∀ F H σ, Rep L as F H σ ρ O → XP χ L as F H → ∀ Z : Ends, Zk L as F H k Z → t Z σ H
def dG (χ : Xk) (g : TG) (d : D) (L as : List Addr) (ρ : DSt) (O : List D) (k : List Addr → DSt → List D → Prop) : Prop :=
  ∀ F H σ v, Rep L as F H σ ρ O → XP χ L as F H → R F v d → ∀ Q : L2.St → Hp → Prop, (∀ F' H' as' σ' ρ' O', Go as F H as' F' H' → Rep L as' F' H' σ' ρ' O' → k as' ρ' O' → Q σ' H') → g v σ H Q
def dGs (χ : Xk) (g : TGs) (ds : List D) (L as : List Addr) (ρ : DSt) (O : List D) (k : List Addr → DSt → List D → Prop) : Prop :=
  ∀ F H σ vs, Rep L as F H σ ρ O → XP χ L as F H → Rs F vs ds → ∀ Q : L2.St → Hp → Prop, (∀ F' H' as' σ' ρ' O', Go as F H as' F' H' → Rep L as' F' H' σ' ρ' O' → k as' ρ' O' → Q σ' H') → g vs σ H Q
/-- what is walked: the items -/
def ItD (L as : List Addr) (F H : Hp) (J : It) (ds : List D) : Prop := ∃ G Y, Walk J ds.length G Y ∧ (∀ F2 H2 as2, Go as F H as2 F2 H2 → Hd L F2 H2 → G H2) ∧
  ∀ i as H H' x F2 O, i < ds.length → Ex F F2 → Hd L F2 H → Own F2 H as O → Y i H x H' → ∃ F3 d, ds[i]? = some d ∧ Go as F2 H as F3 H' ∧ Hd L F3 H' ∧ Own F3 H' as O ∧ R F3 x d
def dI (χ : Xk) (wi : TI) (L as : List Addr) (ρ : DSt) (O : List D) (k : List Addr → List D → List D → Prop) : Prop :=
  ∀ F H σ, Rep L as F H σ ρ O → XP χ L as F H → ∀ Q : It → Hp → Prop, (∀ F' H' as' O' J ds, Go as F H as' F' H' → Rep L as' F' H' σ ρ O' → ItD L as' F' H' J ds → k as' ds O' → Q J H') → wi σ H Q
section
variable {χ : Xk} {L as : List Addr} {ρ : DSt} {O : List D} {k : List Addr → D → List D → Prop} {kT : List Addr → Bool → List D → Prop} {kA : List Addr → List D → List D → Prop} {ta tb te : TE} {tt tu : TT} {d d1 d2 : D}
theorem dW.imp {α β : Type} {rel : Hp → α → β → Prop} {t : L2.St → Hp → (α → Hp → Prop) → Prop} {k k' : List Addr → β → List D → Prop} (h : dW rel χ t L as ρ O k) (i : ∀ a b c, k a b c → k' a b c) : dW rel χ t L as ρ O k' :=
  fun F H σ S x Q q => h F H σ S x Q fun F' H' as' O' a b g S' r z => q F' H' as' O' a b g S' r (i _ _ _ z)
theorem w_var {i : Nat} (h : ρ[i]? = some (some d)) (z : k as d O) : dE χ (tVar i) L as ρ O k := fun F H σ S _ Q q => by
  obtain ⟨v, e, r⟩ := S.sl.get h
  exact ⟨v, e, q F H as O v d (.refl ..) S r z⟩
theorem w_c {v : V} (r : ∀ F, R F v d) (z : k as d O) : dE χ (tC v) L as ρ O k := fun F H σ S _ Q q => q F H as O v d (.refl ..) S (r F) z
theorem w_int {i : Int} (z : k as (.int i) O) : dE χ (tC (.int i)) L as ρ O k := w_c (fun _ => .int i) z
theorem w_bl {b : Bool} (z : k as (.bl b) O) : dE χ (tC (.bl b)) L as ρ O k := w_c (fun _ => .bl b) z
theorem w_str {x : Str} (z : k as (.str x) O) : dE χ (tC (.str x)) L as ρ O k := w_c (fun _ => .str x) z
theorem w_non (z : k as .non O) : dE χ (tC .non) L as ρ O k := w_c (fun _ => .non) z
theorem w_op {r : R2} (h : dE χ ta L as ρ O fun as d1 O => dE χ tb L as ρ O fun as d2 O => rv r L as O d1 d2 k) : dE χ (tOp r ta tb) L as ρ O k := fun F H σ S x Q q =>
  h F H σ S x _ fun F1 H1 as1 O1 v1 d1 g1 S1 r1 z1 => z1 F1 H1 σ S1 (x.go g1) _ fun F2 H2 as2 O2 v2 d2 g2 S2 r2 z2 =>
    z2 F2 H2 v1 v2 S2.hd S2.own (r1.mono g2.ex) r2 _ fun F3 H3 as3 O3 v d g3 hd ow r3 z3 =>
      q F3 H3 as3 O3 v d (g1.trans (g2.trans g3)) ⟨hd, ow, S2.sl.mono g3.ex⟩ r3 z3
theorem w_nil (z : kA as [] O) : dA χ tNil L as ρ O kA := fun F H σ S _ Q q => q F H as O [] [] (.refl ..) S .nil z
theorem w_cons {tr : TA} (h : dE χ te L as ρ O fun as d O => dA χ tr L as ρ O fun as ds O => kA as (d :: ds) O) : dA χ (tCons te tr) L as ρ O kA := fun F H σ S x Q q =>
  h F H σ S x _ fun F1 H1 as1 O1 v d1 g1 S1 r1 z1 => z1 F1 H1 σ S1 (x.go g1) _ fun F2 H2 as2 O2 y d2 g2 S2 r2 z2 =>
    q F2 H2 as2 O2 (v :: y) (d1 :: d2) (g1.trans g2) S2 (.cons (r1.mono g2.ex) r2) z2
theorem w_cb {r : List V → Hp → VK → Prop} {ta : TA} (h : dA χ ta L as ρ O fun as ds O => rc r L as O ds k) : dE χ (tCB r ta) L as ρ O k := fun F H σ S x Q q =>
  h F H σ S x _ fun F1 H1 as1 O1 v1 d1 g1 S1 r1 z1 =>
    z1 F1 H1 v1 S1.hd S1.own r1 _ fun F3 H3 as3 O3 v d g3 hd ow r3 z3 =>
      q F3 H3 as3 O3 v d (g1.trans g3) ⟨hd, ow, S1.sl.mono g3.ex⟩ r3 z3
theorem Rep.lay {F H : Hp} {σ : L2.St} {p : Addr} {o : HO} (S : Rep L as F H σ ρ O) (h : H p = none) : Rep L as (upd F p o) (upd H p o) σ ρ O :=
  ⟨S.hd.lay h, S.own.lay h (S.hd.free h), S.sl.mono (ex_lay (S.hd.free h))⟩
theorem Rep.new {F H : Hp} {σ : L2.St} {p : Addr} {o : HO} {d : D} (S : Rep L as F H σ ρ O) (h : H p = none) (c : Cn F o d) : Rep L (as ++ [p]) F (upd H p o) σ ρ (O ++ [d]) :=
  ⟨S.hd.upd (S.hd.free h), S.own.snoc (S.hd.free h) h c, S.sl⟩
/-- a tuple: never changes -/
theorem w_tup {t : TA} (h : dA χ t L as ρ O fun as ds O => ds.length ≤ sizeLine ∧ k as (.tup ds) O) : dE χ (tTup t) L as ρ O k := fun F H σ S x Q q =>
  h F H σ S x _ fun F1 H1 as1 O1 xs ds g1 S1 r1 z1 => ⟨by rw [r1.length]; exact z1.1, fun p hp =>
    q _ _ _ _ _ _ (g1.trans (go_lay hp (S1.hd.free hp))) (S1.lay (o := .tup xs) hp) (.tup upd_same (r1.mono (ex_lay (S1.hd.free hp)))) z1.2⟩
/-- a list, owned | known -/
theorem w_lst {t : TA} (h : dA χ t L as ρ O fun as ds O => ds.length ≤ sizeLine ∧ ∀ p, k (as ++ [p]) (.adr p) (O ++ [.lst ds])) : dE χ (tLst t) L as ρ O k := fun F H σ S x Q q =>
  h F H σ S x _ fun F1 H1 as1 O1 xs ds g1 S1 r1 z1 =>
    ⟨by rw [r1.length]; exact z1.1, fun p hp => q _ _ _ _ _ _ (g1.trans (go_new hp)) (S1.new hp (.lst r1)) (.adr p) (z1.2 p)⟩
theorem w_lstF {t : TA} (h : dA χ t L as ρ O fun as ds O => ds.length ≤ sizeLine ∧ k as (.lst ds) O) : dE χ (tLst t) L as ρ O k := fun F H σ S x Q q =>
  h F H σ S x _ fun F1 H1 as1 O1 xs ds g1 S1 r1 z1 => ⟨by rw [r1.length]; exact z1.1, fun p hp =>
    q _ _ _ _ _ _ (g1.trans (go_lay hp (S1.hd.free hp))) (S1.lay (o := .lst xs) hp) (.lst upd_same (r1.mono (ex_lay (S1.hd.free hp)))) z1.2⟩
theorem w_dnew (z : ∀ p, k (as ++ [p]) (.adr p) (O ++ [.dk []])) : dE χ tDNewK L as ρ O k := fun F H σ S _ Q q p hp =>
  q _ _ _ _ _ _ (go_new hp) (S.new hp (.dk .nil)) (.adr p) (z p)
theorem w_test (h : dE χ te L as ρ O fun as d O => ∃ b, d = .bl b ∧ kT as b O) : dT χ (tTest te) L as ρ O kT := fun F H σ S x Q q =>
  h F H σ S x _ fun F1 H1 as1 O1 v d g1 S1 r1 z1 => by
    obtain ⟨b, rfl, z⟩ := z1
    cases r1
    exact ⟨b, rfl, q _ _ _ _ _ _ g1 S1 rfl z⟩
theorem w_tB (h : dE χ te L as ρ O fun as d O => ∃ b, d = .bl b ∧ kT as b O) : dT χ (tB te) L as ρ O kT := w_test h
theorem w_and (h : dT χ tt L as ρ O fun as b O => if b = true then dT χ tu L as ρ O kT else kT as false O) : dT χ (tAnd tt tu) L as ρ O kT := fun F H σ S x Q q =>
  h F H σ S x _ fun F1 H1 as1 O1 v b g1 S1 r1 z1 => by
    cases r1
    cases v with
    | true => exact z1 F1 H1 σ S1 (x.go g1) _ fun F2 H2 as2 O2 y b2 g2 S2 r2 z2 => q _ _ _ _ _ _ (g1.trans g2) S2 r2 z2
    | false => exact q _ _ _ _ _ _ g1 S1 rfl z1
theorem w_or (h : dT χ tt L as ρ O fun as b O => if b = true then kT as true O else dT χ tu L as ρ O kT) : dT χ (tOr tt tu) L as ρ O kT := fun F H σ S x Q q =>
  h F H σ S x _ fun F1 H1 as1 O1 v b g1 S1 r1 z1 => by
    cases r1
    cases v with
    | false => exact z1 F1 H1 σ S1 (x.go g1) _ fun F2 H2 as2 O2 y b2 g2 S2 r2 z2 => q _ _ _ _ _ _ (g1.trans g2) S2 r2 z2
    | true => exact q _ _ _ _ _ _ g1 S1 rfl z1
theorem w_not (h : dT χ tt L as ρ O fun as b O => kT as (!b) O) : dT χ (tNot tt) L as ρ O kT := fun F H σ S x Q q =>
  h F H σ S x _ fun F1 H1 as1 O1 v b g1 S1 r1 z1 => by
    cases r1
    exact q _ _ _ _ _ _ g1 S1 rfl z1
theorem w_andV (h : dE χ ta L as ρ O fun as d O => ∃ b, d = .bl b ∧ if b = true then dE χ tb L as ρ O k else k as (.bl false) O) : dE χ (tAndV ta tb) L as ρ O k := fun F H σ S x Q q =>
  h F H σ S x _ fun F1 H1 as1 O1 v d g1 S1 r1 z1 => by
    obtain ⟨b, rfl, z⟩ := z1
    cases r1
    refine ⟨b, rfl, ?_⟩
    cases b with
    | true => exact z F1 H1 σ S1 (x.go g1) _ fun F2 H2 as2 O2 y b2 g2 S2 r2 z2 => q _ _ _ _ _ _ (g1.trans g2) S2 r2 z2
    | false => exact q _ _ _ _ _ _ g1 S1 (.bl _) z
theorem w_orV (h : dE χ ta L as ρ O fun as d O => ∃ b, d = .bl b ∧ if b = true then k as (.bl true) O else dE χ tb L as ρ O k) : dE χ (tOrV ta tb) L as ρ O k := fun F H σ S x Q q =>
  h F H σ S x _ fun F1 H1 as1 O1 v d g1 S1 r1 z1 => by
    obtain ⟨b, rfl, z⟩ := z1
    cases r1
    refine ⟨b, rfl, ?_⟩
    cases b with
    | false => exact z F1 H1 σ S1 (x.go g1) _ fun F2 H2 as2 O2 y b2 g2 S2 r2 z2 => q _ _ _ _ _ _ (g1.trans g2) S2 r2 z2
    | true => exact q _ _ _ _ _ _ g1 S1 (.bl _) z
theorem w_notV (h : dE χ ta L as ρ O fun as d O => ∃ b, d = .bl b ∧ k as (.bl (!b)) O) : dE χ (tNotV ta) L as ρ O k := fun F H σ S x Q q =>
  h F H σ S x _ fun F1 H1 as1 O1 v d g1 S1 r1 z1 => by
    obtain ⟨b, rfl, z⟩ := z1
    cases r1
    exact ⟨b, rfl, q _ _ _ _ _ _ g1 S1 (.bl _) z⟩
theorem w_if (h : dT χ tt L as ρ O fun as b O => if b = true then dE χ ta L as ρ O k else dE χ tb L as ρ O k) : dE χ (tIf tt ta tb) L as ρ O k := fun F H σ S x Q q =>
  h F H σ S x _ fun F1 H1 as1 O1 v b g1 S1 r1 z1 => by
    cases r1
    cases v with
    | true => exact z1 F1 H1 σ S1 (x.go g1) _ fun F2 H2 as2 O2 y b2 g2 S2 r2 z2 => q _ _ _ _ _ _ (g1.trans g2) S2 r2 z2
    | false => exact z1 F1 H1 σ S1 (x.go g1) _ fun F2 H2 as2 O2 y b2 g2 S2 r2 z2 => q _ _ _ _ _ _ (g1.trans g2) S2 r2 z2
theorem rv_I0 {g : Int → Int → V} {i j : Int} (r : ∀ F, R F (g i j) d) (z : k as d O) : rv (rI0 g) L as O (.int i) (.int j) k := fun F H x y hd ow r1 r2 Q q => by
  cases r1
  cases r2
  exact ⟨i, j, rfl, rfl, q F H as O _ d (.refl ..) hd ow (r F) z⟩
theorem rv_I {C : Int → Int → Prop} {g : Int → Int → V} {i j : Int} (r : ∀ F, R F (g i j) d) (z : C i j ∧ k as d O) : rv (rI C g) L as O (.int i) (.int j) k := fun F H x y hd ow r1 r2 Q q => by
  cases r1
  cases r2
  exact ⟨i, j, rfl, rfl, z.1, q F H as O _ d (.refl ..) hd ow (r F) z.2⟩
theorem rv_i0 {g : Int → Int → Int} {i j : Int} (z : k as (.int (g i j)) O) : rv (rI0 fun i j => .int (g i j)) L as O (.int i) (.int j) k := rv_I0 (fun _ => .int _) z
theorem rv_b0 {g : Int → Int → Bool} {i j : Int} (z : k as (.bl (g i j)) O) : rv (rI0 fun i j => .bl (g i j)) L as O (.int i) (.int j) k := rv_I0 (fun _ => .bl _) z
theorem rv_i {C : Int → Int → Prop} {g : Int → Int → Int} {i j : Int} (hc : C i j) (z : k as (.int (g i j)) O) : rv (rI C fun i j => .int (g i j)) L as O (.int i) (.int j) k := rv_I (fun _ => .int _) ⟨hc, z⟩
/-- == of scalars -/
def eqD : D → D → Bool
  | .non, .non => true
  | .bl a, .bl b => a == b
  | .int a, .int b => a == b
  | .str a, .str b => a == b
  | _, _ => false
def scalD : D → D → Bool
  | .non, .non => true | .non, .int _ => true | .int _, .non => true | .non, .bl _ => true | .bl _, .non => true | .non, .str _ => true | .str _, .non => true
  | .int _, .int _ => true | .bl _, .bl _ => true | .str _, .str _ => true
  | .int _, .str _ => true | .str _, .int _ => true | .bl _, .str _ => true | .str _, .bl _ => true
  | _, _ => false
theorem scal_of {F : Hp} {x y : V} {d1 d2 : D} (r1 : R F x d1) (r2 : R F y d2) (h : scalD d1 d2 = true) : scal x y = true ∧ decide (x = y) = eqD d1 d2 := by
  cases r1 <;> cases r2 <;> first
    | (simp [scalD] at h; done)
    | exact ⟨rfl, rfl⟩
    | exact ⟨rfl, dec_int⟩
    | exact ⟨rfl, dec_bl⟩
    | exact ⟨rfl, dec_str⟩
theorem rv_eq (h : scalD d1 d2 = true) (z : k as (.bl (eqD d1 d2)) O) : rv rEq L as O d1 d2 k := fun F H x y hd ow r1 r2 Q q => by
  obtain ⟨e1, e2⟩ := scal_of r1 r2 h
  exact ⟨e1, e2 ▸ q F H as O _ _ (.refl ..) hd ow (.bl _) z⟩
theorem rv_ne (h : scalD d1 d2 = true) (z : k as (.bl (!eqD d1 d2)) O) : rv rNe L as O d1 d2 k := fun F H x y hd ow r1 r2 Q q => by
  obtain ⟨e1, e2⟩ := scal_of r1 r2 h
  exact ⟨e1, e2 ▸ q F H as O _ _ (.refl ..) hd ow (.bl _) z⟩
section
variable {ts tw : TS} {K : Kt} {g : TG}
theorem s_seq (h : dS χ ts L as ρ O { K with nx := fun as ρ O => dS χ tw L as ρ O K }) : dS χ (tSeq ts tw) L as ρ O K := fun F H σ S x Z z =>
  h F H σ S x _ ⟨fun F1 H1 as1 σ1 ρ1 O1 g1 S1 z1 => z1 F1 H1 σ1 S1 (x.go g1) Z (z.go g1), z.rt, z.bk, z.ct⟩
theorem s_next (h : K.nx as ρ O) : dS χ tNext L as ρ O K := fun F H σ S _ Z z => z.nx F H as σ ρ O (.refl ..) S h
theorem s_cont (h : K.ct as ρ O) : dS χ tCont L as ρ O K := fun F H σ S _ Z z => z.ct F H as σ ρ O (.refl ..) S h
theorem s_asg (h : dE χ te L as ρ O fun as d O => dG χ g d L as ρ O K.nx) : dS χ (tAsg te g) L as ρ O K := fun F H σ S x Z z =>
  h F H σ S x _ fun F1 H1 as1 O1 v d g1 S1 r1 z1 => z1 F1 H1 σ v S1 (x.go g1) r1 _ fun F2 H2 as2 σ2 ρ2 O2 g2 => z.nx F2 H2 as2 σ2 ρ2 O2 (g1.trans g2)
theorem g_name {kG : List Addr → DSt → List D → Prop} {i : Nat} (z : kG as (ρ.set i (some d)) O) : dG χ (gName i) d L as ρ O kG := fun F H σ v S _ r Q q =>
  q F H as _ _ O (.refl ..) ⟨S.hd, S.own, S.sl.set r i⟩ z
theorem s_set {i : Nat} (h : dE χ te L as ρ O fun as d O => K.nx as (ρ.set i (some d)) O) : dS χ (tAsg te (gName i)) L as ρ O K := s_asg (h.imp fun _ _ _ z => g_name z)
theorem s_drop (h : dE χ te L as ρ O fun as d O => K.nx as ρ O) : dS χ (tDrop te) L as ρ O K := fun F H σ S x Z z =>
  h F H σ S x _ fun F1 H1 as1 O1 v d g1 S1 r1 z1 => z.nx F1 H1 as1 σ ρ O1 g1 S1 z1
theorem s_ret (h : dE χ te L as ρ O K.rt) : dS χ (tRet te) L as ρ O K := fun F H σ S x Z z =>
  h F H σ S x _ fun F1 H1 as1 O1 v d g1 S1 r1 z1 => z.rt F1 H1 as1 O1 v d g1 S1.hd S1.own r1 z1
theorem s_if (h : dT χ tt L as ρ O fun as b O => if b = true then dS χ ts L as ρ O K else dS χ tw L as ρ O K) : dS χ (tIfS tt ts tw) L as ρ O K := fun F H σ S x Z z =>
  h F H σ S x _ fun F1 H1 as1 O1 v b g1 S1 r1 z1 => by
    cases r1
    cases v with
    | true => exact z1 F1 H1 σ S1 (x.go g1) Z (z.go g1)
    | false => exact z1 F1 H1 σ S1 (x.go g1) Z (z.go g1)
theorem gs_nil {kG : List Addr → DSt → List D → Prop} (z : kG as ρ O) : dGs χ gNil [] L as ρ O kG := fun F H σ vs S _ r Q q => by
  cases r
  exact ⟨rfl, q F H as σ ρ O (.refl ..) S z⟩
theorem gs_cons {kG : List Addr → DSt → List D → Prop} {gs : TGs} {ds : List D} (h : dG χ g d L as ρ O fun as ρ O => dGs χ gs ds L as ρ O kG) : dGs χ (gCons g gs) (d :: ds) L as ρ O kG := fun F H σ vs S x r Q q => by
  cases r with
  | cons r1 r2 =>
    exact ⟨_, _, rfl, h F H σ _ S x r1 _ fun F1 H1 as1 σ1 ρ1 O1 g1 S1 z1 => z1 F1 H1 σ1 _ S1 (x.go g1) (r2.mono g1.ex) _ fun F2 H2 as2 σ2 ρ2 O2 g2 => q F2 H2 as2 σ2 ρ2 O2 (g1.trans g2)⟩
theorem g_tup {kG : List Addr → DSt → List D → Prop} {KK : PySem.W.Frag} {n : Nat} {gs : TGs} {ds : List D} (hn : ds.length = n) (h : dGs χ gs ds L as ρ O kG) : dG χ (gTup KK n gs) (.tup ds) L as ρ O kG := fun F H σ v S x r Q q => by
  cases r with
  | tup e r => exact ⟨_, _, rfl, SqT.of (S.hd.tup e), by rw [r.length]; exact hn, h F H σ _ S x r Q q⟩
theorem s_for {wi : TI} (h : dI χ wi L as ρ O fun as1 ds O1 => ∃ I : Nat → List Addr → DSt → List D → Prop, I 0 as1 ρ O1 ∧
    (∀ i as ρ O d, ds[i]? = some d → I i as ρ O → dG χ g d L as ρ O fun as ρ O => dS χ tw L as ρ O { nx := I (i + 1), ct := I (i + 1), bk := K.nx, rt := K.rt }) ∧ ∀ as ρ O, I ds.length as ρ O → K.nx as ρ O) :
    dS χ (tFor wi g tw) L as ρ O K := fun F H σ S x Z z =>
  h F H σ S x _ fun F1 H1 as1 O1 J ds g1 S1 ⟨G, Y, wk, hG, hY⟩ ⟨I, i0, is, ie⟩ => by
    refine for_it wk (fun i σ' H' => ∃ F' as' ρ' O', Go as1 F1 H1 as' F' H' ∧ Rep L as' F' H' σ' ρ' O' ∧ I i as' ρ' O') ⟨F1, as1, ρ, O1, .refl .., S1, i0⟩ ?_ ?_ ?_
    · rintro i σ' H' _ ⟨F', as', ρ', O', g', S', _⟩
      exact hG F' H' as' g' S'.hd
    · rintro i v σ' H' H2 hi ⟨F', as', ρ', O', g', S', z'⟩ hy
      obtain ⟨F3, d, hd, g3, hd3, ow3, r3⟩ := hY i as' H' H2 v F' O' hi g'.ex S'.hd S'.own hy
      have S3 : Rep L as' F3 H2 σ' ρ' O' := ⟨hd3, ow3, S'.sl.mono g3.ex⟩
      refine is i as' ρ' O' d hd z' F3 H2 σ' v S3 (x.go (g1.trans (g'.trans g3))) r3 _ fun F4 H4 as4 σ4 ρ4 O4 g4 S4 z4 => ?_
      have gg := g'.trans (g3.trans g4)
      exact z4 F4 H4 σ4 S4 (x.go (g1.trans gg)) _ ⟨fun F5 H5 as5 σ5 ρ5 O5 g5 S5 z5 => ⟨F5, as5, ρ5, O5, gg.trans g5, S5, z5⟩,
        (z.go (g1.trans gg)).rt, (z.go (g1.trans gg)).nx, fun F5 H5 as5 σ5 ρ5 O5 g5 S5 z5 => ⟨F5, as5, ρ5, O5, gg.trans g5, S5, z5⟩⟩
    · rintro σ' H' ⟨F', as', ρ', O', g', S', z'⟩
      exact z.nx F' H' as' σ' ρ' O' (g1.trans g') S' (ie as' ρ' O' z')
theorem s_while (I : Nat → List Addr → DSt → List D → Prop) (m0 : Nat) (i0 : I m0 as ρ O)
    (h : ∀ m as ρ O, I m as ρ O → dT χ tt L as ρ O fun as b O => if b = true then dS χ tw L as ρ O { nx := fun as ρ O => ∃ m', m' < m ∧ I m' as ρ O, ct := fun as ρ O => ∃ m', m' < m ∧ I m' as ρ O, bk := K.nx, rt := K.rt } else K.nx as ρ O) :
    dS χ (tWhile tt tw) L as ρ O K := fun F H σ S x Z z => by
  refine ⟨fun m σ' H' => ∃ F' as' ρ' O', Go as F H as' F' H' ∧ Rep L as' F' H' σ' ρ' O' ∧ I m as' ρ' O', ⟨m0, F, as, ρ, O, .refl .., S, i0⟩, ?_⟩
  rintro m σ' H' ⟨F', as', ρ', O', g', S', z'⟩
  refine h m as' ρ' O' z' F' H' σ' S' (x.go g') _ fun F2 H2 as2 O2 v b g2 S2 r2 z2 => ?_
  cases r2
  cases v with
  | false => exact z.nx F2 H2 as2 σ' ρ' O2 (g'.trans g2) S2 z2
  | true =>
    have gg := g'.trans g2
    refine ⟨fun σ3 H3 => ∃ m', m' < m ∧ ∃ F' as' ρ' O', Go as F H as' F' H3 ∧ Rep L as' F' H3 σ3 ρ' O' ∧ I m' as' ρ' O', fun _ _ h => h, ?_⟩
    exact z2 F2 H2 σ' S2 (x.go gg) _ ⟨fun F5 H5 as5 σ5 ρ5 O5 g5 S5 ⟨m', hm, z5⟩ => ⟨m', hm, F5, as5, ρ5, O5, gg.trans g5, S5, z5⟩, (z.go gg).rt, (z.go gg).nx,
      fun F5 H5 as5 σ5 ρ5 O5 g5 S5 ⟨m', hm, z5⟩ => ⟨m', hm, F5, as5, ρ5, O5, gg.trans g5, S5, z5⟩⟩
/-- an owned object is known from here on: it will not change again -/
theorem s_freeze (j : Nat) (a : Addr) (c : D) (i : Nat) (ha : as[j]? = some a) (hc : O[j]? = some c) (hi : ρ[i]? = some (some (.adr a))) (h : dS χ ts L (as.eraseIdx j) (ρ.set i (some c)) (O.eraseIdx j) K) : dS χ ts L as ρ O K := fun F H σ S x Z z => by
  obtain ⟨hf, o, ho, cn⟩ := S.own.at_ j a c ha hc
  have S' := S.frz ha hc hf ho cn
  have g : Go as F H (as.eraseIdx j) (upd F a o) H := go_frz hf ha
  obtain ⟨v, e, r⟩ := S.sl.get hi
  cases r
  have r' : R (upd F a o) (.ref a) c := .of upd_same (cn.mono (ex_lay hf))
  have hs : σ.set i (some (.ref a)) = σ := by
    apply List.ext_getElem?
    intro n
    by_cases q : i = n
    · subst q
      rw [List.getElem?_set_self (List.getElem?_eq_some_iff.mp e).1, e]
    · rw [List.getElem?_set_ne q]
  have S2 : Rep L (as.eraseIdx j) (upd F a o) H σ (ρ.set i (some c)) (O.eraseIdx j) := ⟨S'.hd, S'.own, by rw [← hs]; exact S'.sl.set r' i⟩
  exact h _ _ σ S2 (x.go g) Z (z.go g)
end
end
end DL
namespace DL
open PySem PySem.Spec PyProof.Rows L2
/-- a module's int, text -/
theorem pe_gi {X : Cx} {x : Str} {i : Int} {pos : Pos} (hg : Gl X x) (h : ∃ t, X.mg x = some (.int i t)) (hd : (x == ("__debug__" : Str)) = false := by decide) : PE X (.Name x pos) (tC (.int i)) := by
  obtain ⟨t, e⟩ := h
  exact pe_glob hg e ⟨t, rfl⟩ hd
theorem pe_gs {X : Cx} {x z : Str} {pos : Pos} (hg : Gl X x) (h : ∃ t, X.mg x = some (.str z t)) (hd : (x == ("__debug__" : Str)) = false := by decide) : PE X (.Name x pos) (tC (.str z)) := by
  obtain ⟨t, e⟩ := h
  exact pe_glob hg e ⟨t, rfl⟩ hd
/-- the function object of a def -/
def fdAt (K : PySem.W.Frag) (p : Str × Option Str) : FuncData := match K.lookup (He.fAd K p) with
  | some ⟨_, _, .func fd, _⟩ => fd
  | _ => default
section
variable {χ : Xk} {L as : List Addr} {ρ : DSt} {O : List D} {k : List Addr → D → List D → Prop} {kT : List Addr → Bool → List D → Prop} {kA : List Addr → List D → List D → Prop} {ta tb te : TE} {tt tu : TT} {d d1 d2 : D} {KK : PySem.W.Frag}
def putAll : List D → List Nat → List D → List D
  | O, j :: js, c :: cs => (putAll O js cs).set j c
  | O, _, _ => O
theorem putAll_len : ∀ (O : List D) (js : List Nat) (cs : List D), (putAll O js cs).length = O.length
  | O, [], [] => rfl
  | O, [], _ :: _ => rfl
  | O, _ :: _, [] => rfl
  | O, j :: js, c :: cs => by
    show ((putAll O js cs).set j c).length = _
    rw [List.length_set, putAll_len O js cs]
theorem putAll_out : ∀ {O : List D} {js : List Nat} {cs : List D} {i : Nat}, i ∉ js → (putAll O js cs)[i]? = O[i]?
  | O, [], [], _, _ => rfl
  | O, [], _ :: _, _, _ => rfl
  | O, _ :: _, [], _, _ => rfl
  | O, j :: js, c :: cs, i, h => by
    show ((putAll O js cs).set j c)[i]? = _
    rw [List.getElem?_set_ne (show j ≠ i from fun z => h (z ▸ List.mem_cons_self)), putAll_out fun m => h (List.mem_cons_of_mem _ m)]
theorem putAll_in : ∀ {O : List D} {js : List Nat} {cs : List D} {t i : Nat} {d : D}, js.Nodup → js[t]? = some i → (∀ j ∈ js, j < O.length) → js.length = cs.length → (putAll O js cs)[i]? = some d → cs[t]? = some d
  | O, [], cs, t, i, d, _, h, _, _, _ => by simp at h
  | O, j :: js, [], t, i, d, _, _, _, h, _ => by simp at h
  | O, j :: js, c :: cs, 0, i, d, n, h, hl, _, e => by
    simp at h
    subst h
    have e' : ((putAll O js cs).set j c)[j]? = some d := e
    rw [List.getElem?_set_self (by rw [putAll_len]; exact hl j List.mem_cons_self)] at e'
    exact e'
  | O, j :: js, c :: cs, t + 1, i, d, n, h, hl, hc, e => by
    have h : js[t]? = some i := by simpa using h
    obtain ⟨n1, n2⟩ := List.nodup_cons.mp n
    have ne : j ≠ i := fun z => n1 (z ▸ List.mem_of_getElem? h)
    have e' : ((putAll O js cs).set j c)[i]? = some d := e
    rw [List.getElem?_set_ne ne] at e'
    exact putAll_in (t := t) n2 h (fun j m => hl j (List.mem_cons_of_mem _ m)) (by simpa using hc) e'
abbrev selA (as : List Addr) (js : List Nat) : List Addr := js.map fun j => as.getD j 0
abbrev selO (O : List D) (js : List Nat) : List D := js.map fun j => O.getD j .non
theorem selA_at {as : List Addr} {js : List Nat} {t : Nat} {a : Addr} (hl : ∀ j ∈ js, j < as.length) (h : (selA as js)[t]? = some a) : ∃ j, js[t]? = some j ∧ as[j]? = some a := by
  rw [List.getElem?_map] at h
  cases e : js[t]? with
  | none => rw [e] at h; cases h
  | some j =>
    rw [e] at h
    have hj := hl j (List.mem_of_getElem? e)
    refine ⟨j, rfl, ?_⟩
    rw [List.getElem?_eq_getElem hj]
    simp [List.getD_eq_getElem?_getD, List.getElem?_eq_getElem hj] at h
    rw [h]
theorem selA_mem {as : List Addr} {js : List Nat} {a : Addr} (hl : ∀ j ∈ js, j < as.length) (h : a ∈ selA as js) : a ∈ as := by
  obtain ⟨t, ht, e⟩ := List.mem_iff_getElem.mp h
  obtain ⟨j, _, e'⟩ := selA_at hl (by rw [List.getElem?_eq_getElem ht, e] : (selA as js)[t]? = some a)
  exact List.mem_of_getElem? e'
theorem Own.sel {F H : Hp} {js : List Nat} (w : Own F H as O) (n : js.Nodup) (hl : ∀ j ∈ js, j < as.length) : Own F H (selA as js) (selO O js) where
  nd := by
    rw [List.nodup_iff_pairwise_ne, List.pairwise_iff_getElem]
    intro s t hs ht hlt e
    obtain ⟨i, h1, h2⟩ := selA_at hl (List.getElem?_eq_getElem hs)
    obtain ⟨j, h3, h4⟩ := selA_at hl (List.getElem?_eq_getElem ht)
    rw [← e] at h4
    have := nodup_ix w.nd h2 h4
    subst this
    have := L2.nd_ix n h1 h3
    omega
  len := by simp
  at_ := fun t a d h1 h2 => by
    obtain ⟨j, e1, e2⟩ := selA_at hl h1
    have hj := hl j (List.mem_of_getElem? e1)
    rw [List.getElem?_map, e1] at h2
    have hj2 : j < O.length := w.len ▸ hj
    have e3 : O[j]? = some d := by
      simp [List.getD_eq_getElem?_getD, List.getElem?_eq_getElem hj2] at h2
      rw [List.getElem?_eq_getElem hj2, h2]
    exact w.at_ j a d e2 e3
theorem GoX.go {L as as' : List Addr} {F H F' H' : Hp} (g : GoX L as F H L as' F' H') : Go as F H as' F' H' where
  ex := g.ex
  nw := g.nw
  kp := fun b o h n => by
    rcases g.kp b o h n with z | ⟨z, z', _⟩
    · exact z
    · exact absurd z z'
  th := g.th
  sub := g.sub
/-- behind a callee that was handed the part js -/
theorem Own.backX {F H F' H' : Hp} {L' : List Addr} {js : List Nat} {new : List Addr} {cnew Oc : List D} (w : Own F H as O) (n : js.Nodup) (hl : ∀ j ∈ js, j < as.length) (g : GoX L (selA as js) F H L' (selA as js ++ new) F' H')
    (hd' : Hd L' F' H') (w' : Own F' H' (selA as js ++ new) (Oc ++ cnew)) (lo : Oc.length = js.length) : Own F' H' (as ++ new) (putAll O js Oc ++ cnew) ∧ GoX L as F H L' (as ++ new) F' H' := by
  have lA : (selA as js).length = js.length := by simp
  have nnew : ∀ a ∈ new, a ∉ selA as js := fun a m m' => by
    have := w'.nd
    rw [List.nodup_append] at this
    exact this.2.2 a m' a m rfl
  have hnew : ∀ a ∈ new, a ∉ as := fun a m m' => by
    rcases g.sub a (List.mem_append_right _ m) with z | z
    · exact nnew a m z
    · exact w.tr m' z
  have ln : new.length = cnew.length := by
    have := w'.len
    simp at this
    omega
  refine ⟨⟨?_, ?_, ?_⟩, ⟨g.ex, fun a o h => ?_, fun b o h m => g.kp b o h fun z => m (selA_mem hl z), g.th, fun b m => ?_⟩⟩
  · rw [List.nodup_append]
    refine ⟨w.nd, ?_, fun a m b m' z => hnew b m' (z ▸ m)⟩
    have := w'.nd
    rw [List.nodup_append] at this
    exact this.2.1
  · rw [List.length_append, List.length_append, putAll_len, w.len, ln]
  · intro i a d h1 h2
    rcases Nat.lt_or_ge i as.length with z | z
    · rw [List.getElem?_append_left z] at h1
      rw [List.getElem?_append_left (by rw [putAll_len, ← w.len]; exact z)] at h2
      by_cases m : i ∈ js
      · obtain ⟨t, ht, e⟩ := List.mem_iff_getElem.mp m
        have et : js[t]? = some i := by rw [List.getElem?_eq_getElem ht, e]
        have h3 := putAll_in n et (fun j q => w.len ▸ hl j q) lo.symm h2
        have h4 : (selA as js)[t]? = some a := by
          rw [List.getElem?_map, et]
          simp [List.getD_eq_getElem?_getD, h1]
        refine w'.at_ t a d ?_ ?_
        · rw [List.getElem?_append_left (by rw [lA]; exact ht)]; exact h4
        · rw [List.getElem?_append_left (by rw [lo]; exact ht)]; exact h3
      · rw [putAll_out m] at h2
        obtain ⟨e1, o, e2, e3⟩ := w.at_ i a d h1 h2
        have na : a ∉ selA as js := fun q => by
          obtain ⟨t, ht, e⟩ := List.mem_iff_getElem.mp q
          obtain ⟨j, f1, f2⟩ := selA_at hl (by rw [List.getElem?_eq_getElem ht, e] : (selA as js)[t]? = some a)
          have := nodup_ix w.nd h1 f2
          subst this
          exact m (List.mem_of_getElem? f1)
        have fa : F' a = none := by
          cases q : F' a with
          | none => rfl
          | some u =>
            rcases g.nw a u q with q | q | q
            · rw [e1] at q; cases q
            · rw [e2] at q; cases q
            · exact absurd q na
        refine ⟨fa, o, ?_, e3.mono g.ex⟩
        rcases g.kp a o e2 na with q | ⟨q, _⟩
        · exact q
        · exact absurd fa (hd'.lk a q)
    · rw [List.getElem?_append_right z] at h1
      rw [List.getElem?_append_right (by rw [putAll_len, ← w.len]; exact z), putAll_len, ← w.len] at h2
      refine w'.at_ (js.length + (i - as.length)) a d ?_ ?_
      · rw [List.getElem?_append_right (by rw [lA]; omega), lA]
        rw [show js.length + (i - as.length) - js.length = i - as.length by omega]; exact h1
      · rw [List.getElem?_append_right (by rw [lo]; omega), lo]
        rw [show js.length + (i - as.length) - js.length = i - as.length by omega]; exact h2
  · rcases g.nw a o h with z | z | z
    · exact .inl z
    · exact .inr (.inl z)
    · exact .inr (.inr (selA_mem hl z))
  · rcases List.mem_append.mp m with m | m
    · exact .inl m
    · rcases g.sub b (List.mem_append_right _ m) with z | z
      · exact .inl (selA_mem hl z)
      · exact .inr z
theorem Own.back {F H F' H' : Hp} {js : List Nat} {new : List Addr} {cnew Oc : List D} (w : Own F H as O) (n : js.Nodup) (hl : ∀ j ∈ js, j < as.length) (g : Go (selA as js) F H (selA as js ++ new) F' H')
    (hd' : Hd L F' H') (w' : Own F' H' (selA as js ++ new) (Oc ++ cnew)) (lo : Oc.length = js.length) : Own F' H' (as ++ new) (putAll O js Oc ++ cnew) ∧ Go as F H (as ++ new) F' H' := by
  obtain ⟨a, b⟩ := w.backX n hl (g.x (L := L)) hd' w' lo
  exact ⟨a, b.go⟩
abbrev KN := List Addr → D → List D → Prop
abbrev KX := List Addr → Addr → List (Str × D) → List Addr → List D → Prop
/-- locked dicts, owned objects, arguments, contents, what follows, what is raised -/
abbrev Ct := List Addr → List Addr → List D → List D → KN → KX → Prop
def spC (C : Ct) : Sp := fun vs H Q E => ∃ L F as ds O k e, Hd L F H ∧ Own F H as O ∧ Rs F vs ds ∧ C L as ds O k e ∧
  (∀ F' H' as' O' v d, Go as F H as' F' H' → Hd L F' H' → Own F' H' as' O' → R F' v d → k as' d O' → Q v H') ∧
  ∀ F' H' L' as' O' cls d fds, GoX L as F H L' as' F' H' → Hd L' F' H' → Own F' H' as' O' → XD F' H H' d fds → e L' cls fds as' O' → E (.ref cls) d H'
/-- what the def wishes of exceptions -/
def χE (E : XK) (e : KX) : Xk := ⟨fun cls d _ H => E cls d H, fun L cls fds as _ O => e L cls fds as O⟩
def ρ0 (N : List Str) (ds : List D) : DSt := ds.map some ++ List.replicate (N.length - ds.length) none
theorem sl_start {F : Hp} : ∀ {vs : List V} {ds : List D}, Rs F vs ds → ∀ n, Sl F (vs.map some ++ List.replicate n none) (ds.map some ++ List.replicate n none)
  | _, _, .nil, 0 => .nil
  | _, _, .nil, n + 1 => .no (sl_start .nil n)
  | _, _, .cons r t, n => .so r (sl_start t n)
theorem sp_len {C : Ct} {n : Nat} (hC : ∀ L as ds O k e, C L as ds O k e → ds.length = n) : ∀ vs H Q E, spC C vs H Q E → vs.length = n := fun vs H Q E h => by
  obtain ⟨L, F, as, ds, O, k, e, hd, ow, r, c, _, _⟩ := h
  rw [r.length]
  exact hC _ _ _ _ _ _ c
theorem enter {C : Ct} {t : TS} {N : List Str} {vs : List V} {H : Hp} {Q : VK} {E : XK} (h : spC C vs H Q E)
    (hw : ∀ L as ds O k e, C L as ds O k e → dS (χE E e) t L as (ρ0 N ds) O { nx := fun as _ O => k as .non O, rt := k }) : t { nx := fun _ H' => Q .non H', rt := Q } (L2.start N vs) H := by
  obtain ⟨L, F, as, ds, O, k, e, hd, ow, r, c, q, x⟩ := h
  have el := r.length
  refine hw L as ds O k e c F H (L2.start N vs) ⟨hd, ow, ?_⟩ (fun F' H' L' as' σ' ρ' O' cls d fds g S n z => x F' H' L' as' O' cls d fds g S.hd S.own n z) _
    ⟨fun F' H' as' σ' ρ' O' g S z => q F' H' as' O' _ _ g S.hd S.own .non z, q, fun _ _ _ _ _ _ _ _ z => z, fun _ _ _ _ _ _ _ _ z => z⟩
  unfold L2.start ρ0
  rw [el]
  exact sl_start r _
/-- the part js of the owned objects is handed to the callee -/
def cc (C : Ct) (χ : Xk) (ρ : DSt) (js : List Nat) (L as : List Addr) (ds O : List D) (k : List Addr → D → List D → Prop) : Prop :=
  js.Nodup ∧ (∀ j ∈ js, j < as.length) ∧ C L (selA as js) ds (selO O js)
    (fun as' d O' => ∃ new cnew Oc, as' = selA as js ++ new ∧ O' = Oc ++ cnew ∧ Oc.length = js.length ∧ k (as ++ new) d (putAll O js Oc ++ cnew))
    fun L' cls fds as' O' => ∃ new cnew Oc, as' = selA as js ++ new ∧ O' = Oc ++ cnew ∧ Oc.length = js.length ∧ χ.e L' cls fds (as ++ new) ρ (putAll O js Oc ++ cnew)
theorem cc_sp {C : Ct} {js : List Nat} {ds : List D} {F H : Hp} {σ : L2.St} {vs : List V} {E : XK} {Q : VK} (S : Rep L as F H σ ρ O) (x : XP χ L as F H) (r : Rs F vs ds) (c : cc C χ ρ js L as ds O k) (hE : ∀ cls d H, χ.E cls d σ H → E cls d H)
    (q : ∀ F' H' as' O' v d, Go as F H as' F' H' → Rep L as' F' H' σ ρ O' → R F' v d → k as' d O' → Q v H') : spC C vs H Q E := by
  obtain ⟨n, hl, c⟩ := c
  refine ⟨L, F, _, ds, _, _, _, S.hd, S.own.sel n hl, r, c, ?_, ?_⟩
  · rintro F' H' as' O' v d g hd ow r' ⟨new, cnew, Oc, rfl, rfl, lo, z⟩
    obtain ⟨ow', g'⟩ := S.own.back n hl g hd ow lo
    exact q _ _ _ _ _ _ g' ⟨hd, ow', S.sl.mono g'.ex⟩ r' z
  · rintro F' H' L' as' O' cls d fds g hd ow nx ⟨new, cnew, Oc, rfl, rfl, lo, z⟩
    obtain ⟨ow', g'⟩ := S.own.backX n hl g hd ow lo
    exact hE _ _ _ (x _ _ _ _ _ _ _ _ _ _ g' ⟨hd, ow', S.sl.mono g'.ex⟩ nx z)
/-- calls: the part js of the owned is handed on; what raises nothing -/
theorem d_call {C : Ct} (js : List Nat) {ta : TA} {E : XK} (h : dA χ ta L as ρ O fun as ds O => cc C X0 ρ js L as ds O k) : dE χ (tCall (spC C) [] E ta) L as ρ O k := fun F H σ S x Q q =>
  h F H σ S x _ fun F1 H1 as1 O1 vs ds g1 S1 r1 z1 => by
    rw [List.append_nil]
    exact cc_sp S1 xp0 r1 z1 (fun _ _ _ z => z.elim) fun F' H' as' O' v d g => q F' H' as' O' v d (g1.trans g)
/-- a method of an instance (owned or known) -/
def insOf (as : List Addr) (O : List D) (d : D) (C : Addr) (fds : List (Str × D)) : Prop :=
  d = .ins C fds ∨ ∃ (j : Nat) (a : Addr), d = .adr a ∧ as[j]? = some a ∧ O[j]? = some (D.ins C fds)
theorem Rn.lookup {F : Hp} {m : Str} : ∀ {fs : List (Str × V)} {fds : List (Str × D)}, Rn F fs fds → fds.lookup m = none → fs.lookup m = none
  | _, _, .nil, _ => rfl
  | _, _, .cons (k := k) r t, h => by
    rw [List.lookup_cons] at h ⊢
    cases e : m == k with
    | true => rw [e] at h; cases h
    | false => rw [e] at h; exact Rn.lookup t h
theorem Rn.get {F : Hp} {m : Str} {d : D} : ∀ {fs : List (Str × V)} {fds : List (Str × D)}, Rn F fs fds → fds.lookup m = some d → ∃ v, fs.lookup m = some v ∧ R F v d
  | _, _, .nil, h => by cases h
  | _, _, .cons (k := k) r t, h => by
    rw [List.lookup_cons] at h ⊢
    cases e : m == k with
    | true => rw [e] at h; cases h; exact ⟨_, rfl, r⟩
    | false => rw [e] at h; exact Rn.get t h
theorem ins_at {F H : Hp} {v : V} {C : Addr} {fds : List (Str × D)} (hd : Hd L F H) (ow : Own F H as O) (r : R F v d) (i : insOf as O d C fds) : ∃ a dx fs, v = .ref a ∧ H a = some (.ins C dx fs) ∧ Rn F fs fds := by
  rcases i with rfl | ⟨j, a, rfl, e1, e2⟩
  · cases r with
    | ins e r => exact ⟨_, _, _, rfl, hd.ins e, r⟩
  · cases r
    obtain ⟨_, o, e3, e4⟩ := ow.at_ j a _ e1 e2
    cases e4 with
    | ins r => exact ⟨_, _, _, rfl, e3, r⟩
theorem d_meth {C : Ct} {cl : Addr} {m : Str} (js : List Nat) {ta : TE} {t : TA} {E : XK}
    (h : dE χ ta L as ρ O fun as d O => (∃ fds, insOf as O d cl fds ∧ fds.lookup m = none) ∧ dA χ t L as ρ O fun as ds O => cc C X0 ρ js L as (d :: ds) O k) :
    dE χ (tMeth cl m (spC C) [] E ta t) L as ρ O k := fun F H σ S x Q q =>
  h F H σ S x _ fun F1 H1 as1 O1 v d g1 S1 r1 ⟨⟨fds, i, ln⟩, z1⟩ => by
    obtain ⟨a, dx, fs, rfl, e, rn⟩ := ins_at S1.hd S1.own r1 i
    refine ⟨a, dx, fs, rfl, e, rn.lookup ln, ?_⟩
    refine z1 F1 H1 σ S1 (x.go g1) _ fun F2 H2 as2 O2 vs ds g2 S2 r2 z2 => ?_
    rw [List.append_nil]
    exact cc_sp S2 xp0 (.cons (r1.mono g2.ex) r2) z2 (fun _ _ _ z => z.elim) fun F' H' as' O' v d g => q F' H' as' O' v d ((g1.trans g2).trans g)
/-- the j-th handed on -/
theorem sel1 {j : Nat} {a : Addr} {c : D} (ha : as[j]? = some a) (ho : O[j]? = some c) : [j].Nodup ∧ (∀ i ∈ [j], i < as.length) ∧ selA as [j] = [a] ∧ selO O [j] = [c] ∧ as.getD j 0 = a := by
  have hj := (List.getElem?_eq_some_iff.mp ha).1
  refine ⟨by simp, fun i m => by simp at m; omega, ?_, ?_, ?_⟩
  · simp [List.getD_eq_getElem?_getD, ha]
  · simp [List.getD_eq_getElem?_getD, ho]
  · simp [List.getD_eq_getElem?_getD, ha]
theorem no_js : ([] : List Nat).Nodup ∧ ∀ i ∈ ([] : List Nat), i < as.length := ⟨List.nodup_nil, fun _ m => by cases m⟩
/-- what a callee's end leaves: nothing handed on | the j-th handed on; nothing new | a new one -/
theorem ck0 {k : KN} (z : k as d O) : ∃ new cnew Oc, ([] : List Addr) = selA as [] ++ new ∧ ([] : List D) = Oc ++ cnew ∧ Oc.length = ([] : List Nat).length ∧ k (as ++ new) d (putAll O [] Oc ++ cnew) :=
  ⟨[], [], [], rfl, rfl, rfl, by simpa [putAll] using z⟩
theorem ckN {k : KN} {p : Addr} {c : D} (z : k (as ++ [p]) d (O ++ [c])) : ∃ new cnew Oc, [p] = selA as [] ++ new ∧ [c] = Oc ++ cnew ∧ Oc.length = ([] : List Nat).length ∧ k (as ++ new) d (putAll O [] Oc ++ cnew) :=
  ⟨[p], [c], [], rfl, rfl, rfl, by simpa [putAll] using z⟩
theorem ck1 {k : KN} {j : Nat} {a : Addr} {c : D} (ha : as.getD j 0 = a) (z : k as d (O.set j c)) : ∃ new cnew Oc, [a] = selA as [j] ++ new ∧ [c] = Oc ++ cnew ∧ Oc.length = [j].length ∧ k (as ++ new) d (putAll O [j] Oc ++ cnew) :=
  ⟨[], [], [c], by simp [← ha], rfl, rfl, by simpa [putAll] using z⟩
theorem rv_ixL {ds : List D} {i : Int} (h : atI ds i = some d) (z : k as d O) : rv (rIxL KK) L as O (.lst ds) (.int i) k := fun F H x y hd ow r1 r2 Q q => by
  cases r2
  cases r1 with
  | lst e r =>
    unfold atI at h
    rw [← r.length] at h
    cases e1 : ixN _ i with
    | none => rw [e1] at h; cases h
    | some j =>
      rw [e1] at h
      obtain ⟨v, e2, r2⟩ := r.get (show _ = some d from h)
      exact ⟨_, _, i, v, rfl, rfl, SqL.of (hd.lst e), by unfold atI; rw [e1]; exact e2, q F H as O v d (.refl ..) hd ow r2 z⟩
theorem rv_ixO {ds : List D} {i : Int} {a : Addr} (j : Nat) (ha : as[j]? = some a) (hc : O[j]? = some (.lst ds)) (h : atI ds i = some d) (z : k as d O) : rv (rIxL KK) L as O (.adr a) (.int i) k := fun F H x y hd ow r1 r2 Q q => by
  cases r2
  cases r1
  obtain ⟨_, o, e, c⟩ := ow.at_ j a _ ha hc
  cases c with
  | lst r =>
    unfold atI at h
    rw [← r.length] at h
    cases e1 : ixN _ i with
    | none => rw [e1] at h; cases h
    | some j =>
      rw [e1] at h
      obtain ⟨v, e2, r2⟩ := r.get (show _ = some d from h)
      exact ⟨_, _, i, v, rfl, rfl, SqL.of e, by unfold atI; rw [e1]; exact e2, q F H as O v d (.refl ..) hd ow r2 z⟩
theorem rv_ixT {ds : List D} {i : Int} (h : atI ds i = some d) (z : k as d O) : rv (rIxT KK) L as O (.tup ds) (.int i) k := fun F H x y hd ow r1 r2 Q q => by
  cases r2
  cases r1 with
  | tup e r =>
    unfold atI at h
    rw [← r.length] at h
    cases e1 : ixN _ i with
    | none => rw [e1] at h; cases h
    | some j =>
      rw [e1] at h
      obtain ⟨v, e2, r2⟩ := r.get (show _ = some d from h)
      exact ⟨_, _, i, v, rfl, rfl, SqT.of (hd.tup e), by unfold atI; rw [e1]; exact e2, q F H as O v d (.refl ..) hd ow r2 z⟩
theorem rv_ixS {z : Str} {i : Int} {c : Nat} (hl : z.length ≤ sizeLine) (h : atI z.cps.toList i = some c) (hk : k as (.str ⟨#[c]⟩) O) : rv rIxS L as O (.str z) (.int i) k := fun F H x y hd ow r1 r2 Q q => by
  cases r1
  cases r2
  exact ⟨z, i, c, rfl, rfl, hl, h, q F H as O _ _ (.refl ..) hd ow (.str _) hk⟩
/-- len: a text, a known list, tuple, an owned list -/
def lenD (as : List Addr) (O : List D) (d : D) (n : Nat) : Prop := match d with
  | .str z => z.length ≤ sizeLine ∧ n = z.length
  | .lst ds => n = ds.length
  | .tup ds => n = ds.length
  | .adr a => ∃ (j : Nat) (ds : List D), as[j]? = some a ∧ O[j]? = some (.lst ds) ∧ n = ds.length
  | _ => False
theorem rc_len {n : Nat} (h : lenD as O d n) (z : k as (.int n) O) : rc (fun xs H Q => ∃ x n, xs = [x] ∧ LenV KK x H n ∧ Q (.int n) H) L as O [d] k := fun F H xs hd ow r Q q => by
  cases r with
  | cons r1 r2 =>
    cases r2
    refine ⟨_, n, rfl, ?_, q F H as O _ _ (.refl ..) hd ow (.int _) z⟩
    cases r1 with
    | str x => exact h
    | lst e r => exact .inl ⟨_, SqL.of (hd.lst e), by rw [r.length]; exact h⟩
    | tup e r => exact .inr ⟨_, SqT.of (hd.tup e), by rw [r.length]; exact h⟩
    | adr a =>
      obtain ⟨j, ds, e1, e2, e3⟩ := h
      obtain ⟨_, o, e, c⟩ := ow.at_ j a _ e1 e2
      cases c with
      | lst r => exact .inl ⟨_, SqL.of e, by rw [r.length]; exact e3⟩
    | non => exact h.elim
    | bl => exact h.elim
    | int => exact h.elim
    | dk => exact h.elim
    | ins => exact h.elim
    | ldk => exact h.elim
    | zst => exact h.elim
    | zkl => exact h.elim
    | zkt => exact h.elim
    | exc => exact h.elim
    | fz => exact h.elim
theorem rc_int {i : Int} (z : k as (.int i) O) : rc (fun xs H Q => (∃ i, xs = [.int i] ∧ Q (.int i) H) ∨ ∃ b, xs = [.bl b] ∧ Q (.int (if b then 1 else 0)) H) L as O [.int i] k := fun F H xs hd ow r Q q => by
  cases r with
  | cons r1 r2 =>
    cases r2
    cases r1
    exact .inl ⟨i, rfl, q F H as O _ _ (.refl ..) hd ow (.int _) z⟩
/-- all(..), any(..) of a list of bools -/
def blsOf (as : List Addr) (O : List D) (d : D) (bs : List Bool) : Prop := d = .lst (bs.map D.bl) ∨ ∃ (j : Nat) (a : Addr), d = .adr a ∧ as[j]? = some a ∧ O[j]? = some (D.lst (bs.map D.bl))
theorem sq_of {F H : Hp} {v : V} {ds : List D} (hd : Hd L F H) (ow : Own F H as O) (r : R F v d) (h : d = .lst ds ∨ ∃ (j : Nat) (a : Addr), d = .adr a ∧ as[j]? = some a ∧ O[j]? = some (D.lst ds)) : ∃ a xs, v = .ref a ∧ H a = some (.lst xs) ∧ Rs F xs ds := by
  rcases h with rfl | ⟨j, a, rfl, e1, e2⟩
  · cases r with
    | lst e r => exact ⟨_, _, rfl, hd.lst e, r⟩
  · cases r
    obtain ⟨_, o, e3, e4⟩ := ow.at_ j a _ e1 e2
    cases e4 with
    | lst r => exact ⟨_, _, rfl, e3, r⟩
theorem rc_all {bs : List Bool} (h : blsOf as O d bs) (z : k as (.bl (bs.all id)) O) : rc (rAll KK) L as O [d] k := fun F H xs hd ow r Q q => by
  cases r with
  | cons r1 r2 =>
    cases r2
    obtain ⟨a, xs, rfl, e, r⟩ := sq_of hd ow r1 h
    rw [r.bls] at e
    exact ⟨a, bs, rfl, SqL.of e, q F H as O _ _ (.refl ..) hd ow (.bl _) z⟩
theorem w_bm {T : String} {r : V → List V → Hp → VK → Prop} {ta : TE} {t : TA} (a : Addr) (h : dE χ ta L as ρ O fun as1 d O1 => d = .adr a ∧ (∃ (j : Nat) (ds : List D), as1[j]? = some a ∧ O1[j]? = some (D.lst ds)) ∧ T = "list" ∧ dA χ t L as1 ρ O1 fun as2 ds O2 => rc (fun vs H Q => r (.ref a) vs H Q) L as2 O2 ds k) :
    dE χ (tBM KK T r ta t) L as ρ O k := fun F H σ S x Q q =>
  h F H σ S x _ fun F1 H1 as1 O1 v d g1 S1 r1 ⟨ed, ⟨j, ds, e1, e2⟩, eT, z1⟩ => by
    subst ed
    subst eT
    cases r1
    obtain ⟨_, o, e, c⟩ := S1.own.at_ j a _ e1 e2
    cases c with
    | lst rr =>
      refine ⟨.inl ⟨rfl, _, SqL.of e⟩, z1 F1 H1 σ S1 (x.go g1) _ fun F2 H2 as2 O2 vs ds g2 S2 r2 z2 => ?_⟩
      exact z2 F2 H2 vs S2.hd S2.own r2 _ fun F3 H3 as3 O3 v d g3 hd ow r3 z3 => q F3 H3 as3 O3 v d (g1.trans (g2.trans g3)) ⟨hd, ow, S2.sl.mono g3.ex⟩ r3 z3
theorem w_bm0 {T : String} {r : V → List V → Hp → VK → Prop} {ta : TE} (a : Addr) (h : dE χ ta L as ρ O fun as1 d O1 => d = .adr a ∧ (∃ (j : Nat) (ds : List D), as1[j]? = some a ∧ O1[j]? = some (D.lst ds)) ∧ T = "list" ∧ rc (fun vs H Q => r (.ref a) vs H Q) L as1 O1 [] k) :
    dE χ (tBM0 KK T r ta) L as ρ O k := fun F H σ S x Q q =>
  h F H σ S x _ fun F1 H1 as1 O1 v d g1 S1 r1 ⟨ed, ⟨j, ds, e1, e2⟩, eT, z1⟩ => by
    subst ed
    subst eT
    cases r1
    obtain ⟨_, o, e, c⟩ := S1.own.at_ j a _ e1 e2
    cases c with
    | lst rr =>
      refine ⟨.inl ⟨rfl, _, SqL.of e⟩, ?_⟩
      exact z1 F1 H1 [] S1.hd S1.own .nil _ fun F3 H3 as3 O3 v d g3 hd ow r3 z3 => q F3 H3 as3 O3 v d (g1.trans g3) ⟨hd, ow, S1.sl.mono g3.ex⟩ r3 z3
theorem Own.lst {F H : Hp} {j : Nat} {a : Addr} {ds : List D} (ow : Own F H as O) (e1 : as[j]? = some a) (e2 : O[j]? = some (.lst ds)) : ∃ xs, H a = some (.lst xs) ∧ Rs F xs ds := by
  obtain ⟨_, o, e, c⟩ := ow.at_ j a _ e1 e2
  cases c with
  | lst r => exact ⟨_, e, r⟩
theorem rc_append {a : Addr} {ds : List D} (j : Nat) (e1 : as[j]? = some a) (e2 : O[j]? = some (.lst ds)) (hl : ds.length < sizeLine) (z : k as .non (O.set j (.lst (ds ++ [d])))) : rc (fun vs H Q => rAppend (.ref a) vs H Q) L as O [d] k := fun F H xs hd ow r Q q => by
  cases r with
  | cons r1 r2 =>
    cases r2
    obtain ⟨ys, e, r⟩ := ow.lst e1 e2
    have m := List.mem_of_getElem? e1
    exact ⟨a, ys, _, rfl, rfl, e, by rw [r.length]; exact hl, q F _ as _ _ _ (go_upd m) (hd.upd (ow.free m)) (ow.put (.lst (r.snoc r1)) e1) .non z⟩
theorem rc_pop {a : Addr} {ds : List D} (j : Nat) (e1 : as[j]? = some a) (e2 : O[j]? = some (.lst ds)) (hl : ds[ds.length - 1]? = some d) (z : k as d (O.set j (.lst ds.dropLast))) : rc (fun vs H Q => rPop (.ref a) vs H Q) L as O [] k := fun F H xs hd ow r Q q => by
  cases r
  obtain ⟨ys, e, r⟩ := ow.lst e1 e2
  have m := List.mem_of_getElem? e1
  obtain ⟨v, e3, r3⟩ := r.get hl
  exact ⟨a, ys, v, rfl, rfl, e, by rw [r.length]; exact e3, q F _ as _ _ _ (go_upd m) (hd.upd (ow.free m)) (ow.put (.lst r.dropLast) e1) r3 z⟩
/-- an owned list of ints == [] -/
theorem rv_isNil {a : Addr} {ns : List Int} (j : Nat) (e1 : as[j]? = some a) (e2 : O[j]? = some (.lst (ns.map D.int))) (z : k as (.bl ns.isEmpty) O) : rv (rEqD KK) L as O (.adr a) (.lst []) k := fun F H x y hd ow r1 r2 Q q => by
  cases r1
  cases r2 with
  | lst e r =>
    cases r
    obtain ⟨ys, e3, r3⟩ := ow.lst e1 e2
    rw [r3.ints] at e3
    have dp : ∀ ns : List Int, DpAll KK H (ns.map V.int) (ns.map PyData.int) := fun ns => by
      induction ns with
      | nil => exact .nil
      | cons n r ih => exact .cons (.int n) ih
    have cl : ∀ ns : List Int, PyData.canLayAll0 (ns.map PyData.int) = true := fun ns => by
      induction ns with
      | nil => rfl
      | cons n r ih =>
        show (PyData.canLay0 (.int n) && PyData.canLayAll0 (r.map PyData.int)) = true
        rw [ih]; rfl
    have dq : ∀ ns : List Int, PyData.depthAll (ns.map PyData.int) = 0 := fun ns => by
      induction ns with
      | nil => rfl
      | cons n r ih =>
        show max 0 (PyData.depthAll (r.map PyData.int)) = 0
        rw [ih]; rfl
    refine ⟨.list (ns.map PyData.int), .list [], .lst (SqL.of e3) (dp ns), .lst (SqL.of (hd.lst e)) .nil, ?_, rfl, ?_⟩
    · show (PyData.canLayAll0 (ns.map PyData.int) && decide (PyData.depthAll (ns.map PyData.int) + 1 ≤ 64)) = true
      rw [cl, dq]; rfl
    · have : PyData.eqv (.list (ns.map PyData.int)) (.list []) = ns.isEmpty := by
        cases ns <;> rfl
      rw [this]
      exact q F H as O _ _ (.refl ..) hd ow (.bl _) z
end
end DL
namespace DL
open PySem PySem.Spec PyProof.Rows L2
section
variable {χ : Xk} {L : List Addr} {as : List Addr} {ρ : DSt} {O : List D} {k : List Addr → D → List D → Prop} {kT : List Addr → Bool → List D → Prop} {kA kI : List Addr → List D → List D → Prop} {ta tb te : TE} {tt tu : TT} {d d1 d2 : D} {KK : PySem.W.Frag}
theorem itd_at {F H1 : Hp} {J : It} {ds : List D} {xs : List V} {G : Hp → Prop} (w : Walk J xs.length G (YAt xs)) (r : Rs F xs ds) (g : ∀ F2 H2, Ex F F2 → Hd L F2 H2 → G H2) : ItD L as F H1 J ds := by
  refine ⟨G, YAt xs, by rw [← r.length]; exact w, fun F2 H2 _ gg => g F2 H2 gg.ex, fun i as H H' x F2 O hi e hd ow y => ?_⟩
  obtain ⟨rfl, hx⟩ := y
  obtain ⟨d, hd', rd⟩ := r.get' hx
  exact ⟨F2, d, hd', .refl .., hd, ow, rd.mono e⟩
theorem i_list (h : dE χ te L as ρ O fun as d O => ∃ ds, d = .lst ds ∧ kI as ds O) : dI χ (iList KK te) L as ρ O kI := fun F H σ S x Q q =>
  h F H σ S x _ fun F1 H1 as1 O1 v d g1 S1 r1 z1 => by
    obtain ⟨ds, rfl, z⟩ := z1
    cases r1 with
    | lst e r =>
      exact ⟨_, rfl, ⟨_, SqL.of (S1.hd.lst e)⟩, q F1 H1 as1 O1 _ ds g1 S1 (itd_at walk_list r fun F2 H2 ee hd => SqL.of (hd.lst (ee _ _ e))) z⟩
theorem i_tup (h : dE χ te L as ρ O fun as d O => ∃ ds, d = .tup ds ∧ kI as ds O) : dI χ (iTup KK te) L as ρ O kI := fun F H σ S x Q q =>
  h F H σ S x _ fun F1 H1 as1 O1 v d g1 S1 r1 z1 => by
    obtain ⟨ds, rfl, z⟩ := z1
    cases r1 with
    | tup e r =>
      exact ⟨_, rfl, ⟨_, SqT.of (S1.hd.tup e)⟩, q F1 H1 as1 O1 _ ds g1 S1 (itd_at walk_tup r fun F2 H2 ee hd => SqT.of (hd.tup (ee _ _ e))) z⟩
/-- the ints 0 .. n - 1 -/
def upto (n : Nat) : List D := (List.range n).map fun i => D.int (i : Nat)
theorem upto_len (n : Nat) : (upto n).length = n := by simp [upto]
theorem upto_at {n i : Nat} {d : D} (h : (upto n)[i]? = some d) : i < n ∧ d = .int (i : Nat) := by
  have hi : i < n := by
    have := (List.getElem?_eq_some_iff.mp h).1
    rwa [upto_len] at this
  refine ⟨hi, ?_⟩
  unfold upto at h
  rw [List.getElem?_map, List.getElem?_range hi] at h
  exact (Option.some.inj h).symm
theorem i_range {ta : TA} (h : dA χ ta L as ρ O fun as ds O => ∃ j : Int, ds = [.int j] ∧ j < 2 ^ 62 ∧ -(2 ^ 62) ≤ j ∧ kI as (upto j.toNat) O) : dI χ (iRng1 ta) L as ρ O kI := fun F H σ S x Q q =>
  h F H σ S x _ fun F1 H1 as1 O1 vs ds g1 S1 r1 z1 => by
    obtain ⟨j, rfl, b1, b2, z⟩ := z1
    cases r1 with
    | cons r1 r2 =>
      cases r2
      cases r1
      refine ⟨j, rfl, b2, b1, q F1 H1 as1 O1 _ _ g1 S1 ⟨_, _, by rw [upto_len]; exact walk_range, fun _ _ _ _ _ => trivial, fun i as H H' x F2 O hi e hd ow y => ?_⟩ z⟩
      obtain ⟨rfl, rfl⟩ := y
      rw [upto_len] at hi
      refine ⟨F2, .int (i : Nat), ?_, .refl .., hd, ow, ?_⟩
      · unfold upto
        rw [List.getElem?_map, List.getElem?_range hi]
        rfl
      · show R F2 (V.int (0 + (i : Nat))) _
        rw [Int.zero_add]; exact .int _
/-- the signs of a text -/
def signs (z : Str) : List D := z.cps.toList.map fun c => D.str ⟨#[c]⟩
theorem i_str (h : dE χ te L as ρ O fun as d O => ∃ z, d = .str z ∧ kI as (signs z) O) : dI χ (iStr te) L as ρ O kI := fun F H σ S x Q q =>
  h F H σ S x _ fun F1 H1 as1 O1 v d g1 S1 r1 z1 => by
    obtain ⟨z, rfl, zz⟩ := z1
    cases r1
    refine ⟨z, rfl, q F1 H1 as1 O1 _ _ g1 S1 ⟨_, _, by simpa [signs] using walk_str (z := z), fun _ _ _ _ _ => trivial, fun i as H H' x F2 O hi e hd ow y => ?_⟩ zz⟩
    obtain ⟨rfl, c, hc, rfl⟩ := y
    refine ⟨F2, .str ⟨#[c]⟩, ?_, .refl .., hd, ow, .str _⟩
    unfold signs
    rw [List.getElem?_map, Array.getElem?_toList, hc]
    rfl
/-- pairs of a place and an item -/
def enumD (ds : List D) : List D := ds.zipIdx.map fun p => D.tup [.int (p.2 : Nat), p.1]
theorem enum_at {ds : List D} {i : Nat} {d : D} (h : (enumD ds)[i]? = some d) : ∃ e, ds[i]? = some e ∧ d = .tup [.int (i : Nat), e] := by
  unfold enumD at h
  rw [List.getElem?_map, List.getElem?_zipIdx] at h
  cases e : ds[i]? with
  | none => rw [e] at h; cases h
  | some x => rw [e] at h; simp at h; exact ⟨x, rfl, h.symm⟩
theorem enum_len (ds : List D) : (enumD ds).length = ds.length := by simp [enumD]
theorem lay_pair {F H : Hp} {T : Addr} {x y : V} {dx dy : D} (hd : Hd L F H) (ow : Own F H as O) (hT : H T = none) (rx : R F x dx) (ry : R F y dy) :
    ∃ F3, Go as F H as F3 (upd H T (.tup [x, y])) ∧ Hd L F3 (upd H T (.tup [x, y])) ∧ Own F3 (upd H T (.tup [x, y])) as O ∧ R F3 (.ref T) (.tup [dx, dy]) := by
  have hf := hd.free hT
  have e : Ex F (upd F T (.tup [x, y])) := ex_lay hf
  exact ⟨upd F T (.tup [x, y]), go_lay hT hf, hd.lay hT, ow.lay hT hf, .tup upd_same (.cons (rx.mono e) (.cons (ry.mono e) .nil))⟩
/-- a target that stores at the places vs alone -/
def WG (g : TG) (vs : List Nat) : Prop := ∀ v σ H (Q Q' : L2.St → Hp → Prop), (∀ σ' H', L2.wipe σ' vs = L2.wipe σ vs → Q σ' H' → Q' σ' H') → g v σ H Q → g v σ H Q'
theorem wipe_set {σ : L2.St} {i : Nat} {x : Option V} : ∀ {vs : List Nat}, i ∈ vs → L2.wipe (σ.set i x) vs = L2.wipe σ vs
  | [], h => by cases h
  | v :: vs, h => by
    show (L2.wipe (σ.set i x) vs).set v none = (L2.wipe σ vs).set v none
    by_cases z : i ∈ vs
    · rw [wipe_set z]
    · have : i = v := by
        rcases List.mem_cons.mp h with h | h
        · exact h
        · exact absurd h z
      subst this
      apply List.ext_getElem?
      intro n
      by_cases q : i = n
      · subst q
        by_cases l : i < σ.length
        · rw [List.getElem?_set_self (by rw [wipe_length, List.length_set]; exact l), List.getElem?_set_self (by rw [wipe_length]; exact l)]
        · rw [List.getElem?_eq_none (by rw [List.length_set, wipe_length, List.length_set]; omega), List.getElem?_eq_none (by rw [List.length_set, wipe_length]; omega)]
      · rw [List.getElem?_set_ne q, List.getElem?_set_ne q]
        by_cases m : n ∈ vs
        · by_cases l : n < σ.length
          · rw [wipe_in m (by rw [List.length_set]; exact l), wipe_in m l]
          · rw [List.getElem?_eq_none (by rw [wipe_length, List.length_set]; omega), List.getElem?_eq_none (by rw [wipe_length]; omega)]
        · rw [wipe_out m, wipe_out m, List.getElem?_set_ne q]
where
  wipe_in {σ : L2.St} {n : Nat} : ∀ {vs : List Nat}, n ∈ vs → n < σ.length → (L2.wipe σ vs)[n]? = some none
    | [], h, _ => by cases h
    | v :: vs, h, l => by
      show ((L2.wipe σ vs).set v none)[n]? = some none
      by_cases q : v = n
      · subst q; rw [List.getElem?_set_self (by rw [wipe_length]; exact l)]
      · rw [List.getElem?_set_ne q]
        rcases List.mem_cons.mp h with h | h
        · exact absurd h.symm q
        · exact wipe_in h l
theorem wipe_wipe {σ : L2.St} : ∀ {us vs : List Nat}, (∀ i ∈ us, i ∈ vs) → L2.wipe (L2.wipe σ us) vs = L2.wipe σ vs
  | [], _, _ => rfl
  | u :: us, vs, h => by
    show L2.wipe ((L2.wipe σ us).set u none) vs = _
    rw [wipe_set (h u List.mem_cons_self), wipe_wipe fun i m => h i (List.mem_cons_of_mem _ m)]
theorem wg_name {i : Nat} {vs : List Nat} (h : i ∈ vs) : WG (gName i) vs := fun v σ H Q Q' m q => m _ _ (wipe_set h) q
abbrev wρ (ρ : DSt) (vs : List Nat) : DSt := vs.foldr (fun v r => r.set v none) ρ
/-- [te for g in wi if tt]: what is made so far is told by the turn -/
theorem w_lcA {wi : TI} {g : TG} {vs : List Nat} (hg : WG g vs) (h : dI χ wi L as ρ O fun as1 ds O1 => ∃ acc : Nat → List D, acc 0 = [] ∧ ds.length < sizeLine ∧
    (∀ i d, ds[i]? = some d → dG X0 g d L as1 (wρ ρ vs) O1 fun as2 ρ2 O2 => as2 = as1 ∧ O2 = O1 ∧ dT X0 tt L as1 ρ2 O1 fun as3 b O3 => as3 = as1 ∧ O3 = O1 ∧
      if b = true then dE X0 te L as1 ρ2 O1 fun as4 y O4 => as4 = as1 ∧ O4 = O1 ∧ acc (i + 1) = acc i ++ [y] else acc (i + 1) = acc i) ∧
    ∀ p, k (as1 ++ [p]) (.adr p) (O1 ++ [.lst (acc ds.length)])) : dE χ (tLc wi g tt te vs) L as ρ O k := fun F H σ S x Q q =>
  h F H σ S x _ fun F1 H1 as1 O1 J ds g1 S1 ⟨G, Y, wk, hG, hY⟩ ⟨acc, a0, al, as_, ae⟩ N hN => by
    have hNf := S1.hd.free hN
    refine lc_it wk (fun i H' => ∃ F' xs, Go as1 F1 H1 as1 F' H' ∧ Hd L F' H' ∧ Own F' H' as1 O1 ∧ F' N = none ∧ H' N = some (.lst xs) ∧ Rs F' xs (acc i) ∧ (acc i).length ≤ i)
      ⟨F1, [], ?_, S1.hd.upd hNf, ?_, hNf, upd_same, by rw [a0]; exact .nil, by rw [a0]; exact Nat.le_refl _⟩ ?_ ?_ ?_
    · exact ⟨fun _ _ h => h, fun _ _ h => .inl h, fun b o e _ => by rw [upd_ne (ne_of_none e hN)]; exact e, fun b e => by
        by_cases z : b = N
        · subst z; exact hN
        · rw [upd_ne z] at e; exact e, fun _ m => .inl m⟩
    · exact S1.own.keep (fun _ _ h => h) (fun a m => S1.own.free m) fun a m o e => by rw [upd_ne (ne_of_none e hN)]; exact e
    · rintro i H' _ ⟨F', xs, g', hd', ow', f', e', r', _⟩
      exact hG F' H' as1 g' hd'
    · rintro i v H' H2 hi ⟨F', xs, g', hd', ow', f', e', r', l'⟩ hy
      obtain ⟨F3, d, hdi, g3, hd3, ow3, r3⟩ := hY i as1 H' H2 v F' O1 hi g'.ex hd' ow' hy
      -- the list made so far is neither known nor owned
      have keepN : ∀ {Fa Fb : Hp} {Ha Hb : Hp} {xs : List V}, Go as1 Fa Ha as1 Fb Hb → Own Fa Ha as1 O1 → Fa N = none → Ha N = some (.lst xs) → N ∉ as1 → Fb N = none ∧ Hb N = some (.lst xs) := fun {Fa Fb Ha Hb xs} g _ f e n => by
        refine ⟨?_, g.kp _ _ e n⟩
        cases z : Fb N with
        | none => rfl
        | some u =>
          rcases g.nw N u z with z | z | z
          · rw [f] at z; cases z
          · rw [e] at z; cases z
          · exact absurd z n
      have nN : N ∉ as1 := fun m => S1.own.tr m hN
      obtain ⟨f3, e3⟩ := keepN g3 ow' f' e' nN
      have S3 : Rep L as1 F3 H2 (L2.wipe σ vs) (wρ ρ vs) O1 := ⟨hd3, ow3, (S1.sl.mono fun a o h => g3.ex _ _ (g'.ex _ _ h)).wipe vs⟩
      have step := as_ i d hdi F3 H2 (L2.wipe σ vs) v S3 xp0 r3
      refine hg v _ _ _ _ (fun σ2 H3 ew q2 => ⟨ew.trans (wipe_wipe fun _ m => m), q2⟩) (step _ fun F4 H4 as4 σ4 ρ4 O4 g4 S4 ⟨e1, e2, z4⟩ => ?_)
      subst e1
      subst e2
      obtain ⟨f4, e4⟩ := keepN g4 ow3 f3 e3 nN
      refine z4 F4 H4 σ4 S4 xp0 _ fun F5 H5 as5 O5 b b' g5 S5 rb ⟨e1, e2, z5⟩ => ?_
      cases rb
      subst e1
      subst e2
      obtain ⟨f5, e5⟩ := keepN g5 S4.own f4 e4 nN
      have gg := g'.trans (g3.trans (g4.trans g5))
      have r5 := r'.mono fun a o h => g5.ex _ _ (g4.ex _ _ (g3.ex _ _ h))
      cases b with
      | false =>
        simp only [Bool.false_eq_true, if_false] at z5 ⊢
        exact ⟨F5, xs, gg, S5.hd, S5.own, f5, e5, by rw [z5]; exact r5, by rw [z5]; omega⟩
      | true =>
        simp only [if_true] at z5 ⊢
        refine z5 F5 H5 σ4 S5 xp0 _ fun F6 H6 as6 O6 y dy g6 S6 r6 ⟨e1, e2, z6⟩ => ?_
        subst e1
        subst e2
        obtain ⟨f6, e6⟩ := keepN g6 S5.own f5 e5 nN
        refine ⟨xs, e6, by rw [r'.length]; omega, F6, _, ?_, S6.hd.upd f6, ?_, f6, upd_same, ?_, ?_⟩
        · refine ⟨(gg.trans g6).ex, (gg.trans g6).nw, fun b o e n => ?_, fun b e => ?_, (gg.trans g6).sub⟩
          · have h6 := (gg.trans g6).kp b o e n
            rw [upd_ne (ne_of_none e hN)]
            exact h6
          · by_cases z : b = N
            · subst z; exact hN
            · rw [upd_ne z] at e; exact (gg.trans g6).th b e
        · exact S6.own.keep (fun _ _ h => h) (fun a m => S6.own.free m) fun a m o e => by
            have : a ≠ N := fun z => nN (z ▸ m)
            rw [upd_ne this]; exact e
        · rw [z6]
          exact (r5.mono g6.ex).snoc r6
        · rw [z6, List.length_append]
          show (acc i).length + 1 ≤ i + 1
          omega
    · rintro H' ⟨F', xs, g', hd', ow', f', e', r', l'⟩
      refine q F' H' (as1 ++ [N]) (O1 ++ [.lst (acc ds.length)]) _ _ ?_ ⟨hd', ?_, S1.sl.mono g'.ex⟩ (.adr N) (ae N)
      · have gg := g1.trans g'
        exact ⟨gg.ex, gg.nw, gg.kp, gg.th, fun b m => by
          rcases List.mem_append.mp m with m | m
          · exact gg.sub b m
          · simp at m; subst m; exact .inr (g1.th _ hN)⟩
      · have nN : N ∉ as1 := fun m => S1.own.tr m hN
        refine ⟨?_, by simp [ow'.len], fun i b d' h1 h2 => ?_⟩
        · rw [List.nodup_append]
          refine ⟨ow'.nd, by simp, fun a m b m' z => ?_⟩
          simp at m'
          subst m'; subst z
          exact nN m
        · rcases Nat.lt_trichotomy i as1.length with z | z | z
          · rw [List.getElem?_append_left z] at h1
            rw [List.getElem?_append_left (ow'.len ▸ z)] at h2
            exact ow'.at_ i b d' h1 h2
          · rw [List.getElem?_append_right (Nat.le_of_eq z.symm)] at h1
            rw [List.getElem?_append_right (by rw [← ow'.len]; exact Nat.le_of_eq z.symm), ← ow'.len] at h2
            rw [z] at h1 h2
            simp at h1 h2
            subst h1; subst h2
            exact ⟨f', _, e', .lst r'⟩
          · rw [List.getElem?_eq_none (by simp; omega)] at h1
            cases h1
/-- the same over items of a type of one's own, filtered by p, made by f -/
theorem w_lc {α : Type} {wi : TI} {g : TG} {vs : List Nat} (hg : WG g vs) (h : dI χ wi L as ρ O fun as1 ds O1 => ∃ (xs : List α) (em : α → D) (p : α → Bool) (f : α → D), ds = xs.map em ∧ xs.length < sizeLine ∧
    (∀ x ∈ xs, dG X0 g (em x) L as1 (wρ ρ vs) O1 fun as2 ρ2 O2 => as2 = as1 ∧ O2 = O1 ∧ dT X0 tt L as1 ρ2 O1 fun as3 b O3 => as3 = as1 ∧ O3 = O1 ∧ b = p x ∧
      (p x = true → dE X0 te L as1 ρ2 O1 fun as4 y O4 => as4 = as1 ∧ O4 = O1 ∧ y = f x)) ∧
    ∀ q, k (as1 ++ [q]) (.adr q) (O1 ++ [.lst ((xs.filter p).map f)])) : dE χ (tLc wi g tt te vs) L as ρ O k := by
  refine w_lcA hg fun F H σ S x Q q => h F H σ S x Q fun F1 H1 as1 O1 J ds g1 S1 it ⟨xs, em, p, f, e, hl, st, fin⟩ => q F1 H1 as1 O1 J ds g1 S1 it ⟨fun i => ((xs.take i).filter p).map f, rfl, by rw [e, List.length_map]; exact hl, fun i d hd => ?_, fun q => ?_⟩
  · rw [e, List.getElem?_map] at hd
    cases ex : xs[i]? with
    | none => rw [ex] at hd; cases hd
    | some a =>
      rw [ex] at hd
      cases hd
      have hm := List.mem_of_getElem? ex
      have et : xs.take (i + 1) = xs.take i ++ [a] := by rw [List.take_add_one, ex]; rfl
      intro F H σ v S x r Q q
      refine st a hm F H σ v S x r Q fun F' H' as' σ' ρ' O' g S' ⟨e1, e2, z⟩ => q F' H' as' σ' ρ' O' g S' ⟨e1, e2, z.imp fun a3 b O3 ⟨e3, e4, eb, z'⟩ => ⟨e3, e4, ?_⟩⟩
      subst eb
      cases hp : p a with
      | true =>
        simp only [if_true]
        refine (z' hp).imp fun a4 y O4 ⟨e5, e6, ey⟩ => ⟨e5, e6, ?_⟩
        subst ey
        rw [et, List.filter_append, List.map_append]
        simp [hp]
      | false =>
        simp only [Bool.false_eq_true, if_false]
        rw [et, List.filter_append, List.map_append]
        simp [hp]
  · have := fin q
    rw [e, List.length_map]
    show k _ _ (O1 ++ [.lst (((xs.take xs.length).filter p).map f)])
    rw [List.take_length]
    exact this
end
end DL
namespace DL
open PySem PySem.Spec PyProof.Rows L2
section
variable {χ : Xk} {L as : List Addr} {ρ : DSt} {O : List D} {k : List Addr → D → List D → Prop} {kT : List Addr → Bool → List D → Prop} {kA kI : List Addr → List D → List D → Prop} {ta tb te : TE} {tt tu : TT} {d d1 d2 : D} {KK : PySem.W.Frag}
/-- a new list is known at once -/
theorem w_known (h : dE χ te L as ρ O fun as' d' O' => ∃ p as0 c O0, as' = as0 ++ [p] ∧ d' = .adr p ∧ O' = O0 ++ [c] ∧ k as0 c O0) : dE χ te L as ρ O k := fun F H σ S x Q q =>
  h F H σ S x _ fun F1 H1 as1 O1 v d1 g1 S1 r1 ⟨p, as0, c, O0, e1, e2, e3, z⟩ => by
    subst e1
    subst e2
    subst e3
    cases r1
    have l0 : as0.length = O0.length := by
      have := S1.own.len
      simp at this
      exact this
    have ha : (as0 ++ [p])[as0.length]? = some p := by simp
    have hc : (O0 ++ [c])[as0.length]? = some c := by rw [l0]; simp
    obtain ⟨hf, o, ho, cn⟩ := S1.own.at_ _ _ _ ha hc
    have S2 := S1.frz ha hc hf ho cn
    have g2 : Go (as0 ++ [p]) F1 H1 ((as0 ++ [p]).eraseIdx as0.length) (upd F1 p o) H1 := go_frz hf ha
    have ea : (as0 ++ [p]).eraseIdx as0.length = as0 := by
      rw [List.eraseIdx_append_of_length_le (Nat.le_refl _)]
      simp
    have eo : (O0 ++ [c]).eraseIdx as0.length = O0 := by
      rw [l0, List.eraseIdx_append_of_length_le (Nat.le_refl _)]
      simp
    rw [ea, eo] at S2
    rw [ea] at g2
    exact q _ _ _ _ _ _ (g1.trans g2) S2 (.of upd_same (cn.mono (ex_lay hf))) z
/-- the j-th of the owned is let go -/
theorem go_let {as as1 : List Addr} {F H F1 H1 : Hp} (g : Go as F H as1 F1 H1) (j : Nat) : Go as F H (as1.eraseIdx j) F1 H1 :=
  ⟨g.ex, g.nw, g.kp, g.th, fun b m => g.sub b (List.mem_of_mem_eraseIdx m)⟩
theorem w_let (j : Nat) (h : dE χ te L as ρ O fun as' d' O' => k (as'.eraseIdx j) d' (O'.eraseIdx j)) : dE χ te L as ρ O k := fun F H σ S x Q q =>
  h F H σ S x _ fun F1 H1 as1 O1 v d1 g1 S1 r1 z => q _ _ _ _ _ _ (go_let g1 j) ⟨S1.hd, S1.own.drop j, S1.sl⟩ r1 z
theorem s_let {ts : TS} {K : Kt} (j : Nat) (h : dS χ ts L (as.eraseIdx j) ρ (O.eraseIdx j) K) : dS χ ts L as ρ O K := fun F H σ S x Z z =>
  have g : Go as F H (as.eraseIdx j) F H := go_let (.refl ..) j
  h F H σ ⟨S.hd, S.own.drop j, S.sl⟩ (x.go g) Z (z.go g)
def lstOf (as : List Addr) (O : List D) (d : D) (ds : List D) : Prop := d = .lst ds ∨ ∃ (j : Nat) (a : Addr), d = .adr a ∧ as[j]? = some a ∧ O[j]? = some (D.lst ds)
theorem lo_f {ds : List D} : lstOf as O (.lst ds) ds := .inl rfl
theorem lo_o {ds : List D} {a : Addr} (j : Nat) (h1 : as[j]? = some a) (h2 : O[j]? = some (D.lst ds)) : lstOf as O (.adr a) ds := .inr ⟨j, a, rfl, h1, h2⟩
/-- a list that is read -/
def lstR (as : List Addr) (O : List D) (K : PySem.W.Frag) (d : D) (ds : List D) : Prop := lstOf as O d ds ∨ d = .zst ds ∨ d = .zkl K ds
theorem lstR.more {K : PySem.W.Frag} {ds : List D} (h : lstR [] [] K d ds) : lstR as O K d ds := by
  rcases h with (h | ⟨j, a, _, h, _⟩) | h
  · exact .inl (.inl h)
  · simp at h
  · exact .inr h
theorem lr_at {F H : Hp} {v : V} {ds : List D} (hd : Hd L F H) (ow : Own F H as O) (r : R F v d) (h : lstR as O KK d ds) : ∃ a xs, v = .ref a ∧ SqL KK H a xs ∧ Rs F xs ds := by
  rcases h with h | rfl | rfl
  · obtain ⟨a, xs, e1, e2, e3⟩ := sq_of hd ow r h
    exact ⟨a, xs, e1, SqL.of e2, e3⟩
  · cases r with
    | zst e r => exact ⟨_, _, rfl, .inl (hd.zst e), r⟩
  · cases r with
    | zkl e r => exact ⟨_, _, rfl, e H, r⟩
abbrev dO (χ : Xk) (t : TO) (L as : List Addr) (ρ : DSt) (O : List D) (k : List Addr → Option Int → List D → Prop) : Prop := dW (fun _ (a b : Option Int) => a = b) χ t L as ρ O k
theorem o_none {kO : List Addr → Option Int → List D → Prop} (z : kO as none O) : dO χ tNoPart L as ρ O kO := fun F H σ S x Q q => q F H as O none none (.refl ..) S rfl z
theorem o_some {kO : List Addr → Option Int → List D → Prop} (h : dE χ te L as ρ O fun as d O => ∃ i, d = .int i ∧ kO as (some i) O) : dO χ (tPart te) L as ρ O kO := fun F H σ S x Q q =>
  h F H σ S x _ fun F1 H1 as1 O1 v d g1 S1 r1 ⟨i, e, z⟩ => by
    subst e
    cases r1
    exact ⟨i, rfl, q F1 H1 as1 O1 _ _ g1 S1 rfl z⟩
def rs (r : V → Option Int → Option Int → Hp → VK → Prop) (L as : List Addr) (O : List D) (d1 : D) (lo hi : Option Int) (k : List Addr → D → List D → Prop) : Prop :=
  ∀ F H x, Hd L F H → Own F H as O → R F x d1 → ∀ Q : VK, (∀ F' H' as' O' v d, Go as F H as' F' H' → Hd L F' H' → Own F' H' as' O' → R F' v d → k as' d O' → Q v H') → r x lo hi H Q
theorem w_sl {r : V → Option Int → Option Int → Hp → VK → Prop} {tl th : TO} (h : dE χ te L as ρ O fun as d O => dO χ tl L as ρ O fun as lo O => dO χ th L as ρ O fun as hi O => rs r L as O d lo hi k) : dE χ (tSl r te tl th) L as ρ O k := fun F H σ S x Q q =>
  h F H σ S x _ fun F1 H1 as1 O1 v d g1 S1 r1 z1 => z1 F1 H1 σ S1 (x.go g1) _ fun F2 H2 as2 O2 lo lo' g2 S2 e2 z2 => by
    subst e2
    refine z2 F2 H2 σ S2 (x.go (g1.trans g2)) _ fun F3 H3 as3 O3 hi hi' g3 S3 e3 z3 => ?_
    subst e3
    refine z3 F3 H3 v S3.hd S3.own ((r1.mono g2.ex).mono g3.ex) _ fun F4 H4 as4 O4 v d g4 hd ow r4 z4 => ?_
    exact q F4 H4 as4 O4 v d (g1.trans (g2.trans (g3.trans g4))) ⟨hd, ow, S3.sl.mono g4.ex⟩ r4 z4
def cutD (ds : List D) (lo hi : Option Int) : List D := (ds.drop (HT.sIx ds.length 0 lo)).take (HT.sIx ds.length ds.length hi - HT.sIx ds.length 0 lo)
theorem Rs.cut {F : Hp} {xs : List V} {ds : List D} (r : Rs F xs ds) (lo hi : Option Int) : Rs F (cutV xs lo hi) (cutD ds lo hi) := by
  unfold cutV cutD
  rw [r.length]
  exact (r.drop _).take _
theorem new_lst {F H : Hp} {xs : List V} {ds : List D} {Q : VK} (hd : Hd L F H) (ow : Own F H as O) (r : Rs F xs ds) (z : ∀ p, k (as ++ [p]) (.adr p) (O ++ [.lst ds]))
    (q : ∀ F' H' as' O' v d, Go as F H as' F' H' → Hd L F' H' → Own F' H' as' O' → R F' v d → k as' d O' → Q v H') (p : Addr) (hp : H p = none) : Q (.ref p) (upd H p (.lst xs)) :=
  q F _ _ _ _ _ (go_new hp) (hd.upd (hd.free hp)) (ow.snoc (hd.free hp) hp (.lst r)) (.adr p) (z p)
theorem new_tup {F H : Hp} {xs : List V} {ds : List D} {Q : VK} (hd : Hd L F H) (ow : Own F H as O) (r : Rs F xs ds) (z : k as (.tup ds) O)
    (q : ∀ F' H' as' O' v d, Go as F H as' F' H' → Hd L F' H' → Own F' H' as' O' → R F' v d → k as' d O' → Q v H') (p : Addr) (hp : H p = none) : Q (.ref p) (upd H p (.tup xs)) :=
  q _ _ _ _ _ _ (go_lay hp (hd.free hp)) (hd.lay hp) (ow.lay hp (hd.free hp)) (.tup upd_same (r.mono (ex_lay (hd.free hp)))) z
theorem rs_list {ds : List D} {lo hi : Option Int} (h : lstR as O KK d ds) (z : ∀ p, k (as ++ [p]) (.adr p) (O ++ [.lst (cutD ds lo hi)])) : rs (rSlL KK) L as O d lo hi k := fun F H v hd ow r Q q => by
  obtain ⟨a, xs, rfl, s, r'⟩ := lr_at hd ow r h
  exact ⟨a, xs, rfl, s, new_lst hd ow (r'.cut lo hi) z q⟩
theorem w_rev (h : dE χ te L as ρ O fun as d O => ∃ ds, lstR as O KK d ds ∧ ∀ p, k (as ++ [p]) (.adr p) (O ++ [.lst ds.reverse])) : dE χ (tRevL KK te) L as ρ O k := fun F H σ S x Q q =>
  h F H σ S x _ fun F1 H1 as1 O1 v d g1 S1 r1 ⟨ds, hl, z⟩ => by
    obtain ⟨a, xs, rfl, s, r'⟩ := lr_at S1.hd S1.own r1 hl
    exact ⟨a, xs, rfl, s, new_lst S1.hd S1.own r'.reverse z fun F' H' as' O' v d g hd ow r z => q F' H' as' O' v d (g1.trans g) ⟨hd, ow, S1.sl.mono g.ex⟩ r z⟩
theorem rv_cat {ds es : List D} (h1 : lstOf as O d1 ds) (h2 : lstOf as O d2 es) (hl : ds.length + es.length ≤ sizeLine) (z : ∀ p, k (as ++ [p]) (.adr p) (O ++ [.lst (ds ++ es)])) : rv rCat L as O d1 d2 k := fun F H x y hd ow r1 r2 Q q => by
  obtain ⟨a, xs, rfl, e1, q1⟩ := sq_of hd ow r1 h1
  obtain ⟨b, ys, rfl, e2, q2⟩ := sq_of hd ow r2 h2
  exact ⟨a, b, xs, ys, rfl, rfl, e1, e2, by rw [q1.length, q2.length]; exact hl, new_lst hd ow (q2.append q1) z q⟩
theorem rc_listL {ds : List D} (h : lstR as O KK d ds) (z : ∀ p, k (as ++ [p]) (.adr p) (O ++ [.lst ds])) : rc (fun xs H Q => ∃ p ys, xs = [V.ref p] ∧ (SqL KK H p ys ∨ SqT KK H p ys) ∧ ∀ l, H l = none → Q (.ref l) (upd H l (.lst ys))) L as O [d] k := fun F H xs hd ow r Q q => by
  cases r with
  | cons r1 r2 =>
    cases r2
    obtain ⟨a, xs, rfl, s, r'⟩ := lr_at hd ow r1 h
    exact ⟨a, xs, rfl, .inl s, new_lst hd ow r' z q⟩
theorem rc_tupL {ds : List D} (h : lstR as O KK d ds) (z : k as (.tup ds) O) : rc (fun xs H Q => ∃ p ys, xs = [V.ref p] ∧ ((SqL KK H p ys ∧ ∀ l, H l = none → Q (.ref l) (upd H l (.tup ys))) ∨ (SqT KK H p ys ∧ Q (.ref p) H))) L as O [d] k := fun F H xs hd ow r Q q => by
  cases r with
  | cons r1 r2 =>
    cases r2
    obtain ⟨a, xs, rfl, s, r'⟩ := lr_at hd ow r1 h
    exact ⟨a, xs, rfl, .inl ⟨s, new_tup hd ow r' z q⟩⟩
theorem rc_tupT {ds : List D} (z : k as (.tup ds) O) : rc (fun xs H Q => ∃ p ys, xs = [V.ref p] ∧ ((SqL KK H p ys ∧ ∀ l, H l = none → Q (.ref l) (upd H l (.tup ys))) ∨ (SqT KK H p ys ∧ Q (.ref p) H))) L as O [.tup ds] k := fun F H xs hd ow r Q q => by
  cases r with
  | cons r1 r2 =>
    cases r2
    cases r1 with
    | tup e r' => exact ⟨_, _, rfl, .inr ⟨SqT.of (hd.tup e), q F H as O _ _ (.refl ..) hd ow (.tup e r') z⟩⟩
theorem rc_extend {a : Addr} {ds es : List D} (j : Nat) (e1 : as[j]? = some a) (e2 : O[j]? = some (.lst ds)) (h : lstOf as O d es) (hl : ds.length + es.length ≤ sizeLine) (z : k as .non (O.set j (.lst (ds ++ es)))) : rc (fun vs H Q => rExtend (.ref a) vs H Q) L as O [d] k := fun F H xs hd ow r Q q => by
  cases r with
  | cons r1 r2 =>
    cases r2
    obtain ⟨ys, e, r⟩ := ow.lst e1 e2
    obtain ⟨b, zs, rfl, eb, rb⟩ := sq_of hd ow r1 h
    have m := List.mem_of_getElem? e1
    exact ⟨a, b, ys, zs, rfl, rfl, e, eb, by rw [r.length, rb.length]; exact hl, q F _ as _ _ _ (go_upd m) (hd.upd (ow.free m)) (ow.put (.lst (rb.append r)) e1) .non z⟩
theorem cut_mem {ds : List D} {lo hi : Option Int} {i : Nat} (h : (cutD ds lo hi)[i]? = some d) : d ∈ ds :=
  List.mem_of_mem_drop (List.mem_of_mem_take (List.mem_of_getElem? h))
theorem cut_len (ds : List D) (lo hi : Option Int) : (cutD ds lo hi).length ≤ ds.length := by
  unfold cutD
  rw [List.length_take, List.length_drop]
  omega
theorem rv_addS {i j : Str} (hl : i.length + j.length ≤ sizeLine) (z : k as (.str (i ++ j)) O) : rv (fun x y H Q => ∃ i j, x = V.str i ∧ y = V.str j ∧ i.length + j.length ≤ sizeLine ∧ Q (.str (i ++ j)) H) L as O (.str i) (.str j) k := fun F H x y hd ow r1 r2 Q q => by
  cases r1
  cases r2
  exact ⟨i, j, rfl, rfl, hl, q F H as O _ _ (.refl ..) hd ow (.str _) z⟩
theorem rv_inS {c : Nat} {y : Str} (z : k as (.bl (decide (c ∈ y.cps.toList))) O) : rv (fun x y H Q => ∃ (c : Nat) (z : Str), x = V.str ⟨#[c]⟩ ∧ y = .str z ∧ Q (.bl (decide (c ∈ z.cps.toList))) H) L as O (.str ⟨#[c]⟩) (.str y) k := fun F H x y hd ow r1 r2 Q q => by
  cases r1
  cases r2
  exact ⟨c, _, rfl, rfl, q F H as O _ _ (.refl ..) hd ow (.bl _) z⟩
theorem rv_ninS {c : Nat} {y : Str} (z : k as (.bl (!decide (c ∈ y.cps.toList))) O) : rv (fun x y H Q => ∃ (c : Nat) (z : Str), x = V.str ⟨#[c]⟩ ∧ y = .str z ∧ Q (.bl (!decide (c ∈ z.cps.toList))) H) L as O (.str ⟨#[c]⟩) (.str y) k := fun F H x y hd ow r1 r2 Q q => by
  cases r1
  cases r2
  exact ⟨c, _, rfl, rfl, q F H as O _ _ (.refl ..) hd ow (.bl _) z⟩
/-- a text among texts -/
theorem inV_strs {x : Str} : ∀ {zs : List Str}, inV (.str x) (zs.map V.str) = decide (x ∈ zs)
  | [] => by simp [inV]
  | y :: zs => by
    have ih := inV_strs (x := x) (zs := zs)
    unfold inV at ih ⊢
    rw [List.map_cons, List.any_cons, ih]
    show ((y == x) || decide (x ∈ zs)) = decide (x ∈ y :: zs)
    by_cases e : x = y
    · subst e; simp
    · have : (y == x) = false := by simp; exact fun z => e z.symm
      rw [this]; simp [e]
theorem flat_strs : ∀ zs : List Str, (zs.map V.str).all flatV = true
  | [] => rfl
  | _ :: zs => flat_strs zs
theorem rv_inL {x : Str} {zs : List Str} {neg : Bool} (h : lstR as O KK d2 (zs.map D.str)) (z : k as (.bl (if neg then !decide (x ∈ zs) else decide (x ∈ zs))) O) : rv (rIn KK neg) L as O (.str x) d2 k := fun F H u y hd ow r1 r2 Q q => by
  cases r1
  obtain ⟨a, xs, rfl, s, r'⟩ := lr_at hd ow r2 h
  have ex := r'.strs
  subst ex
  refine ⟨a, _, rfl, .inl s, rfl, flat_strs zs, ?_⟩
  rw [inV_strs]
  exact q F H as O _ _ (.refl ..) hd ow (.bl _) z
def tyD : D → Option String
  | .non => some "NoneType" | .bl _ => some "bool" | .int _ => some "int" | .str _ => some "str"
  | .tup _ => some "tuple" | .lst _ => some "list" | _ => none
theorem ty_of {F H : Hp} {v : V} {a : String} (hd : Hd L F H) (r : R F v d) (h : tyD d = some a) : TyX KK H v (.type a) := by
  cases r with
  | non => cases h; exact .base .non
  | bl b => cases h; exact .base (.bl b)
  | int i => cases h; exact .base (.int i)
  | str x => cases h; exact .base (.str x)
  | tup e r => cases h; exact .base (.tup (hd.tup e))
  | lst e r => cases h; exact .base (.lst (hd.lst e))
  | adr a => cases h
  | dk e r => cases h
  | ins e r => cases h
  | ldk e r => cases h
  | zst e r => cases h
  | zkl e r => cases h
  | zkt e r => cases h
  | exc e r => cases h
  | fz e r => cases h
/-- a built-in class as a value -/
theorem w_ty {n : String} {tr : TA} {kA : List Addr → List D → List D → Prop} {b : Bool} {t : String} (hd : tyD d = some t) (hb : kitB t n = some b) (z : k as (.bl b) O) (h : dE χ te L as ρ O fun as' d' O' => d' = d ∧ as' = as ∧ O' = O) :
    dE χ (tCB (rIsi KK) (tCons te (tCons (tC (.ty n)) tNil))) L as ρ O k := fun F H σ S x Q q =>
  h F H σ S x _ fun F1 H1 as1 O1 v d' g1 S1 r1 ⟨e1, e2, e3⟩ => by
    subst e1
    subst e2
    subst e3
    exact ⟨v, .ty n, .type t, .type n, b, rfl, .ty n, ty_of S1.hd r1 hd, kit_ty hb, q F1 H1 _ _ _ _ g1 S1 (.bl b) z⟩
/-- xs.append(e), xs a name -/
theorem s_append {K : Kt} {i : Nat} {a : Addr} {ds0 : List D} (j : Nat) (hv : ρ[i]? = some (some (.adr a))) (ha : as[j]? = some a) (ho : O[j]? = some (.lst ds0))
    (h : dE χ te L as ρ O fun as d O => ∃ ds, as[j]? = some a ∧ O[j]? = some (.lst ds) ∧ ds.length < sizeLine ∧ K.nx as ρ (O.set j (.lst (ds ++ [d])))) : dS χ (tDrop (tBM KK "list" rAppend (tVar i) (tCons te tNil))) L as ρ O K :=
  s_drop (w_bm a (w_var hv ⟨rfl, ⟨j, _, ha, ho⟩, rfl, w_cons (h.imp fun as d O ⟨ds, e1, e2, hl, z⟩ => w_nil (rc_append j e1 e2 hl z))⟩))
theorem b_dec {c : Prop} [Decidable c] {A B : Prop} (h1 : c → A) (h2 : ¬ c → B) : ∃ b, D.bl (decide c) = .bl b ∧ if b = true then A else B := by
  refine ⟨_, rfl, ?_⟩
  by_cases h : c
  · rw [decide_eq_true h]; exact h1 h
  · rw [decide_eq_false h]; exact h2 h
theorem i_bl {x : Bool} {A B : Prop} (h1 : x = true → A) (h2 : x = false → B) : if x = true then A else B := by
  cases x with
  | true => exact h1 rfl
  | false => exact h2 rfl
theorem i_dec {c : Prop} [Decidable c] {A B : Prop} (h1 : c → A) (h2 : ¬ c → B) : if decide c = true then A else B := by
  by_cases h : c
  · rw [decide_eq_true h]; exact h1 h
  · rw [decide_eq_false h]; exact h2 h
theorem small {n : Nat} (h : n ≤ 100000) : n ≤ sizeLine := Nat.le_trans h (by decide)
theorem smallt {n : Nat} (h : n < 100000) : n < sizeLine := Nat.lt_of_lt_of_le h (by decide)
end
end DL
namespace DL
open PySem PySem.Spec PyProof.Rows L2
mutual
inductive Cz : D → Prop
  | non : Cz .non
  | bl (b : Bool) : Cz (.bl b)
  | int (i : Int) : Cz (.int i)
  | str (x : Str) : Cz (.str x)
  | adr (a : Addr) : Cz (.adr a)
  | tup {ds : List D} : Czs ds → Cz (.tup ds)
  | lst {ds : List D} : Czs ds → Cz (.lst ds)
  | dk {kds : List (Key × D)} : Czk kds → Cz (.dk kds)
  | ins {C : Addr} {fds : List (Str × D)} : Czn fds → Cz (.ins C fds)
  | ldk {a : Addr} {kds : List (Key × D)} : Czk kds → Cz (.ldk a kds)
inductive Czs : List D → Prop
  | nil : Czs []
  | cons {d : D} {ds : List D} : Cz d → Czs ds → Czs (d :: ds)
inductive Czk : List (Key × D) → Prop
  | nil : Czk []
  | cons {k : Key} {d : D} {ds : List (Key × D)} : Cz d → Czk ds → Czk ((k, d) :: ds)
inductive Czn : List (Str × D) → Prop
  | nil : Czn []
  | cons {k : Str} {d : D} {ds : List (Str × D)} : Cz d → Czn ds → Czn ((k, d) :: ds)
end
theorem czs_of : ∀ {ds : List D}, (∀ d ∈ ds, Cz d) → Czs ds
  | [], _ => .nil
  | _ :: _, h => .cons (h _ List.mem_cons_self) (czs_of fun d m => h d (List.mem_cons_of_mem _ m))
/-- F without the list at a that is lent -/
def cutF (F : Hp) (a : Addr) : Hp := fun b => if b = a then none else F b
theorem cutF_ne {F : Hp} {a b : Addr} (h : b ≠ a) : cutF F a b = F b := if_neg h
theorem cutF_same {F : Hp} {a : Addr} : cutF F a a = none := if_pos rfl
theorem cutF_at {F : Hp} {a b : Addr} {o u : HO} (fa : F a = some o) (e : F b = some u) (n : u ≠ o) : cutF F a b = some u := by
  rw [cutF_ne (show b ≠ a from fun z => by subst z; rw [fa] at e; exact n (Option.some.inj e).symm)]
  exact e
theorem Cz.tupI {ds : List D} (c : Cz (.tup ds)) : Czs ds := by cases c; assumption
theorem Cz.lstI {ds : List D} (c : Cz (.lst ds)) : Czs ds := by cases c; assumption
theorem Cz.dkI {ds : List (Key × D)} (c : Cz (.dk ds)) : Czk ds := by cases c; assumption
theorem Cz.ldkI {a : Addr} {ds : List (Key × D)} (c : Cz (.ldk a ds)) : Czk ds := by cases c; assumption
theorem Cz.insI {C : Addr} {ds : List (Str × D)} (c : Cz (.ins C ds)) : Czn ds := by cases c; assumption
theorem Czs.hd {d : D} {ds : List D} (c : Czs (d :: ds)) : Cz d := by cases c; assumption
theorem Czs.tl {d : D} {ds : List D} (c : Czs (d :: ds)) : Czs ds := by cases c; assumption
theorem Czk.hd {k : Key} {d : D} {ds : List (Key × D)} (c : Czk ((k, d) :: ds)) : Cz d := by cases c; assumption
theorem Czk.tl {k : Key} {d : D} {ds : List (Key × D)} (c : Czk ((k, d) :: ds)) : Czk ds := by cases c; assumption
theorem Czn.hd {k : Str} {d : D} {ds : List (Str × D)} (c : Czn ((k, d) :: ds)) : Cz d := by cases c; assumption
theorem Czn.tl {k : Str} {d : D} {ds : List (Str × D)} (c : Czn ((k, d) :: ds)) : Czn ds := by cases c; assumption
theorem Cz.noZ {ds : List D} (c : Cz (.zst ds)) : False := by cases c
theorem Cz.noZl {K : PySem.W.Frag} {ds : List D} (c : Cz (.zkl K ds)) : False := by cases c
theorem Cz.noE {a C dd : Addr} {fds : List (Str × D)} (c : Cz (.exc a C dd fds)) : False := by cases c
theorem Cz.noF {o : HO} {ds : List (Key × D)} (c : Cz (.fz o ds)) : False := by cases c
theorem Cz.noZt {K : PySem.W.Frag} {ds : List D} (c : Cz (.zkt K ds)) : False := by cases c
section
variable {F : Hp} {a : Addr} {ob : Obj} {xs0 : List V} (fa : F a = some (.frz ob (.lst xs0)))
include fa
mutual
theorem R.cut : ∀ {v : V} {d : D}, R F v d → Cz d → R (cutF F a) v d
  | _, _, .non, _ => .non
  | _, _, .bl b, _ => .bl b
  | _, _, .int i, _ => .int i
  | _, _, .str x, _ => .str x
  | _, _, .adr a, _ => .adr a
  | _, _, .tup h r, c => .tup (cutF_at fa h (fun z => nomatch z)) (Rs.cut' r c.tupI)
  | _, _, .lst h r, c => .lst (cutF_at fa h (fun z => nomatch z)) (Rs.cut' r c.lstI)
  | _, _, .dk h r, c => .dk (cutF_at fa h (fun z => nomatch z)) (Rk.cut r c.dkI)
  | _, _, .ins h r, c => .ins (cutF_at fa h (fun z => nomatch z)) (Rn.cut r c.insI)
  | _, _, .ldk h r, c => .ldk (cutF_at fa h (fun z => nomatch z)) (Rk.cut r c.ldkI)
  | _, _, .zst _ _, c => c.noZ.elim
  | _, _, .zkl _ _, c => c.noZl.elim
  | _, _, .zkt _ _, c => c.noZt.elim
  | _, _, .exc _ _, c => c.noE.elim
  | _, _, .fz _ _, c => c.noF.elim
theorem Rs.cut' : ∀ {v : List V} {d : List D}, Rs F v d → Czs d → Rs (cutF F a) v d
  | _, _, .nil, _ => .nil
  | _, _, .cons r t, c => .cons (R.cut r c.hd) (Rs.cut' t c.tl)
theorem Rk.cut : ∀ {v : List (Key × V)} {d : List (Key × D)}, Rk F v d → Czk d → Rk (cutF F a) v d
  | _, _, .nil, _ => .nil
  | _, _, .cons r t, c => .cons (R.cut r c.hd) (Rk.cut t c.tl)
theorem Rn.cut : ∀ {v : List (Str × V)} {d : List (Str × D)}, Rn F v d → Czn d → Rn (cutF F a) v d
  | _, _, .nil, _ => .nil
  | _, _, .cons r t, c => .cons (R.cut r c.hd) (Rn.cut t c.tl)
end
end
theorem Cn.cut {F : Hp} {a : Addr} {ob : Obj} {xs0 : List V} (fa : F a = some (.frz ob (.lst xs0))) : ∀ {o : HO} {d : D}, Cn F o d → Cz d → Cn (cutF F a) o d
  | _, _, .tup r, c => .tup (Rs.cut' fa r c.tupI)
  | _, _, .lst r, c => .lst (Rs.cut' fa r c.lstI)
  | _, _, .dk r, c => .dk (Rk.cut fa r c.dkI)
  | _, _, .ins r, c => .ins (Rn.cut fa r c.insI)
  | _, _, .fz _, c => c.noF.elim
section
variable {χ : Xk} {L : List Addr} {as : List Addr} {ρ : DSt} {O : List D} {k : List Addr → D → List D → Prop} {kT : List Addr → Bool → List D → Prop} {kA kI : List Addr → List D → List D → Prop} {ta tb td ty te : TE} {tt tu : TT} {d d1 d2 : D} {KK : PySem.W.Frag}
/-- the owned list at slot i is only read while te is evaluated -/
theorem w_lend (j i : Nat) (a : Addr) (ds : List D) (ha : as[j]? = some a) (hc : O[j]? = some (.lst ds)) (hi : ρ[i]? = some (some (.adr a)))
    (h : dE X0 te L (as.eraseIdx j) (ρ.set i (some (.zst ds))) (O.eraseIdx j) fun as' d' O' => Cz d' ∧ (∀ c ∈ O', Cz c) ∧ k (as' ++ [a]) d' (O' ++ [.lst ds])) : dE χ te L as ρ O k := fun F H σ S x Q q => by
  obtain ⟨hf, o, ho, cn⟩ := S.own.at_ j a _ ha hc
  cases cn with
  | @lst xs _ rr =>
    let F1 : Hp := upd F a (.frz default (.lst xs))
    have fa : F1 a = some (.frz default (.lst xs)) := upd_same
    have ex1 : Ex F F1 := ex_lay hf
    have nL : a ∉ L := fun m => S.hd.lk a m hf
    have hd1 : Hd L F1 H := {
      at_ := fun b u e => by
        by_cases z : b = a
        · subst z
          rw [fa] at e
          cases e
          exact .inr (.inr ⟨nL, _, _, rfl, ho⟩)
        · have e : upd F a _ b = some u := e
          rw [upd_ne z] at e
          exact S.hd.at_ b u e
      lk := fun b m e => by
        have e : upd F a _ b = none := e
        by_cases z : b = a
        · subst z; rw [upd_same] at e; cases e
        · rw [upd_ne z] at e; exact S.hd.lk b m e }
    have own1 : Own F1 H (as.eraseIdx j) (O.eraseIdx j) := (S.own.drop j).keep ex1 (fun b m => by
      have z : b ≠ a := fun y => nodup_eraseIdx S.own.nd ha (y ▸ m)
      show upd F a _ b = none
      rw [upd_ne z]
      exact S.own.free (List.mem_of_mem_eraseIdx m)) fun _ _ _ h => h
    obtain ⟨v, e, r⟩ := S.sl.get hi
    cases r
    have r' : R F1 (.ref a) (.zst ds) := .zst fa (rr.mono ex1)
    have hs : σ.set i (some (.ref a)) = σ := by
      apply List.ext_getElem?
      intro n
      by_cases q : i = n
      · subst q
        rw [List.getElem?_set_self (List.getElem?_eq_some_iff.mp e).1, e]
      · rw [List.getElem?_set_ne q]
    have S1 : Rep L (as.eraseIdx j) F1 H σ (ρ.set i (some (.zst ds))) (O.eraseIdx j) := ⟨hd1, own1, by rw [← hs]; exact (S.sl.mono ex1).set r' i⟩
    refine h F1 H σ S1 xp0 _ fun F2 H2 as2 O2 v2 d2 g2 S2 r2 ⟨c2, cO, z2⟩ => ?_
    have fa2 : F2 a = some (.frz default (.lst xs)) := g2.ex _ _ fa
    have nA : a ∉ as.eraseIdx j := nodup_eraseIdx S.own.nd ha
    have h2 : H2 a = some (.lst xs) := g2.kp a _ ho nA
    have exc : Ex F (cutF F2 a) := fun b u e => by
      have z : b ≠ a := fun z => by rw [z, hf] at e; cases e
      rw [cutF_ne z]
      exact g2.ex _ _ (ex1 _ _ e)
    have nA2 : a ∉ as2 := fun m => by
      rcases g2.sub a m with m | m
      · exact nA m
      · rw [ho] at m; cases m
    refine q (cutF F2 a) H2 (as2 ++ [a]) (O2 ++ [.lst ds]) v2 d2 ?_ ⟨?_, ?_, S.sl.mono exc⟩ (R.cut fa2 r2 c2) z2
    · refine ⟨exc, fun b u e => ?_, fun b u e n => g2.kp b u e fun m => n (List.mem_of_mem_eraseIdx m), g2.th, fun b m => ?_⟩
      · by_cases z : b = a
        · rw [z]; exact .inr (.inr (List.mem_of_getElem? ha))
        · rw [cutF_ne z] at e
          rcases g2.nw b u e with e | e | e
          · have e : upd F a _ b = some u := e
            rw [upd_ne z] at e; exact .inl e
          · exact .inr (.inl e)
          · exact .inr (.inr (List.mem_of_mem_eraseIdx e))
      · rcases List.mem_append.mp m with m | m
        · rcases g2.sub b m with m | m
          · exact .inl (List.mem_of_mem_eraseIdx m)
          · exact .inr m
        · simp at m; subst m; exact .inl (List.mem_of_getElem? ha)
    · refine ⟨fun b u e => ?_, fun b m e => ?_⟩
      · by_cases z : b = a
        · rw [z, cutF_same] at e; cases e
        · rw [cutF_ne z] at e; exact S2.hd.at_ b u e
      · by_cases z : b = a
        · exact nL (z ▸ m)
        · rw [cutF_ne z] at e; exact S2.hd.lk b m e
    · refine ⟨?_, by simp [S2.own.len], fun i b d' e1 e2 => ?_⟩
      · rw [List.nodup_append]
        refine ⟨S2.own.nd, by simp, fun x m y m' z => ?_⟩
        simp at m'
        subst m'; subst z
        exact nA2 m
      · rcases Nat.lt_trichotomy i as2.length with z | z | z
        · rw [List.getElem?_append_left z] at e1
          rw [List.getElem?_append_left (S2.own.len ▸ z)] at e2
          obtain ⟨f1, o', f2, f3⟩ := S2.own.at_ i b d' e1 e2
          have nb : b ≠ a := fun y => nA2 (y ▸ List.mem_of_getElem? e1)
          exact ⟨by rw [cutF_ne nb]; exact f1, o', f2, Cn.cut fa2 f3 (cO _ (List.mem_of_getElem? e2))⟩
        · rw [List.getElem?_append_right (Nat.le_of_eq z.symm)] at e1
          rw [List.getElem?_append_right (by rw [← S2.own.len]; exact Nat.le_of_eq z.symm), ← S2.own.len] at e2
          rw [z] at e1 e2
          simp at e1 e2
          subst e1; subst e2
          exact ⟨cutF_same, _, h2, .lst (rr.mono exc)⟩
        · rw [List.getElem?_eq_none (by simp; omega)] at e1
          cases e1
def lstF (K : PySem.W.Frag) (d : D) (ds : List D) : Prop := d = .lst ds ∨ d = .zst ds ∨ d = .zkl K ds
theorem lf_at {F : Hp} {v : V} {ds : List D} (r : R F v d) (h : lstF KK d ds) : ∃ a xs, v = .ref a ∧ Rs F xs ds ∧ ∀ F2 H2, Ex F F2 → Hd L F2 H2 → SqL KK H2 a xs := by
  rcases h with rfl | rfl | rfl
  · cases r with
    | lst e r => exact ⟨_, _, rfl, r, fun F2 H2 ee hd => SqL.of (hd.lst (ee _ _ e))⟩
  · cases r with
    | zst e r => exact ⟨_, _, rfl, r, fun F2 H2 ee hd => .inl (hd.zst (ee _ _ e))⟩
  · cases r with
    | zkl e r => exact ⟨_, _, rfl, r, fun F2 H2 _ _ => e H2⟩
theorem i_listF (h : dE χ te L as ρ O fun as d O => ∃ ds, lstF KK d ds ∧ kI as ds O) : dI χ (iList KK te) L as ρ O kI := fun F H σ S x Q q =>
  h F H σ S x _ fun F1 H1 as1 O1 v d g1 S1 r1 ⟨ds, hl, z⟩ => by
    obtain ⟨a, xs, rfl, r, hs⟩ := lf_at (L := L) r1 hl
    exact ⟨_, rfl, ⟨_, hs _ _ (fun _ _ h => h) S1.hd⟩, q F1 H1 as1 O1 _ ds g1 S1 (itd_at walk_list r hs) z⟩
theorem i_enumF {ta : TA} (h : dA χ ta L as ρ O fun as ds O => ∃ d es, ds = [d] ∧ lstF KK d es ∧ kI as (enumD es) O) : dI χ (iEnum KK ta) L as ρ O kI := fun F H σ S x Q q =>
  h F H σ S x _ fun F1 H1 as1 O1 vs ds g1 S1 r1 ⟨d, es, hd, hl, z⟩ => by
    subst hd
    cases r1 with
    | cons r1 r2 =>
      cases r2
      obtain ⟨a, xs, rfl, r, hs⟩ := lf_at (L := L) r1 hl
      refine ⟨a, xs, rfl, hs _ _ (fun _ _ h => h) S1.hd, q F1 H1 as1 O1 _ (enumD es) g1 S1 ⟨_, _, by rw [enum_len, ← r.length]; exact walk_enum, fun F2 H2 _ gg hd => hs _ _ gg.ex hd, fun i as H H' x F2 O hi ee hd ow y => ?_⟩ z⟩
      obtain ⟨T, x1, x2, rfl, hT, rfl, f1, f2⟩ := y
      cases f1
      obtain ⟨d, e2, rd⟩ := r.get' f2
      obtain ⟨F3, g3, h3, o3, r3⟩ := lay_pair hd ow hT (.int (i : Nat)) (rd.mono ee)
      refine ⟨F3, _, ?_, g3, h3, o3, r3⟩
      unfold enumD
      rw [List.getElem?_map, List.getElem?_zipIdx, e2]
      simp
theorem rc_lenF {ds : List D} (h : lstF KK d ds) (z : k as (.int ds.length) O) : rc (fun xs H Q => ∃ x n, xs = [x] ∧ LenV KK x H n ∧ Q (.int n) H) L as O [d] k := fun F H xs hd ow r Q q => by
  cases r with
  | cons r1 r2 =>
    cases r2
    obtain ⟨a, xs, rfl, r, hs⟩ := lf_at (L := L) r1 h
    exact ⟨_, _, rfl, .inl ⟨_, hs _ _ (fun _ _ h => h) hd, r.length.symm⟩, q F H as O _ _ (.refl ..) hd ow (.int _) z⟩
theorem w_fld {f : Str} (h : dE χ ta L as ρ O fun as d O => ∃ C fds d', insOf as O d C fds ∧ Cls KK C ∧ NoAttr KK C f ∧ fds.lookup f = some d' ∧ k as d' O) : dE χ (tFld KK ta f) L as ρ O k := fun F H σ S x Q q =>
  h F H σ S x _ fun F1 H1 as1 O1 v d g1 S1 r1 ⟨C, fds, d', i, hc, hn, hl, z⟩ => by
    obtain ⟨a, dx, fs, rfl, e, rn⟩ := ins_at S1.hd S1.own r1 i
    obtain ⟨v', e', r'⟩ := rn.get hl
    exact ⟨a, C, dx, fs, v', rfl, e, hc, hn, e', q F1 H1 as1 O1 v' d' g1 S1 r' z⟩
/-- a field stored -/
def putD (f : Str) (y : D) : List (Str × D) → List (Str × D)
  | [] => [(f, y)]
  | (g, x) :: r => if g = f then (g, y) :: r else (g, x) :: putD f y r
theorem Rn.put {F : Hp} {f : Str} {v : V} {y : D} (q : R F v y) : ∀ {fs : List (Str × V)} {fds : List (Str × D)}, Rn F fs fds → Rn F (putF f v fs) (putD f y fds)
  | _, _, .nil => .cons q .nil
  | _, _, .cons (k := g) r t => by
    unfold putF putD
    by_cases e : g = f
    · rw [if_pos e, if_pos e]; exact .cons q t
    · rw [if_neg e, if_neg e]; exact .cons r (Rn.put q t)
theorem s_fld {K : Kt} {f : Str} {tv : TE} (h : dE χ tv L as ρ O fun as y O => dE χ ta L as ρ O fun as d O => ∃ (j : Nat) (a C : Addr) (fds : List (Str × D)), d = .adr a ∧ as[j]? = some a ∧ O[j]? = some (.ins C fds) ∧ Cls KK C ∧ NoAttr KK C f ∧ fds.length < 1000 ∧ K.nx as ρ (O.set j (.ins C (putD f y fds)))) :
    dS χ (sFld KK ta tv f) L as ρ O K := fun F H σ S x Z z =>
  h F H σ S x _ fun F1 H1 as1 O1 v y g1 S1 r1 z1 => z1 F1 H1 σ S1 (x.go g1) _ fun F2 H2 as2 O2 u d g2 S2 r2 ⟨j, a, C, fds, ed, ha, ho, hc, hn, hl, z2⟩ => by
    subst ed
    cases r2
    obtain ⟨hf, o, e, cn⟩ := S2.own.at_ j a _ ha ho
    cases cn with
    | @ins _ dx fs _ rn =>
      refine ⟨a, C, dx, fs, rfl, e, hc, hn, by rw [rn.length]; exact hl, ?_⟩
      exact z.nx F2 _ as2 σ ρ _ (g1.trans (g2.trans (go_upd (List.mem_of_getElem? ha)))) ⟨S2.hd.upd hf, S2.own.put (.ins (rn.put (r1.mono g2.ex))) ha, S2.sl⟩ z2
/-- C(..): a new instance, owned, then __init__ is handed the part js and it -/
theorem w_make {C : Ct} {cl : Addr} {ta : TA} {E : XK} (js : List Nat) (h : dA χ ta L as ρ O fun as ds O => ∀ p, (js ++ [as.length]).Nodup ∧ (∀ j ∈ js, j < as.length) ∧ cc C X0 ρ (js ++ [as.length]) L (as ++ [p]) (.adr p :: ds) (O ++ [.ins cl []]) fun as' d O' => d = .non ∧ k as' (.adr p) O') :
    dE χ (tMake cl (spC C) [] E ta) L as ρ O k := fun F H σ S x Q q =>
  h F H σ S x _ fun F1 H1 as1 O1 vs ds g1 S1 r1 z1 p dx hp hdx ne => by
    rw [List.append_nil]
    obtain ⟨_, _, z1⟩ := z1 p
    have hd1 : Hd L F1 (upd H1 dx (.own p)) := S1.hd.upd (S1.hd.free hdx)
    have ow1 : Own F1 (upd H1 dx (.own p)) as1 O1 := S1.own.keep (fun _ _ h => h) (fun b m => S1.own.free m) fun b m o e => by
      rw [upd_ne (ne_of_none e hdx)]; exact e
    have hp1 : upd H1 dx (.own p) p = none := by rw [upd_ne (fun z => ne z.symm)]; exact hp
    have g2 : Go as1 F1 H1 as1 F1 (upd H1 dx (.own p)) := ⟨fun _ _ h => h, fun _ _ h => .inl h, fun b o e _ => by rw [upd_ne (ne_of_none e hdx)]; exact e, fun b e => by
      by_cases z : b = dx
      · subst z; exact hdx
      · rw [upd_ne z] at e; exact e, fun _ m => .inl m⟩
    have S2 : Rep L as1 F1 (upd H1 dx (.own p)) σ ρ O1 := ⟨hd1, ow1, S1.sl⟩
    have S3 := S2.new (o := .ins cl dx []) (d := .ins cl []) hp1 (.ins .nil)
    refine cc_sp S3 xp0 (.cons (.adr p) r1) z1 (fun _ _ _ z => z.elim) fun F' H' as' O' v d g S' r' ⟨ed, z'⟩ => ?_
    subst ed
    cases r'
    exact ⟨rfl, q F' H' as' O' _ _ (g1.trans (g2.trans ((go_new hp1).trans g))) S' (.adr p) z'⟩
/-- calls where what is handed on is found first -/
theorem d_callE {C : Ct} {ta : TA} {E : XK} (h : dA χ ta L as ρ O fun as ds O => ∃ js, cc C X0 ρ js L as ds O k) : dE χ (tCall (spC C) [] E ta) L as ρ O k := fun F H σ S x Q q =>
  h F H σ S x _ fun F1 H1 as1 O1 vs ds g1 S1 r1 ⟨js, z1⟩ => by
    rw [List.append_nil]
    exact cc_sp S1 xp0 r1 z1 (fun _ _ _ z => z.elim) fun F' H' as' O' v d g => q F' H' as' O' v d (g1.trans g)
theorem w_append {i : Nat} {a : Addr} {ds0 : List D} (j : Nat) (hv : ρ[i]? = some (some (.adr a))) (ha : as[j]? = some a) (ho : O[j]? = some (.lst ds0))
    (h : dE χ te L as ρ O fun as d O => ∃ ds, as[j]? = some a ∧ O[j]? = some (.lst ds) ∧ ds.length < sizeLine ∧ k as .non (O.set j (.lst (ds ++ [d])))) : dE χ (tBM KK "list" rAppend (tVar i) (tCons te tNil)) L as ρ O k :=
  w_bm a (w_var hv ⟨rfl, ⟨j, _, ha, ho⟩, rfl, w_cons (h.imp fun as d O ⟨ds, e1, e2, hl, z⟩ => w_nil (rc_append j e1 e2 hl z))⟩)
theorem w_extend {i : Nat} {a : Addr} {ds0 : List D} (j : Nat) (hv : ρ[i]? = some (some (.adr a))) (ha : as[j]? = some a) (ho : O[j]? = some (.lst ds0))
    (h : dE χ te L as ρ O fun as d O => ∃ ds es, as[j]? = some a ∧ O[j]? = some (.lst ds) ∧ lstOf as O d es ∧ ds.length + es.length ≤ sizeLine ∧ k as .non (O.set j (.lst (ds ++ es)))) : dE χ (tBM KK "list" rExtend (tVar i) (tCons te tNil)) L as ρ O k :=
  w_bm a (w_var hv ⟨rfl, ⟨j, _, ha, ho⟩, rfl, w_cons (h.imp fun as d O ⟨ds, es, e1, e2, e3, hl, z⟩ => w_nil (rc_extend j e1 e2 e3 hl z))⟩)
theorem w_yes (z : kT as true O) : dT χ tYes L as ρ O kT := fun F H σ S x Q q => q F H as O true true (.refl ..) S rfl z
/-- [te for g in wi] -/
theorem w_map {α : Type} {wi : TI} {g : TG} {vs : List Nat} (hg : WG g vs) (h : dI χ wi L as ρ O fun as1 ds O1 => ∃ (xs : List α) (em : α → D) (f : α → D), ds = xs.map em ∧ xs.length < sizeLine ∧
    (∀ x ∈ xs, dG X0 g (em x) L as1 (wρ ρ vs) O1 fun as2 ρ2 O2 => as2 = as1 ∧ O2 = O1 ∧ dE X0 te L as1 ρ2 O1 fun as4 y O4 => as4 = as1 ∧ O4 = O1 ∧ y = f x) ∧
    ∀ q, k (as1 ++ [q]) (.adr q) (O1 ++ [.lst (xs.map f)])) : dE χ (tLc wi g tYes te vs) L as ρ O k := by
  refine w_lc hg fun F H σ S x Q q => h F H σ S x Q fun F1 H1 as1 O1 J ds g1 S1 it ⟨xs, em, f, e, hl, st, fin⟩ => q F1 H1 as1 O1 J ds g1 S1 it ⟨xs, em, fun _ => true, f, e, hl, fun x m => ?_, fun q => ?_⟩
  · intro F H σ v S xp r Q q
    exact st x m F H σ v S xp r Q fun F' H' as' σ' ρ' O' g S' ⟨e1, e2, z⟩ => q F' H' as' σ' ρ' O' g S' ⟨e1, e2, w_yes ⟨rfl, rfl, rfl, fun _ => z⟩⟩
  · have := fin q
    have e : (xs.filter fun _ => true) = xs := List.filter_eq_self.mpr fun _ _ => rfl
    rw [e]
    exact this
/-- a statement, then what follows from what it leaves -/
theorem s_mid {K : Kt} {ts tw : TS} {N : List Addr → DSt → List D → Prop} (h : dS χ ts L as ρ O { K with nx := N }) (i : ∀ as ρ O, N as ρ O → dS χ tw L as ρ O K) : dS χ (tSeq ts tw) L as ρ O K :=
  s_seq fun F H σ S x Z z => h F H σ S x Z ⟨fun F' H' as' σ' ρ' O' g S' n => z.nx F' H' as' σ' ρ' O' g S' (i _ _ _ n), z.rt, z.bk, z.ct⟩
def kD : Key → D
  | .inl i => .int i
  | .inr x => .str x
theorem key_at {F : Hp} {v : V} {k : Key} (r : R F v (kD k)) : v = kV k := by
  cases k with
  | inl i => cases r; rfl
  | inr x => cases r; rfl
theorem r_key {F : Hp} (k : Key) : R F (kV k) (kD k) := by
  cases k with
  | inl i => exact .int i
  | inr x => exact .str x
def valD (kds : List (Key × D)) (k : Key) : Option D := (kds.find? fun kv => decide (kv.1 = k)).map (·.2)
def putDk (kds : List (Key × D)) (k : Key) (y : D) : List (Key × D) :=
  if (kds.any fun kv => decide (kv.1 = k)) = true then kds.map (fun kv => if kv.1 = k then (kv.1, y) else kv) else kds ++ [(k, y)]
theorem Rk.val {F : Hp} {k : Key} : ∀ {kvs : List (Key × V)} {kds : List (Key × D)}, Rk F kvs kds → (∀ d, valD kds k = some d → ∃ v, valV kvs k = some v ∧ R F v d) ∧ (valD kds k = none → valV kvs k = none)
  | _, _, .nil => ⟨fun d h => (by cases h), fun _ => rfl⟩
  | _, _, .cons (k := j) (v := v) (vs := vs) (d := d) (ds := ds) r t => by
    obtain ⟨h1, h2⟩ := Rk.val (k := k) t
    by_cases e : j = k
    · rw [valV_pos (p := (j, v)) e]
      have : valD ((j, d) :: ds) k = some d := by simp [valD, List.find?_cons, e]
      rw [this]
      exact ⟨fun d' h => by cases h; exact ⟨v, rfl, r⟩, fun h => by cases h⟩
    · rw [valV_neg (p := (j, v)) e]
      have : valD ((j, d) :: ds) k = valD ds k := by simp [valD, List.find?_cons, e]
      rw [this]
      exact ⟨h1, h2⟩
theorem Rk.some_eq {F : Hp} {k : Key} {kvs : List (Key × V)} {kds : List (Key × D)} (r : Rk F kvs kds) : (valV kvs k).isSome = (valD kds k).isSome := by
  obtain ⟨h1, h2⟩ := r.val (k := k)
  cases e : valD kds k with
  | none => rw [h2 e]; rfl
  | some d => obtain ⟨v, e', _⟩ := h1 d e; rw [e']; rfl
theorem Rk.any {F : Hp} {k : Key} : ∀ {kvs : List (Key × V)} {kds : List (Key × D)}, Rk F kvs kds → (kvs.any fun kv => decide (kv.1 = k)) = (kds.any fun kv => decide (kv.1 = k))
  | _, _, .nil => rfl
  | _, _, .cons r t => by rw [List.any_cons, List.any_cons, Rk.any t]
theorem Rk.snoc {F : Hp} {k : Key} {v : V} {y : D} (q : R F v y) : ∀ {kvs : List (Key × V)} {kds : List (Key × D)}, Rk F kvs kds → Rk F (kvs ++ [(k, v)]) (kds ++ [(k, y)])
  | _, _, .nil => .cons q .nil
  | _, _, .cons r t => .cons r (Rk.snoc q t)
theorem Rk.map {F : Hp} {k : Key} {v : V} {y : D} (q : R F v y) : ∀ {kvs : List (Key × V)} {kds : List (Key × D)}, Rk F kvs kds → Rk F (kvs.map fun kv => if kv.1 = k then (kv.1, v) else kv) (kds.map fun kv => if kv.1 = k then (kv.1, y) else kv)
  | _, _, .nil => .nil
  | _, _, .cons (k := j) r t => by
    rw [List.map_cons, List.map_cons]
    by_cases e : j = k
    · rw [if_pos e, if_pos e]; exact .cons q (Rk.map q t)
    · rw [if_neg e, if_neg e]; exact .cons r (Rk.map q t)
theorem Rk.put {F : Hp} {k : Key} {v : V} {y : D} (q : R F v y) {kvs : List (Key × V)} {kds : List (Key × D)} (r : Rk F kvs kds) : Rk F (putK kvs k v) (putDk kds k y) := by
  unfold putK putDk
  rw [r.any]
  by_cases e : (kds.any fun kv => decide (kv.1 = k)) = true
  · rw [if_pos e, if_pos e]; exact r.map q
  · rw [if_neg e, if_neg e]; exact r.snoc q
/-- a dict, known or owned -/
def dkOf (as : List Addr) (O : List D) (d : D) (kds : List (Key × D)) : Prop := (d = .dk kds ∨ ∃ a, d = .ldk a kds) ∨ ∃ (j : Nat) (a : Addr), d = .adr a ∧ as[j]? = some a ∧ O[j]? = some (.dk kds)
theorem dk_at {F H : Hp} {v : V} {kds : List (Key × D)} (hd : Hd L F H) (ow : Own F H as O) (r : R F v d) (h : dkOf as O d kds) : ∃ a kvs, v = .ref a ∧ Rd H a (.dK kvs) ∧ Rk F kvs kds := by
  rcases h with (rfl | ⟨a, rfl⟩) | ⟨j, a, rfl, e1, e2⟩
  · cases r with
    | dk e r => exact ⟨_, _, rfl, hd.dk e, r⟩
  · cases r with
    | ldk e r => exact ⟨_, _, rfl, hd.dk e, r⟩
  · cases r
    obtain ⟨_, o, e, c⟩ := ow.at_ j a _ e1 e2
    cases c with
    | dk r => exact ⟨_, _, rfl, .inl e, r⟩
theorem dget_of {F H : Hp} {v y : V} {kds : List (Key × D)} {c : Key} (hd : Hd L F H) (ow : Own F H as O) (r : R F v d) (h : dkOf as O d kds) (ry : R F y (kD c)) : ∃ a o, v = .ref a ∧ DGet H a y o ∧ o.isSome = (valD kds c).isSome ∧ ∀ e, valD kds c = some e → ∃ w, o = some w ∧ R F w e := by
  obtain ⟨a, kvs, rfl, rd, rk⟩ := dk_at hd ow r h
  exact ⟨a, valV kvs c, rfl, .inl ⟨kvs, c, rd, key_at ry, rfl⟩, rk.some_eq, fun e he => (rk.val (k := c)).1 e he⟩
theorem w_din (h : dE χ ty L as ρ O fun as y O => dE χ td L as ρ O fun as d O => ∃ c kds, y = kD c ∧ dkOf as O d kds ∧ k as (.bl (valD kds c).isSome) O) : dE χ (tDIn ty td) L as ρ O k := fun F H σ S x Q q =>
  h F H σ S x _ fun F1 H1 as1 O1 vy y g1 S1 r1 z1 => z1 F1 H1 σ S1 (x.go g1) _ fun F2 H2 as2 O2 v d g2 S2 r2 ⟨c, kds, ey, hk, z⟩ => by
    subst ey
    obtain ⟨a, o, rfl, g, eo, _⟩ := dget_of S2.hd S2.own r2 hk (r1.mono g2.ex)
    exact ⟨a, o, rfl, g, by rw [eo]; exact q F2 H2 as2 O2 _ _ (g1.trans g2) S2 (.bl _) z⟩
theorem w_dnin (h : dE χ ty L as ρ O fun as y O => dE χ td L as ρ O fun as d O => ∃ c kds, y = kD c ∧ dkOf as O d kds ∧ k as (.bl (!(valD kds c).isSome)) O) : dE χ (tDNotIn ty td) L as ρ O k := fun F H σ S x Q q =>
  h F H σ S x _ fun F1 H1 as1 O1 vy y g1 S1 r1 z1 => z1 F1 H1 σ S1 (x.go g1) _ fun F2 H2 as2 O2 v d g2 S2 r2 ⟨c, kds, ey, hk, z⟩ => by
    subst ey
    obtain ⟨a, o, rfl, g, eo, _⟩ := dget_of S2.hd S2.own r2 hk (r1.mono g2.ex)
    exact ⟨a, o, rfl, g, by rw [eo]; exact q F2 H2 as2 O2 _ _ (g1.trans g2) S2 (.bl _) z⟩
theorem w_dget (h : dE χ td L as ρ O fun as d O => dE χ ty L as ρ O fun as2 y O2 => as2 = as ∧ O2 = O ∧ ∃ c kds e, y = kD c ∧ dkOf as O d kds ∧ valD kds c = some e ∧ k as e O) : dE χ (tDGet td ty) L as ρ O k := fun F H σ S x Q q =>
  h F H σ S x _ fun F1 H1 as1 O1 v d g1 S1 r1 z1 => z1 F1 H1 σ S1 (x.go g1) _ fun F2 H2 as2 O2 vy y g2 S2 r2 ⟨e1, e2, c, kds, e, ey, hk, he, z⟩ => by
    subst e1
    subst e2
    subst ey
    obtain ⟨a, o, rfl, g, _, eo⟩ := dget_of S2.hd S2.own (r1.mono g2.ex) hk r2
    obtain ⟨w, rfl, rw'⟩ := eo e he
    exact ⟨a, w, rfl, g, q F2 H2 _ _ _ _ (g1.trans g2) S2 rw' z⟩
theorem s_dput {K : Kt} {tv : TE} (h : dE χ tv L as ρ O fun as v O => dE χ td L as ρ O fun as d O => dE χ ty L as ρ O fun as y O => ∃ (j : Nat) (a : Addr) (c : Key) (kds : List (Key × D)), y = kD c ∧ d = .adr a ∧ as[j]? = some a ∧ O[j]? = some (.dk kds) ∧ kds.length < sizeLine ∧ K.nx as ρ (O.set j (.dk (putDk kds c v)))) :
    dS χ (sDPut td ty tv) L as ρ O K := fun F H σ S x Z z =>
  h F H σ S x _ fun F1 H1 as1 O1 v dv g1 S1 r1 z1 => z1 F1 H1 σ S1 (x.go g1) _ fun F2 H2 as2 O2 u d g2 S2 r2 z2 => z2 F2 H2 σ S2 (x.go (g1.trans g2)) _ fun F3 H3 as3 O3 y dy g3 S3 r3 ⟨j, a, c, kds, ey, ed, ha, ho, hl, z3⟩ => by
    subst ey
    subst ed
    cases r2
    obtain ⟨hf, o, e, cn⟩ := S3.own.at_ j a _ ha ho
    cases cn with
    | @dk kvs _ rk =>
      refine ⟨a, _, rfl, .inl ⟨kvs, c, e, key_at r3, by rw [rk.length]; exact hl, rfl⟩, ?_⟩
      exact z.nx F3 _ as3 σ ρ _ (g1.trans (g2.trans (g3.trans (go_upd (List.mem_of_getElem? ha))))) ⟨S3.hd.upd hf, S3.own.put (.dk (rk.put ((r1.mono g2.ex).mono g3.ex))) ha, S3.sl⟩ z3
theorem w_dsetd {tx : TE} (h : dE χ td L as ρ O fun as d O => (∃ kds, dkOf as O d kds) ∧ dE χ ty L as ρ O fun as y O => dE χ tx L as ρ O fun as v O => ∃ (j : Nat) (a : Addr) (c : Key) (kds : List (Key × D)), y = kD c ∧ d = .adr a ∧ as[j]? = some a ∧ O[j]? = some (.dk kds) ∧ kds.length < sizeLine ∧
    (∀ e, valD kds c = some e → k as e O) ∧ (valD kds c = none → k as v (O.set j (.dk (putDk kds c v))))) : dE χ (tDSetd td ty tx) L as ρ O k := fun F H σ S x Q q =>
  h F H σ S x _ fun F1 H1 as1 O1 u d g1 S1 r1 ⟨⟨kds0, hk0⟩, z1⟩ => by
    obtain ⟨a0, kvs0, rfl, rd0, _⟩ := dk_at S1.hd S1.own r1 hk0
    refine ⟨a0, rfl, .inl ⟨kvs0, rd0⟩, ?_⟩
    refine z1 F1 H1 σ S1 (x.go g1) _ fun F2 H2 as2 O2 y dy g2 S2 r2 z2 => z2 F2 H2 σ S2 (x.go (g1.trans g2)) _ fun F3 H3 as3 O3 v dv g3 S3 r3 ⟨j, a, c, kds, ey, ed, ha, ho, hl, y1, y2⟩ => ?_
    subst ey
    subst ed
    cases r1
    obtain ⟨hf, o, e, cn⟩ := S3.own.at_ j _ _ ha ho
    cases cn with
    | @dk kvs _ rk =>
      have gg := g1.trans (g2.trans g3)
      obtain ⟨v1, v2⟩ := rk.val (k := c)
      refine ⟨kvs, c, e, key_at (r2.mono g3.ex), by rw [rk.length]; exact hl, fun w hw => ?_, fun hn => ?_⟩
      · cases ev : valD kds c with
        | none => rw [v2 ev] at hw; cases hw
        | some e' =>
          obtain ⟨w', hw', rw'⟩ := v1 e' ev
          rw [hw] at hw'
          cases hw'
          exact q F3 H3 as3 O3 _ _ gg S3 rw' (y1 e' ev)
      · have ev : valD kds c = none := by
          have := rk.some_eq (k := c)
          rw [hn] at this
          cases ev : valD kds c with
          | none => rfl
          | some _ => rw [ev] at this; cases this
        exact q F3 _ as3 _ _ _ (gg.trans (go_upd (List.mem_of_getElem? ha))) ⟨S3.hd.upd hf, S3.own.put (.dk (rk.put r3)) ha, S3.sl⟩ r3 (y2 ev)
theorem Hd.dkU {F H : Hp} {a : Addr} {kvs : List (Key × V)} (hd : Hd [] F H) (e : F a = some (.dK kvs)) : H a = some (.dK kvs) := by
  rcases hd.at_ a _ e with ⟨_, e'⟩ | ⟨m, _⟩ | ⟨_, _, _, y, _⟩
  · exact e'
  · cases m
  · cases y
/-- a dict where nothing is locked -/
theorem dk_un {F H : Hp} {v : V} {kds : List (Key × D)} (hd : Hd [] F H) (ow : Own F H as O) (r : R F v d) (h : dkOf as O d kds) : ∃ a kvs, v = .ref a ∧ H a = some (.dK kvs) ∧ Rk F kvs kds := by
  rcases h with (rfl | ⟨a, rfl⟩) | ⟨j, a, rfl, e1, e2⟩
  · cases r with
    | dk e r => exact ⟨_, _, rfl, hd.dkU e, r⟩
  · cases r with
    | ldk e r => exact ⟨_, _, rfl, hd.dkU e, r⟩
  · cases r
    obtain ⟨_, o, e, c⟩ := ow.at_ j a _ e1 e2
    cases c with
    | dk r => exact ⟨_, _, rfl, e, r⟩
/-- len of a dict -/
theorem rc_lenD {kds : List (Key × D)} (h : dkOf as O d kds) (z : k as (.int kds.length) O) : rc (fun xs H Q => ∃ a kvs, xs = [V.ref a] ∧ H a = some (.dK kvs) ∧ Q (.int kvs.length) H) [] as O [d] k := fun F H xs hd ow r Q q => by
  cases r with
  | cons r1 r2 =>
    cases r2
    obtain ⟨a, kvs, rfl, e, rk⟩ := dk_un hd ow r1 h
    exact ⟨a, kvs, rfl, e, by rw [rk.length]; exact q F H as O _ _ (.refl ..) hd ow (.int _) z⟩
end
end DL
namespace DL
open PySem PySem.Spec PyProof.Rows L2
section
variable {χ : Xk} {L : List Addr} {as : List Addr} {ρ : DSt} {O : List D} {k : List Addr → D → List D → Prop} {kT : List Addr → Bool → List D → Prop} {kA kI : List Addr → List D → List D → Prop} {ta tb tc td ty te : TE} {tt tu : TT} {d d1 d2 : D} {KK : PySem.W.Frag}
theorem w_chain {r r' : R2} (h : dE χ ta L as ρ O fun as d1 O => dE χ tb L as ρ O fun as d2 O => rv r L as O d1 d2 fun as d O => ∃ b, d = .bl b ∧ if b = true then dE χ tc L as ρ O fun as d3 O => rv r' L as O d2 d3 k else k as (.bl false) O) :
    dE χ (tChain r r' ta tb tc) L as ρ O k := fun F H σ S x Q q =>
  h F H σ S x _ fun F1 H1 as1 O1 v1 d1 g1 S1 r1 z1 => z1 F1 H1 σ S1 (x.go g1) _ fun F2 H2 as2 O2 v2 d2 g2 S2 r2 z2 =>
    z2 F2 H2 v1 v2 S2.hd S2.own (r1.mono g2.ex) r2 _ fun F3 H3 as3 O3 v d g3 hd ow r3 ⟨b, ed, z3⟩ => by
      subst ed
      cases r3
      have gg := g1.trans (g2.trans g3)
      have S3 : Rep L as3 F3 H3 σ ρ O3 := ⟨hd, ow, S2.sl.mono g3.ex⟩
      refine ⟨b, rfl, ?_⟩
      cases b with
      | false => exact q F3 H3 as3 O3 _ _ gg S3 (.bl _) z3
      | true =>
        exact z3 F3 H3 σ S3 (x.go gg) _ fun F4 H4 as4 O4 v4 d4 g4 S4 r4 z4 => z4 F4 H4 v2 v4 S4.hd S4.own ((r2.mono g3.ex).mono g4.ex) r4 _ fun F5 H5 as5 O5 v5 d5 g5 hd5 ow5 r5 z5 =>
          q F5 H5 as5 O5 v5 d5 (gg.trans (g4.trans g5)) ⟨hd5, ow5, S4.sl.mono g5.ex⟩ r5 z5
theorem Rn.redo {F : Hp} {f : Str} {v : V} {y : D} (q : R F v y) : ∀ {fs : List (Str × V)} {fds : List (Str × D)}, Rn F fs fds → fs.lookup f = some v → Rn F fs (putD f y fds)
  | _, _, .nil, h => by cases h
  | _, _, .cons (k := g) (v := u) r t, h => by
    unfold putD
    rw [List.lookup_cons] at h
    by_cases e : g = f
    · subst e
      rw [if_pos rfl]
      rw [beq_self_eq_true] at h
      cases h
      exact .cons q t
    · rw [if_neg e]
      have : (f == g) = false := by simp; exact fun z => e z.symm
      rw [this] at h
      exact .cons r (Rn.redo q t h)
theorem s_frzFld {K : Kt} {ts : TS} (j j' : Nat) (a C : Addr) (c y : D) (f : Str) (fds : List (Str × D)) (ha : as[j]? = some a) (hc : O[j]? = some c) (hy : ∀ F o, F a = some o → Cn F o c → R F (.ref a) y) (hj' : (O.eraseIdx j)[j']? = some (.ins C fds)) (hf : fds.lookup f = some (.adr a))
    (h : dS χ ts L (as.eraseIdx j) ρ ((O.eraseIdx j).set j' (.ins C (putD f y fds))) K) : dS χ ts L as ρ O K := fun F H σ S x Z z => by
  obtain ⟨hfa, o, ho, cn⟩ := S.own.at_ j a c ha hc
  have S' := S.frz ha hc hfa ho cn
  have g : Go as F H (as.eraseIdx j) (upd F a o) H := go_frz hfa ha
  have ry : R (upd F a o) (.ref a) y := hy _ _ upd_same (cn.mono (ex_lay hfa))
  have own2 : Own (upd F a o) H (as.eraseIdx j) ((O.eraseIdx j).set j' (.ins C (putD f y fds))) := by
    refine ⟨S'.own.nd, by rw [List.length_set]; exact S'.own.len, fun i b d' e1 e2 => ?_⟩
    by_cases q : j' = i
    · subst q
      rw [List.getElem?_set_self (List.getElem?_eq_some_iff.mp hj').1] at e2
      cases e2
      obtain ⟨f1, o1, f2, f3⟩ := S'.own.at_ j' b _ e1 hj'
      cases f3 with
      | @ins _ dx fs _ rn =>
        obtain ⟨v, ev, rv⟩ := rn.get hf
        cases rv
        exact ⟨f1, _, f2, .ins (rn.redo ry ev)⟩
    · rw [List.getElem?_set_ne q] at e2
      exact S'.own.at_ i b d' e1 e2
  exact h _ _ σ ⟨S'.hd, own2, S'.sl⟩ (x.go g) Z (z.go g)
theorem s_lock {K : Kt} {ts : TS} (a C : Addr) (kds : List (Key × D)) (j : Nat) (f : Str) (fds : List (Str × D)) (nL : a ∉ L) (hj : O[j]? = some (.ins C fds)) (hf : fds.lookup f = some (.ldk a kds)) (h : dS χ ts (a :: L) as ρ O K) : dS χ (tLock ts) L as ρ O K := fun F H σ S x Z z => by
  obtain ⟨b0, o0, e1, e2, e3, e4⟩ := S.own.get hj
  cases e4 with
  | @ins _ dx fs _ rn =>
    obtain ⟨v, ev, rv⟩ := rn.get hf
    cases rv with
    | @ldk _ kvs _ fa rk =>
      have ha : H a = some (.dK kvs) := by
        rcases S.hd.at_ a _ fa with ⟨_, e'⟩ | ⟨m, _⟩ | ⟨_, _, _, y, _⟩
        · exact e'
        · exact absurd m nL
        · cases y
      have nas : a ∉ as := fun m => by rw [S.own.free m] at fa; cases fa
      refine ⟨a, .dK kvs, ha, trivial, fun od => ?_⟩
      have hs : (upd H a (.frz od (.dK kvs))) a = some (.frz od (.dK kvs)) := upd_same
      have S1 : Rep (a :: L) as F (upd H a (.frz od (.dK kvs))) σ ρ O := by
        refine ⟨⟨fun b u e => ?_, fun b m => ?_⟩, S.own.keep (fun _ _ h => h) (fun b m => S.own.free m) fun b m o e => ?_, S.sl⟩
        · by_cases q : b = a
          · subst q
            rw [fa] at e
            cases e
            exact .inr (.inl ⟨List.mem_cons_self, _, _, rfl, hs⟩)
          · rw [upd_ne q]
            rcases S.hd.at_ b u e with ⟨m, e'⟩ | ⟨m, e'⟩ | ⟨m, e'⟩
            · exact .inl ⟨fun y => (List.mem_cons.mp y).elim q m, e'⟩
            · exact .inr (.inl ⟨List.mem_cons_of_mem _ m, e'⟩)
            · exact .inr (.inr ⟨fun y => (List.mem_cons.mp y).elim q m, e'⟩)
        · rcases List.mem_cons.mp m with m | m
          · subst m; rw [fa]; exact fun y => by cases y
          · exact S.hd.lk b m
        · rw [upd_ne (show b ≠ a from fun y => nas (by rw [← y]; exact m))]; exact e
      have back : ∀ {F' H' : Hp} {as' : List Addr}, Go as F (upd H a (.frz od (.dK kvs))) as' F' H' → H' a = some (.frz od (.dK kvs)) ∧ F' a = some (.dK kvs) ∧ a ∉ as' ∧ Go as F H as' F' (upd H' a (.dK kvs)) := fun {F' H' as'} g => by
        refine ⟨g.kp a _ hs nas, g.ex _ _ fa, fun m => ?_, g.ex, fun b u e => ?_, fun b u e n => ?_, fun b e => ?_, fun b m => ?_⟩
        · rcases g.sub a m with m | m
          · exact nas m
          · rw [hs] at m; cases m
        · rcases g.nw b u e with e | e | e
          · exact .inl e
          · by_cases q : b = a
            · subst q; rw [hs] at e; cases e
            · rw [upd_ne q] at e; exact .inr (.inl e)
          · exact .inr (.inr e)
        · by_cases q : b = a
          · subst q; rw [ha] at e; rw [upd_same]; exact e
          · rw [upd_ne q]
            exact g.kp b u (by rw [upd_ne q]; exact e) n
        · by_cases q : b = a
          · subst q; rw [upd_same] at e; cases e
          · rw [upd_ne q] at e
            have := g.th b e
            rw [upd_ne q] at this
            exact this
        · rcases g.sub b m with m | m
          · exact .inl m
          · by_cases q : b = a
            · subst q; rw [hs] at m; cases m
            · rw [upd_ne q] at m; exact .inr m
      have backH : ∀ {F' H' : Hp}, Hd (a :: L) F' H' → F' a = some (.dK kvs) → Hd L F' (upd H' a (.dK kvs)) := fun {F' H'} hd fa' => by
        refine ⟨fun b u e => ?_, fun b m => hd.lk b (List.mem_cons_of_mem _ m)⟩
        by_cases q : b = a
        · subst q
          rw [fa'] at e
          cases e
          exact .inl ⟨nL, upd_same⟩
        · rw [upd_ne q]
          rcases hd.at_ b u e with ⟨m, e'⟩ | ⟨m, e'⟩ | ⟨m, e'⟩
          · exact .inl ⟨fun y => m (List.mem_cons_of_mem _ y), e'⟩
          · exact .inr (.inl ⟨(List.mem_cons.mp m).elim (fun y => absurd y q) id, e'⟩)
          · exact .inr (.inr ⟨fun y => m (List.mem_cons_of_mem _ y), e'⟩)
      have backO : ∀ {F' H' : Hp} {as' : List Addr} {O' : List D}, Own F' H' as' O' → a ∉ as' → Own F' (upd H' a (.dK kvs)) as' O' := fun ow n =>
        ow.keep (fun _ _ h => h) (fun b m => ow.free m) fun b m o e => by rw [upd_ne (show b ≠ a from fun y => n (by rw [← y]; exact m))]; exact e
      have x1 : XP χ (a :: L) as F (upd H a (.frz od (.dK kvs))) := fun F' H' L' as' σ' ρ' O' cls dd fds' g S' nx ze => by
        refine x F' H' L' as' σ' ρ' O' cls dd fds' ⟨g.ex, fun b u e => ?_, fun b u e n => ?_, fun b e => ?_, fun b m => ?_⟩ S' (nx.imp fun b hb => by
          by_cases q : b = a
          · subst q; rw [hs] at hb; cases hb
          · rw [upd_ne q] at hb; exact hb) ze
        · rcases g.nw b u e with e | e | e
          · exact .inl e
          · by_cases q : b = a
            · subst q; rw [hs] at e; cases e
            · rw [upd_ne q] at e; exact .inr (.inl e)
          · exact .inr (.inr e)
        · by_cases q : b = a
          · subst q
            rw [ha] at e
            cases e
            have hh : H' b = some (.frz od (.dK kvs)) := by
              rcases g.kp b _ hs n with y | ⟨_, y, _⟩
              · exact y
              · exact absurd List.mem_cons_self y
            rcases S'.hd.at_ b _ (g.ex _ _ fa) with ⟨_, y⟩ | ⟨m, _⟩ | ⟨_, _, _, y, _⟩
            · rw [hh] at y; cases y
            · exact .inr ⟨m, nL, _, _, rfl, hh⟩
            · cases y
          · rcases g.kp b u (by rw [upd_ne q]; exact e) n with y | ⟨y1, y2, y3⟩
            · exact .inl y
            · exact .inr ⟨y1, fun y => y2 (List.mem_cons_of_mem _ y), y3⟩
        · by_cases q : b = a
          · subst q
            have := g.th b e
            rw [hs] at this
            cases this
          · have := g.th b e
            rw [upd_ne q] at this
            exact this
        · rcases g.sub b m with m | m
          · exact .inl m
          · by_cases q : b = a
            · subst q; rw [hs] at m; cases m
            · rw [upd_ne q] at m; exact .inr m
      refine h F _ σ S1 x1 _ ⟨fun F' H' as' σ' ρ' O' g S' zz => ?_, fun F' H' as' O' v d g hd ow r zz => ?_, fun F' H' as' σ' ρ' O' g S' zz => ?_, fun F' H' as' σ' ρ' O' g S' zz => ?_⟩
      all_goals obtain ⟨b1, b2, b3, b4⟩ := back g
      · exact ⟨b1, z.nx F' _ as' σ' ρ' O' b4 ⟨backH S'.hd b2, backO S'.own b3, S'.sl⟩ zz⟩
      · exact ⟨b1, z.rt F' _ as' O' v d b4 (backH hd b2) (backO ow b3) r zz⟩
      · exact ⟨b1, z.bk F' _ as' σ' ρ' O' b4 ⟨backH S'.hd b2, backO S'.own b3, S'.sl⟩ zz⟩
      · exact ⟨b1, z.ct F' _ as' σ' ρ' O' b4 ⟨backH S'.hd b2, backO S'.own b3, S'.sl⟩ zz⟩
/-- the pairs of a locked dict -/
def pairsD (kds : List (Key × D)) : List D := kds.map fun kv => .tup [kD kv.1, kv.2]
theorem Rk.at' {F : Hp} : ∀ {kvs : List (Key × V)} {kds : List (Key × D)} {i : Nat} {c : Key} {v : V}, Rk F kvs kds → kvs[i]? = some (c, v) → ∃ d, kds[i]? = some (c, d) ∧ R F v d
  | _, _, i, _, _, .nil, h => by simp at h
  | _, _, 0, _, _, .cons r t, h => by
    simp at h
    obtain ⟨rfl, rfl⟩ := h
    exact ⟨_, rfl, r⟩
  | _, _, i + 1, _, _, .cons r t, h => by
    obtain ⟨d, h1, h2⟩ := Rk.at' (i := i) t (by simpa using h)
    exact ⟨d, by simpa using h1, h2⟩
theorem i_items (h : dE χ td L as ρ O fun as d O => ∃ a kds, d = .ldk a kds ∧ a ∈ L ∧ kI as (pairsD kds) O) : dI χ (iItems td) L as ρ O kI := fun F H σ S x Q q =>
  h F H σ S x _ fun F1 H1 as1 O1 v d g1 S1 r1 ⟨a, kds, ed, mL, z⟩ => by
    subst ed
    cases r1 with
    | @ldk _ kvs _ fa rk =>
      obtain ⟨ob, e'⟩ : ∃ ob, H1 a = some (.frz ob (.dK kvs)) := by
        rcases S1.hd.at_ a _ fa with ⟨m, _⟩ | ⟨_, _, ob, _, e'⟩ | ⟨m, _⟩
        · exact absurd mL m
        · exact ⟨ob, e'⟩
        · exact absurd mL m
      have nas : a ∉ as1 := fun m => by rw [S1.own.free m] at fa; cases fa
      refine ⟨a, ob, kvs, rfl, e', q F1 H1 as1 O1 _ (pairsD kds) g1 S1 ⟨_, _, by rw [show (pairsD kds).length = kvs.length by rw [rk.length]; simp [pairsD]]; exact walk_items, fun F2 H2 _ gg hd => gg.kp a _ e' nas, fun i as H H' x F2 O hi ee hd ow y => ?_⟩ z⟩
      obtain ⟨T, x1, x2, rfl, hT, rfl, f1, f2⟩ := y
      have f1 : (kvs[i]?.map fun kv => kV kv.1) = some x1 := f1
      have f2 : (kvs[i]?.map Prod.snd) = some x2 := f2
      cases ek : kvs[i]? with
      | none => rw [ek] at f1; cases f1
      | some kv =>
        obtain ⟨c, w⟩ := kv
        rw [ek] at f1 f2
        cases f1
        cases f2
        obtain ⟨dw, e2, rd⟩ := rk.at' ek
        obtain ⟨F3, g3, h3, o3, r3⟩ := lay_pair hd ow hT (r_key c) (rd.mono ee)
        refine ⟨F3, _, ?_, g3, h3, o3, r3⟩
        unfold pairsD
        rw [List.getElem?_map, e2]
        rfl
end
end DL
namespace DL
open PySem PySem.Spec PyProof.Rows L2
section
variable {χ : Xk} {L : List Addr} {as : List Addr} {ρ : DSt} {O : List D} {k : List Addr → D → List D → Prop} {ta te : TE} {t : TA} {d d1 d2 : D} {KK : PySem.W.Frag}
/-- a method of a list that stands there as data -/
def rm (r : V → List V → Hp → VK → Prop) (L as : List Addr) (O : List D) (d : D) (ds : List D) (k : List Addr → D → List D → Prop) : Prop :=
  ∀ F H x vs, Hd L F H → Own F H as O → R F x d → Rs F vs ds → ∀ Q : VK, (∀ F' H' as' O' v d, Go as F H as' F' H' → Hd L F' H' → Own F' H' as' O' → R F' v d → k as' d O' → Q v H') → r x vs H Q
theorem w_bmR {T : String} {r : V → List V → Hp → VK → Prop} (h : dE χ ta L as ρ O fun as1 d O1 => (∃ ds, lstR as1 O1 KK d ds) ∧ T = "list" ∧ dA χ t L as1 ρ O1 fun as2 ds O2 => rm r L as2 O2 d ds k) : dE χ (tBM KK T r ta t) L as ρ O k := fun F H σ S x Q q =>
  h F H σ S x _ fun F1 H1 as1 O1 v d g1 S1 r1 ⟨⟨ds, hl⟩, eT, z1⟩ => by
    subst eT
    obtain ⟨a, xs, rfl, s, r'⟩ := lr_at S1.hd S1.own r1 hl
    refine ⟨.inl ⟨rfl, _, s⟩, z1 F1 H1 σ S1 (x.go g1) _ fun F2 H2 as2 O2 vs ds g2 S2 r2 z2 => ?_⟩
    exact z2 F2 H2 _ vs S2.hd S2.own (r1.mono g2.ex) r2 _ fun F3 H3 as3 O3 v d g3 hd ow r3 z3 => q F3 H3 as3 O3 v d (g1.trans (g2.trans g3)) ⟨hd, ow, S2.sl.mono g3.ex⟩ r3 z3
theorem rm_index {zs : List Str} {y : Str} {j : Nat} (hl : lstR as O KK d (zs.map D.str)) (nd : zs.Nodup) (h : zs[j]? = some y) (z : k as (.int (j : Nat)) O) : rm (rIndex KK) L as O d [.str y] k := fun F H x vs hd ow r1 r2 Q q => by
  cases r2 with
  | cons r3 r4 =>
    cases r4
    cases r3
    obtain ⟨a, xs, rfl, s, r'⟩ := lr_at hd ow r1 hl
    have ex := r'.strs
    subst ex
    refine ⟨a, _, .str y, j, .str y, rfl, rfl, s, rfl, flat_strs zs, by rw [List.getElem?_map, h]; rfl, ?_, fun m z' hm hz => ?_, q F H as O _ _ (.refl ..) hd ow (.int _) z⟩
    · show (y == y) = true
      exact beq_self_eq_true y
    · rw [List.getElem?_map] at hz
      cases e : zs[m]? with
      | none => rw [e] at hz; cases hz
      | some w =>
        rw [e] at hz
        cases hz
        show (w == y) = false
        rw [beq_eq_false_iff_ne]
        intro ew
        subst ew
        have := L2.nd_ix nd e h
        omega
end
end DL
namespace DL
open PySem PySem.Spec PyProof.Rows L2
/-- owned dicts that are walked stay so -/
def Kp (as : List Addr) (O : List D) (as2 : List Addr) (O2 : List D) : Prop := ∀ (j : Nat) (a : Addr) (o : HO) (kds : List (Key × D)), as[j]? = some a → O[j]? = some (.fz o kds) → as2[j]? = some a ∧ O2[j]? = some (.fz o kds)
theorem Kp.refl {as : List Addr} {O : List D} : Kp as O as O := fun _ _ _ _ h1 h2 => ⟨h1, h2⟩
section
variable {χ : Xk} {L as : List Addr} {ρ : DSt} {O : List D} {K : Kt} {k : List Addr → D → List D → Prop} {kI : List Addr → List D → List D → Prop} {td te : TE} {tt : TT} {ts tw : TS} {g : TG}
theorem Own.fz {F H : Hp} {j : Nat} {a : Addr} {o : HO} {kds : List (Key × D)} (ow : Own F H as O) (e1 : as[j]? = some a) (e2 : O[j]? = some (.fz o kds)) : ∃ od kvs, o = .frz od (.dK kvs) ∧ H a = some o ∧ Rk F kvs kds := by
  obtain ⟨_, o', e, c⟩ := ow.at_ j a _ e1 e2
  cases c with
  | fz r => exact ⟨_, _, rfl, e, r⟩
theorem Own.dk {F H : Hp} {j : Nat} {a : Addr} {kds : List (Key × D)} (ow : Own F H as O) (e1 : as[j]? = some a) (e2 : O[j]? = some (.dk kds)) : ∃ kvs, H a = some (.dK kvs) ∧ Rk F kvs kds := by
  obtain ⟨_, o', e, c⟩ := ow.at_ j a _ e1 e2
  cases c with
  | dk r => exact ⟨_, e, r⟩
end
end DL
namespace DL
open PySem PySem.Spec PyProof.Rows L2
theorem Rk.vals {F : Hp} : ∀ {kvs : List (Key × V)} {kds : List (Key × D)}, Rk F kvs kds → Rs F (kvs.map (·.2)) (kds.map (·.2))
  | _, _, .nil => .nil
  | _, _, .cons r t => .cons r (Rk.vals t)
section
variable {χ : Xk} {L : List Addr} {as : List Addr} {ρ : DSt} {O : List D} {k : List Addr → D → List D → Prop} {kA : List Addr → List D → List D → Prop} {td te ta tb : TE} {t : TA} {d d1 d2 : D} {KK : PySem.W.Frag}
theorem Rs.eraseIdx {F : Hp} : ∀ {xs : List V} {ds : List D} (n : Nat), Rs F xs ds → Rs F (xs.eraseIdx n) (ds.eraseIdx n)
  | _, _, _, .nil => .nil
  | _, _, 0, .cons r t => t
  | _, _, n + 1, .cons r t => .cons r (Rs.eraseIdx n t)
end
structure StatOf (K : PySem.W.Frag) (C : Addr) (m : Str) (p f : Addr) : Prop where
  pg : PySem.W.plainGet K C m = true
  hd : PySem.W.hasDictIn K C = true
  at_ : PySem.W.findIn K (.ref C) m = some (some (.ref p))
  typ : PySem.W.typeIn K (.ref p) = some (.type "staticmethod")
  get : PySem.W.specialIn K (.ref p) "__get__" = some (some (.builtin "staticmethod.__get__"))
  tak : PySem.W.takesIn K (.ref p) = some false
  cop : PySem.W.copiedNames.contains m = false
  rec_ : ∃ rest, PySem.W.recIn K p "staticmethod" = some (.ref f :: rest)
  kp : PySem.W.keepIn K (.ref f) = true
section
variable {X : Cx} {CX : CXT} {k : Nat} {f C p : Addr} {m : Str} {fd : FuncData} {ps : List Str} {sp : Sp} {E : XK} {o e : Expr} {es : List Expr} {apos pos : Pos} {ta : TE} {t : TA}
structure ItemOf (K : PySem.W.Frag) (C : Addr) (m : Str) (f : Addr) : Prop where
  at_ : PySem.W.findIn K (.ref C) m = some (some (.ref f))
  fn : PySem.W.isFn K (.ref f) = true
  sq : PySem.W.noSeq K C = true
end
end DL
namespace DLS
open PySem PySem.Spec PyProof.Rows L2 NdefX
/-- what the written part says of the def at f: the cell at cc holds the class at D -/
structure SupF (P : Program) (K : PySem.W.Frag) (D f cc cda : Addr) (name qual : Str) (params : Arguments) (body : List Stmt) (scope : Scope) (fd : FuncData) : Prop where
  fn : ∃ oc od dV kV doc pm an ct osl, fd = PySem.W.ksFn name qual params body scope dV kV doc pm an (.ref cda) ct cc ∧ K.lookup f = some ⟨oc, od, .func fd, osl⟩
  code : PySem.W.codeIn K (.ref cda) qual = true
  file : ∃ ccl cdd vs ccs file tf, K.lookup cda = some ⟨ccl, cdd, .fields vs, ccs⟩ ∧ vs[2]? = some (.str file tf) ∧ ((P.main.file : Str) == file) = true
  cell : ∃ cl cld csl, K.lookup cc = some ⟨cl, cld, .cell (some (.ref D)), csl⟩
  cls : (PySem.W.clsIn K D).isSome = true
  top : (P.main.scope.names.lookup ("super" : Str)).isSome = false
  opq : PySem.W.nsIn K PySem.cStatics "thirdparty.any" = some none
/-- the class at C, of which an instance is made, over the class at D -/
structure SupC (K : PySem.W.Frag) (C D : Addr) : Prop where
  sup : PySem.W.ks_superIn K C D "__init__" = some (some (.builtin "ValueError.__init__"))
  ve : PySem.W.subIn K (.ref C) (.type "ValueError") = some true
  mro : PySem.W.mroIn K C (.ref D) = some true
/-- super().__init__(..), then t -/
def tSup (K : PySem.W.Frag) (D : Addr) (ta : TA) (t : TS) : TS := fun E σ H => ∃ (a C : Addr), σ[0]? = some (some (.ref a)) ∧ OexC K C ∧ SupC K C D ∧ H a = some (exo a C none) ∧
  ta σ H fun vs H1 => vs.length ≤ 1000 ∧ H1 a = some (exo a C none) ∧ t E σ H1
section
variable {X : Cx} {pins : List (Addr × Obj)} {σ : L2.St} {H : Hp} {s : Shared} {A : Around} {E : Value → Shared → Prop}
theorem call_mw {a C u : Addr} {us : List Value} {Q : Value → Shared → Prop} (T : OexC X.K C) (I : Inv X pins σ H s) (e : H a = some (exo a C none)) (hu : s.heap.get? u = some (PySem.W.kxs_mw "ValueError.__init__" a)) (hl : us.length ≤ sizeLine)
    (h : ∀ s', Inv X pins σ H s' → Q .none s') : wpAny (model X.prog X.w) A (call (.ref u) us) Q E s := by
  obtain ⟨nm, q, N, bs, bm, sn, sub, ab, col, dd, k0, k1, k2, k3, k5, hC, hbm⟩ := T.cls
  obtain ⟨t1, ho⟩ := exo_at I.hok e
  obtain ⟨hp, g, d, t, os⟩ := s
  refine wpAny_call (codeAny_of_tree ?_)
  show wpAny _ A.in1 (callAny (.ref u) ⟨us, []⟩) _ _ _
  simp only [callAny]
  refine wpAny_bind (wpAny_load hu ?_)
  simp only [PySem.W.kxs_mw, show (Value.type "method-wrapper" == Value.type "method" || Value.type "method-wrapper" == Value.type "builtin_function_or_method" || Value.type "method-wrapper" == Value.type "method-wrapper") = true by decide, if_true]
  refine PySem.W.KFB.if_so (by decide) ?_
  refine wpAny_bind (ESX.check_bound F.excBase_ValueError (I.kIn _ _ hC) ho rfl ?_)
  refine wpAny_bind (wpAny_pure (wpAny_pure ?_))
  refine ⟨Code.quiet_builtin _ (by decide +kernel), codeAny_builtin F.excBase_ValueError.initEntry ?_⟩
  rw [Around.under_plainId F.excBase_ValueError.init.plain _]
  have fin : ∀ h' t2, (∀ b o, b ≠ a → hp.get? b = some o → h'.get? b = some o) → h'.get? a = some ({ cls := .ref C, dict := none, data := .fields #[.ref t2, .none, .none, .none, .bool false, .none] } : Obj) → Q .none ⟨h', g, d, t, os⟩ := fun h' t2 k hx => by
    have J := I.write (t' := t) (x := a) (e := a) (o := exo a C none) (by rw [e]; exact True.intro) (.inl rfl) k ⟨_, hx⟩ (exo_ok hx)
    have eu : upd H a (exo a C none) = H := by
      funext b
      by_cases hb : b = a
      · rw [hb, upd_same, e]
      · rw [upd_ne hb]
    rw [eu] at J
    exact h _ J
  wp_walk
  refine fin _ hp.objs.size (fun b o hb ho => ?_) ?_
  · rw [Heap.get?_update_other _ _ (Ne.symm hb)]
    exact Heap.get?_push_of_some _ ho
  · rw [Heap.get?_update_self _ (Heap.get?_push_of_some _ ho) rfl]
    rfl
theorem callwith_mw {i : String} {x u : Addr} {pos : Pos} {env : Env} {e : Expr} {rest : List Expr} {M : Model} {Q : Value → Shared → Prop}
    (h : wpAny M A (spliced (backTo pos (starEach (e :: rest) env))) (fun vs s₁ => s₁.heap.get? u = some (PySem.W.kxs_mw i x) ∧ wpAny M A (call (.ref u) vs) Q E s₁) E s)
    (he : starEach (e :: rest) env = (false, eval e env) :: starEach rest env := by rfl) (hplain : (backTo pos (starEach rest env)).any (·.1) = false := by rfl) :
    wpAny M A (callWith pos (.ref u) [] (backTo pos (starEach (e :: rest) env)) []) Q E s := by
  rw [he] at h ⊢
  refine PySem.W.kxs_callWith (i := i) (x := x) (by show (false || (backTo pos (starEach rest env)).any (·.1)) = false; rw [hplain]; rfl) ?_
  exact Calls.evalArgs_plain h
end
section
variable {CX : CXT} {P : Program} {w : World} {K : PySem.W.Frag} {mg : Str → Option Value} {base : Heap} {D f cc cda : Addr} {name qual x0 : Str} {params : Arguments} {rest : List Stmt} {scope : Scope} {fd : FuncData} {N ps : List Str} {k : Nat} {sp : Sp} {e : Expr} {es : List Expr} {p0 p1 p2 p3 p4 : Pos}
abbrev supS (e : Expr) (es : List Expr) (p0 p1 p2 p3 p4 : Pos) : Stmt := .Expr (.Call (.Attribute (.Call (.Name "super" p0) [] [] p1) "__init__" p2) (e :: es) [] p3) p4
theorem fn_super (F : SupF P K D f cc cda name qual params (supS e es p0 p1 p2 p3 p4 :: rest) scope fd) (S : NScope N (x0 :: ps) ["__class__"] scope) (hp : ∃ ar, (params.posonlyargs ++ params.args).head? = some ar ∧ ar.arg = x0)
    (hks : scope.names.lookup ("super" : Str) = some .globalImplicit) (hsup : mg "super" = none) (len : ∀ vs H Q E, sp vs H Q E → vs.length = (x0 :: ps).length)
    {pl : Env → Sem Bool} (hev : ∀ env : Env, eval (.Call (.Attribute (.Call (.Name "super" p0) [] [] p1) "__init__" p2) (e :: es) [] p3) env = (do
      let ov ← attributeBase (.Call (.Name "super" p0) [] [] p1) "__init__" env (eval (.Call (.Name "super" p0) [] [] p1) env)
      standAt p2.atName
      let (f, first) ← holding [ov] (getMethod ov "__init__" (pl env))
      callWith p3 f first (backTo p3 (starEach (e :: es) env)) []))
    (hsw : ∀ env : Env, swapsWith (.Call (.Attribute (.Call (.Name "super" p0) [] [] p1) "__init__" p2) (e :: es) [] p3) none p4.line env = pure false)
    (hst : ∀ env : Env, starEach (e :: es) env = (false, eval e env) :: starEach es env) (hpl : ∀ env : Env, (backTo p3 (starEach es env)).any (·.1) = false)
    (hbody : ∀ (A : Around) (outer : List Env) (s : Shared) (H : Hp) (vs : List V) (Q : VK) (E : XK), Room k (A.deeper (envF ⟨name, qual, params, supS e es p0 p1 p2 p3 p4 :: rest, scope, [("__class__", cc)], cda⟩ f s.heap.objs.size)) → sp vs H Q E →
      ∃ ta t, PA (ncx CX P w K mg base N ⟨name, qual, params, supS e es p0 p1 p2 p3 p4 :: rest, scope, [("__class__", cc)], cda⟩ f A outer s H E) (e :: es) ta ∧
        PSs (ncx CX P w K mg base N ⟨name, qual, params, supS e es p0 p1 p2 p3 p4 :: rest, scope, [("__class__", cc)], cda⟩ f A outer s H E) rest t ∧
        tSup K D ta t { nx := fun _ H' => Q .non H', rt := Q } (startF N vs [some (.ref D)]) H) : FnOk P w K mg base CX (k + 1) f fd (x0 :: ps) sp := by
  refine ⟨len, fun A outer s H args us vs Q E hr e0 hb r hsp => ?_⟩
  obtain ⟨oc, od, dV, kV, doc, pm, an, ct, osl, rfl, lk⟩ := F.fn
  obtain ⟨cl, cld, csl, hcell⟩ := F.cell
  obtain ⟨ccl, cdd, vsC, ccs, file, tf, hcode, hvs, hfile⟩ := F.file
  obtain ⟨ar, hp, har⟩ := hp
  have hl := len _ _ _ _ hsp
  have KX : K.In s.heap := e0.mod.kin.keeps fun b o e => (e0.bs b o e).1
  have lim : s.heap.NoLimit := e0.mod.nolimit.keeps fun b o e => (e0.bs b o e).1
  refine PySem.ks_codeAny_call_defAt (body := supS e es p0 p1 p2 p3 p4 :: rest) (binds := (x0 :: ps).zip us) hr.depth (KX _ _ lk) rfl lim (PySem.W.codeRec_of KX F.code) rfl hb S.nocell (fun ⟨n, _⟩ hy => S.par n (List.of_mem_zip hy).1) (fun h₁ hns kp => ?_) S.co S.gen S.kind
  obtain ⟨ta, t, hta, ht, q⟩ := hbody A outer s H vs Q E (hr.deeper _) hsp
  generalize hNF : (⟨name, qual, params, supS e es p0 p1 p2 p3 p4 :: rest, scope, [("__class__", cc)], cda⟩ : NF) = NF at hta ht
  have hcc : H cc = none := (e0.bs cc _ (e0.mod.kin _ _ hcell)).2
  have C : CellsAt NF.cl ["__class__"] [some (.ref D)] s.heap H := by
    subst hNF
    refine ⟨rfl, fun y c h => ?_, fun x y c h1 h2 => ?_, fun i y h => ?_⟩
    · have h : [(("__class__" : Str), cc)].lookup y = some c := h
      rw [List.lookup_cons] at h
      cases z : y == ("__class__" : Str) with
      | true => rw [z] at h; cases h; exact ⟨hcc, _, _, KX _ _ hcell, rfl⟩
      | false => rw [z] at h; cases h
    · have h1 : [(("__class__" : Str), cc)].lookup x = some c := h1
      have h2 : [(("__class__" : Str), cc)].lookup y = some c := h2
      rw [List.lookup_cons] at h1 h2
      cases z : x == ("__class__" : Str) with
      | false => rw [z] at h1; cases h1
      | true =>
        cases z2 : y == ("__class__" : Str) with
        | false => rw [z2] at h2; cases h2
        | true => rw [eq_of_beq z, eq_of_beq z2]
    · cases i with
      | zero =>
        simp at h
        subst h
        refine ⟨cc, by rfl, fun v hv => ?_⟩
        simp at hv
        subst hv
        exact ⟨.ref D, rfl, _, KX _ _ hcell, rfl⟩
      | succ i => simp at h
  have hscope : NF.scope = scope := by rw [← hNF]
  have I : Inv (ncx CX P w K mg base N NF f A outer s H E) [] (startF N vs [some (.ref D)]) H { s with heap := h₁, toks := s.toks + ((x0 :: ps).zip us).length } := inv_startN (by rw [hscope]; exact S) hr.hd e0 hl r C hns kp
  obtain ⟨a, C', h0, T, TC, ha, q⟩ := q
  have kin1 := I.kIn
  -- the names' values
  have henv : (ncx CX P w K mg base N NF f A outer s H E).env = PySem.W.ksEnv qual scope s.heap.objs.size f (.ref cda) cc := by subst hNF; rfl
  have hxe : (ncx CX P w K mg base N NF f A outer s H E).xe = fun e s' => wpAny (model P w) (A.deeper (PySem.W.ksEnv qual scope s.heap.objs.size f (.ref cda) cc)) (leaving (PySem.W.ksEnv qual scope s.heap.objs.size f (.ref cda) cc) e) (fun _ s'' => CX outer H s E e s'') (fun e' s'' => CX outer H s E e' s'') s' := by subst hNF; rfl
  have hA : (ncx CX P w K mg base N NF f A outer s H E).A = A.deeper (PySem.W.ksEnv qual scope s.heap.objs.size f (.ref cda) cc) := by subst hNF; rfl
  obtain ⟨m, hnsm, hlook⟩ := I.loc
  have hN0 : N[0]? = some x0 := by
    have := S.pre
    have e1 : (N.take ((x0 :: ps).length + [("__class__" : Str)].length))[0]? = some x0 := by rw [this]; rfl
    rw [List.getElem?_take_of_lt (by simp)] at e1
    exact e1
  have hx0 : scope.names.lookup x0 = some .local := S.par x0 List.mem_cons_self
  obtain ⟨u0, ru0, lk0⟩ := hlook 0 x0 (.ref a) hN0 h0 (by left; show NF.scope.names.lookup x0 = _; rw [hscope]; exact hx0)
  obtain rfl : u0 = Value.ref a := ru0
  have hm0 : m x0 = some (.ref a) := by
    rcases lk0 with ⟨_, z⟩ | ⟨z, _⟩
    · exact z
    · exfalso
      have z : NF.scope.names.lookup x0 = some .cell ∨ NF.scope.names.lookup x0 = some .free := z
      rw [hscope, hx0] at z
      rcases z with z | z <;> cases z
  obtain ⟨cdD, hD⟩ := Option.isSome_iff_exists.mp F.cls
  obtain ⟨oD, hD1, hD2⟩ : ∃ oD, h₁.get? D = some oD ∧ oD.data = .cls cdD := by
    unfold PySem.W.clsIn at hD
    split at hD
    · rename_i c d cd' sl ho
      cases hD
      exact ⟨_, kin1 _ _ ho, rfl⟩
    · cases hD
  obtain ⟨mb, hb1, hb2⟩ := I.mod.blt
  obtain ⟨t1, hoa⟩ := exo_at I.hok ha
  have IA : PySem.W.InstAt h₁ a { cls := .ref C', dict := none, data := .fields #[.ref t1, .none, .none, .none, .bool false, .none] } C' none := ⟨hoa, rfl, rfl, trivial⟩
  have hint : interactive (PySem.W.ksEnv qual scope s.heap.objs.size f (.ref cda) cc) = false := by have := I.quiet; rw [henv] at this; exact this
  have hboot : bootBuiltins "super" = some (.type "super") := by decide +kernel
  refine ks_wpAt_execs_cons (ks_wpAt_Expr_any (ks_wpAt_MethodCall (pl := pl _) ?_ (hev _)) hint (hsw _))
  refine ks_wpAt_super_base (env := PySem.W.ksEnv qual scope s.heap.objs.size f (.ref cda) cc) hks (S.frk _ List.mem_cons_self) rfl rfl (kin1 _ _ lk) rfl hp rfl (kin1 _ _ hcode) rfl hvs hfile F.top ?_
  refine PySem.W.ks_loadName_global S.kind hks (Calls.loadGlobal_builtin (env := PySem.W.ksEnv qual scope s.heap.objs.size f (.ref cda) cc) (I.mod.glob.keeps I.bk) hsup (hb1.keeps I.bk) ((hb2 _ (by decide)).trans hboot) ⟨rfl, ?_⟩)
  refine wpAny_loadName_free S.kind (S.frk _ List.mem_cons_self) rfl ⟨_, kin1 _ _ hcell, rfl⟩ ?_
  rw [har]
  refine wpAny_loadName_local S.kind hx0 (by have := hnsm; rw [henv] at this; exact this) hm0 ?_
  refine ks_wpAny_isType_cls hD1 hD2 ⟨rfl, ?_⟩
  refine ks_wpAny_call_super hD1 hD2 hoa rfl (fun c e => by cases e) (PySem.W.looks_mroIn kin1 TC.mro) (fun h2 hso k2 => ?_)
  have I2 : Inv (ncx CX P w K mg base N NF f A outer s H E) [] (startF N vs [some (.ref D)]) H { s with heap := h2, toks := s.toks + ((x0 :: ps).zip us).length } := I.kept (t' := s.toks + ((x0 :: ps).zip us).length) k2
  have kin2 := I2.kIn
  have IA2 : PySem.W.InstAt h2 a { cls := .ref C', dict := none, data := .fields #[.ref t1, .none, .none, .none, .bool false, .none] } C' none := ⟨k2 _ _ hoa, rfl, rfl, trivial⟩
  obtain ⟨cdC, hC⟩ : ∃ cd, PySem.W.clsIn K C' = some cd := by
    have := TC.sup
    unfold PySem.W.ks_superIn at this
    cases z : PySem.W.clsIn K C' with
    | none => rw [z] at this; cases this
    | some cd => exact ⟨cd, rfl⟩
  have hsupC := TC.sup
  unfold PySem.W.ks_superIn at hsupC
  rw [hC] at hsupC
  refine PySem.W.kxs_getMethod PySem.W.kxs_ValueError hso (PySem.W.looks_opaque kin2 F.opq) (l₀ := cdC.mro) ?_ rfl kin2 hsupC (IA2.type.andThen (PySem.W.looks_subIn kin2 TC.ve)) (PySem.W.ks_ne kin2 IA2 hC) rfl ?_
  · exact fun A Q E s k q => wpAny_bind ((PySem.W.looks_clsIn kin2 hC) A _ E s k (wpAny_pure q))
  have I3 : Inv (ncx CX P w K mg base N NF f A outer s H E) [(h2.objs.size, PySem.W.kxs_mw "ValueError.__init__" a)] (startF N vs [some (.ref D)]) H { s with heap := h2.push (PySem.W.kxs_mw "ValueError.__init__" a), toks := s.toks + ((x0 :: ps).zip us).length + 1 } :=
    ClX.pin_new (s := { s with heap := h2, toks := s.toks + ((x0 :: ps).zip us).length }) I2 (fun _ _ z => Heap.get?_push_of_some _ z) (Nat.le_refl _) (Heap.get?_push_size h2 rfl) (fun v z => nomatch z)
  refine callwith_mw (i := "ValueError.__init__") (x := a) ?_ (hst _) (hpl _)
  have run := hta.run p3 _ _ _ _ _ I3 q
  rw [hxe, hA] at run
  rw [henv] at run
  refine wpAny_mono run (fun us2 s4 h4 => ?_) fun e s' z => z
  obtain ⟨vs4, H4, I4, r4, hl4, ha4, q4⟩ := h4
  refine ⟨ClX.pin_at I4, ?_⟩
  refine call_mw T I4 ha4 (ClX.pin_at I4) (by rw [← r4.length]; exact Nat.le_trans hl4 (by decide)) fun s5 I5 => ?_
  refine wpAt_of_wpAny ?_
  have run2 := ht.run [] s5 _ _ _ (ClX.unpin I5) q4
  rw [hxe, hA, henv] at run2
  refine wpAny_mono run2 (fun fl s' hs => ?_) fun e s' hs => hs
  have fin : ∀ {σ' : L2.St} {H' : Hp} {v : V} {u : Value}, Inv (ncx CX P w K mg base N NF f A outer s H E) [] σ' H' s' → L2.RelV v u → Q v H' → CE outer P w H s Q u s' :=
    fun {σ' H' v u} J rv q => ⟨v, H', J.os, J.bare, J.base, J.hok, rv, q⟩
  cases fl with
  | ret u =>
    obtain ⟨v, σ', H', J, rv, q⟩ := hs
    exact fin J rv q
  | next =>
    obtain ⟨σ', H', J, q⟩ := hs
    exact fin (v := V.non) (u := Value.none) J rfl q
  | brk =>
    obtain ⟨_, _, _, z⟩ := hs
    exact z.elim
  | cont =>
    obtain ⟨_, _, _, z⟩ := hs
    exact z.elim
end
end DLS
namespace DL
open PySem PySem.Spec PyProof.Rows L2 NdefX DLS
section
variable {X : Cx} {k : Nat} {f C : Addr} {fd : FuncData} {ps : List Str} {sp : Sp} {dvs : List V} {ds : List Value} {W : WX} {x m : Str} {p pos apos : Pos} {e o : Expr} {es : List Expr} {ta : TE} {t : TA}
/-- a callee that lets nothing out -/
theorem passN : Passes (CX X.prog X.w) X (fun _ _ _ => False) := fun pins σ H s e s' I c => by
  obtain ⟨_, _, _, _, _, _, _, _, _, _, _, _, z⟩ := c
  exact z.elim
end
/-- what C's own __init__ promises: the arguments are its fields -/
def spI (K : PySem.W.Frag) (D : Addr) (fs : List Str) (cond : List V → Prop) : Sp := fun vs H Q _ => ∃ (a C : Addr) (ws : List V), vs = .ref a :: ws ∧ ws.length = fs.length ∧ cond ws ∧ OexC K C ∧ SupC K C D ∧ (∀ f ∈ fs, PySem.W.findIn K (.ref C) f = some none) ∧
  H a = some (exo a C none) ∧ ∀ dx, H dx = none → dx ≠ a → Q .non (upd (upd H dx (exd dx (fs.zip ws).reverse)) a (exo a C (some dx)))
theorem Rn.append {F : Hp} {gs : List (Str × V)} {gds : List (Str × D)} (q : Rn F gs gds) : ∀ {fs : List (Str × V)} {fds : List (Str × D)}, Rn F fs fds → Rn F (fs ++ gs) (fds ++ gds)
  | _, _, .nil => q
  | _, _, .cons r t => .cons r (Rn.append q t)
theorem Rn.reverse {F : Hp} : ∀ {fs : List (Str × V)} {fds : List (Str × D)}, Rn F fs fds → Rn F fs.reverse fds.reverse
  | _, _, .nil => .nil
  | _, _, .cons r t => by
    rw [List.reverse_cons, List.reverse_cons]
    exact Rn.append (.cons r .nil) (Rn.reverse t)
theorem Rs.zip {F : Hp} : ∀ {fs : List Str} {vs : List V} {ds : List D}, Rs F vs ds → Rn F (fs.zip vs) (fs.zip ds)
  | [], _, _, _ => .nil
  | _ :: _, _, _, .nil => .nil
  | _ :: _, _, _, .cons r t => .cons r (Rs.zip t)
section
variable {χ : Xk} {L : List Addr} {as : List Addr} {ρ : DSt} {O : List D} {k : List Addr → D → List D → Prop} {ta tb te : TE} {d d1 d2 : D} {KK : PySem.W.Frag}
theorem s_raise {K : Kt} {C : Addr} {fs : List Str} {cond : List V → Prop} {ta : TA} (T : OexC KK C) (TC : SupC KK C C) (hn : ∀ f ∈ fs, PySem.W.findIn KK (.ref C) f = some none) (hf : fs.length ≤ 1000)
    (h : dA χ ta L as ρ O fun as ds O => ds.length = fs.length ∧ (∀ F vs, Rs F vs ds → cond vs) ∧ χ.e L C (fs.zip ds).reverse as ρ O) : dS χ (fun _ σ H => tMkO C (spI KK C fs cond) [] ta σ H fun cls d H' => χ.E cls d σ H') L as ρ O K := fun F H σ S x Z z =>
  h F H σ S x _ fun F1 H1 as1 O1 vs ds g1 S1 r1 ⟨hl, hc, z1⟩ => by
    have hvl : vs.length = fs.length := by rw [r1.length]; exact hl
    refine ⟨by omega, fun a ha => ⟨a, C, vs, by rw [List.append_nil], hvl, hc F1 vs r1, T, TC, hn, upd_same, fun dx hdx ne => ?_⟩⟩
    rw [upd_ne ne] at hdx
    refine ⟨rfl, dx, (fs.zip vs).reverse, upd_same, by rw [upd_ne ne, upd_same], hdx, ?_⟩
    have eH : upd (del (upd (upd (upd H1 a (exo a C none)) dx (exd dx (fs.zip vs).reverse)) a (exo a C (some dx))) a) dx (.xd (fs.zip vs).reverse) = upd H1 dx (.xd (fs.zip vs).reverse) := by
      funext b
      by_cases q : b = dx
      · rw [q, upd_same, upd_same]
      · rw [upd_ne q, upd_ne q]
        by_cases q2 : b = a
        · rw [q2, del_same, ha]
        · rw [del_ne q2, upd_ne q2, upd_ne q, upd_ne q2]
    rw [eH]
    have g2 : Go as1 F1 H1 as1 F1 (upd H1 dx (.xd (fs.zip vs).reverse)) := ⟨fun _ _ h => h, fun _ _ h => .inl h, fun b o e _ => by rw [upd_ne (ne_of_none e hdx)]; exact e, fun b e => by
      by_cases z : b = dx
      · subst z; exact hdx
      · rw [upd_ne z] at e; exact e, fun _ m => .inl m⟩
    refine (x.go g1) F1 _ L as1 σ ρ O1 C (some dx) _ g2.x ⟨S1.hd.upd (S1.hd.free hdx), S1.own.keep (fun _ _ h => h) (fun b m => S1.own.free m) fun b m o e => by rw [upd_ne (ne_of_none e hdx)]; exact e, S1.sl⟩ ⟨hdx, _, upd_same, (Rs.zip r1).reverse⟩ z1
end
end DL
namespace DL
open PySem PySem.Spec PyProof.Rows L2 NdefX DLS
def excB1 (K : PySem.W.Frag) (C : Addr) : Bool := match K.lookup C with
  | some ⟨.type "type", _, .cls cd, sl⟩ => (match cd.mro, sl.toList with
    | .ref C' :: bm, [_, _, _, _, some (.builtin n), _] => C' == C && n == "ValueError.__new__" && !cd.hasDel && cd.hasDict && PySem.HandSPX.refsVE bm
    | _, _ => false)
  | _ => false
theorem excB1_ok {K : PySem.W.Frag} {C : Addr} (q : excB1 K C = true) : ∃ nm q N bs bm sn sub ab col dd k0 k1 k2 k3 k5, K.lookup C = some (excClassObj nm q C N bs bm true sn sub ab col dd k0 k1 k2 k3 k5 "ValueError.__new__") ∧ PySem.HandSPX.refsVE bm = true := by
  unfold excB1 at q
  split at q
  · rename_i dd cd sl ho
    split at q
    · rename_i C' bm k0 k1 k2 k3 n k5 hm hs
      simp only [Bool.and_eq_true, beq_iff_eq, Bool.not_eq_true'] at q
      obtain ⟨⟨⟨⟨rfl, rfl⟩, hdel⟩, hdic⟩, ht⟩ := q
      obtain ⟨nm, bs, mro, ns, qn, hd, sn, sub, ab, col, del⟩ := cd
      dsimp only at hm hdel hdic
      subst hm hdel hdic
      have hsl : sl = #[k0, k1, k2, k3, some (.builtin "ValueError.__new__"), k5] := by
        obtain ⟨l⟩ := sl
        simp only at hs
        rw [hs]
      subst hsl
      exact ⟨nm, qn, ns, bs, bm, sn, sub, ab, col, dd, k0, k1, k2, k3, k5, ho, ht⟩
    · cases q
  · cases q
def excB (K : PySem.W.Frag) (C : Addr) : Bool := excB1 K C && (decide (PySem.W.findIn K (.ref C) "__setattr__" = some (some (.builtin "object.__setattr__"))) && (decide (PySem.W.subIn K (.ref C) (.type "BaseException") = some true) && (decide (PySem.W.typeIn K (.ref C) = some (.type "type")) && (PySem.W.keepIn K (.ref C) &&
  (decide (PySem.W.findIn K (.ref C) "__getattribute__" = some (some (.builtin "BaseException.__getattribute__"))) && (decide (PySem.W.findIn K (.ref C) "__getattr__" = some none) && (PySem.W.hasDictIn K C && (decide (PySem.W.findIn K (.ref C) "__class__" = some (some (.builtin "object.__class__"))) &&
  (decide (PySem.W.specialIn K (.builtin "object.__class__") "__get__" = some (some (.builtin "getset_descriptor.__get__"))) && (decide (PySem.W.takesIn K (.builtin "object.__class__") = some true) && decide (PySem.W.mroIn K C (.type "object") = some true)))))))))))
theorem excB_ok {K : PySem.W.Frag} {C : Addr} (h : excB K C = true) : OexC K C ∧ ExcC K C ∧ XfC K C := by
  unfold excB at h
  simp only [Bool.and_eq_true, decide_eq_true_eq] at h
  obtain ⟨h1, h2, h3, h4, h5, h6, h7, h8, h9, h10, h11, h12⟩ := h
  exact ⟨⟨excB1_ok h1, h2, h3, h4, h5⟩, ⟨h6, h7, h3, h8, h9, h10, h11, h12⟩, ⟨h6, h7, h3, h8⟩⟩
def supCB (K : PySem.W.Frag) (C D : Addr) : Bool := decide (PySem.W.ks_superIn K C D "__init__" = some (some (.builtin "ValueError.__init__"))) && (decide (PySem.W.subIn K (.ref C) (.type "ValueError") = some true) && decide (PySem.W.mroIn K C (.ref D) = some true))
theorem supCB_ok {K : PySem.W.Frag} {C D : Addr} (h : supCB K C D = true) : SupC K C D := by
  unfold supCB at h
  simp only [Bool.and_eq_true, decide_eq_true_eq] at h
  exact ⟨h.1, h.2.1, h.2.2⟩
structure SupD where
  cls : Str
  name : Str
  qual : Str
  params : Arguments
  body : List Stmt
  scope : Scope
  /-- the last parameter's default, if there is one -/
  dv : Option Str := none
/-- what stands for the defaults -/
inductive DflS (K : PySem.W.Frag) : Option Str → Value → Prop
  | no : DflS K none .none
  | one {z : Str} {T : Addr} {o : Obj} {t : Tok} {n : Nat} : K.lookup T = some o → o.data = .seq #[.str z t] n → DflS K (some z) (.ref T)
def dfB (K : PySem.W.Frag) : Option Str → Value → Bool
  | none, .none => true
  | some z, .ref T => (match K.lookup T with
    | some o => (match o.data with
      | .seq its _ => (match its.toList with
        | [.str y _] => decide (y = z)
        | _ => false)
      | _ => false)
    | none => false)
  | _, _ => false
theorem dfB_ok {K : PySem.W.Frag} {dv : Option Str} {v : Value} (h : dfB K dv v = true) : DflS K dv v := by
  unfold dfB at h
  split at h
  · exact .no
  · split at h
    · rename_i o e
      split at h
      · rename_i its n ed
        split at h
        · rename_i y t el
          have := of_decide_eq_true h
          subst this
          refine .one (t := t) (n := n) e ?_
          rw [ed]
          congr 1
          rw [← Array.toArray_toList (xs := its), el]
        · cases h
      · cases h
    · cases h
  · cases h
abbrev SupW : Type := Option (Str × Str × Arguments × FuncBody × Scope × Addr × List Str × Addr)
def supW (K : PySem.W.Frag) (x : Str) : SupW := match K.lookup (He.ma K (He.ga K x) "__init__") with
  | some ⟨_, _, .func fd, _⟩ => some (fd.name, fd.qualname, fd.params, fd.body, fd.scope, fd.globals, fd.closure.map (·.1), fd.builtins)
  | _ => none
def SupD.val (d : SupD) : SupW := some (d.name, d.qual, d.params, .stmts d.body, d.scope, mainGlobals, ["__class__"], builtinsNs)
def fileS : Str := "/claim/cut.py"
/-- the function's parts; the cell holds the class -/
def supB2 (K : PySem.W.Frag) (x qual : Str) (cl : List (Str × Addr)) (code : Value) : Bool := match cl, code with
  | [(_, cc)], .ref cda => PySem.W.codeIn K (.ref cda) qual && ((match K.lookup cda with
    | some ⟨_, _, .fields vs, _⟩ => (match vs[2]? with
      | some (Value.str f _) => decide (f = fileS)
      | _ => false)
    | _ => false) && (match K.lookup cc with
    | some ⟨_, _, .cell (some (.ref D)), _⟩ => decide (D = He.ga K x)
    | _ => false))
  | _, _ => false
def supB (K : PySem.W.Frag) (d : SupD) : Bool := (match K.lookup (He.ma K (He.ga K d.cls) "__init__") with
  | some ⟨_, _, .func fd, _⟩ => supB2 K d.cls d.qual fd.closure fd.code && dfB K d.dv fd.defaults
  | _ => false) && ((PySem.W.clsIn K (He.ga K d.cls)).isSome && (decide (PySem.W.nsIn K PySem.cStatics "thirdparty.any" = some none) && (decide (PySem.W.findIn K (.ref (He.ga K d.cls)) "__init__" = some (some (.ref (He.ma K (He.ga K d.cls) "__init__")))) &&
  decide (PySem.W.typeIn K (.ref (He.ma K (He.ga K d.cls) "__init__")) = some (.type "function")))))
theorem supB2_ok {K : PySem.W.Frag} {x qual : Str} {cl : List (Str × Addr)} {code : Value} (hc : cl.map (·.1) = [("__class__" : Str)]) (h : supB2 K x qual cl code = true) : ∃ cc cda, cl = [(("__class__" : Str), cc)] ∧ code = .ref cda ∧ PySem.W.codeIn K (.ref cda) qual = true ∧
    (∃ ccl cdd vs ccs tf, K.lookup cda = some ⟨ccl, cdd, .fields vs, ccs⟩ ∧ vs[2]? = some (.str fileS tf)) ∧ ∃ cl cld csl, K.lookup cc = some ⟨cl, cld, .cell (some (.ref (He.ga K x))), csl⟩ := by
  match cl, code, hc, h with
  | [(y, cc)], .ref cda, hc, h =>
    have ey : y = ("__class__" : Str) := by simpa using hc
    subst ey
    unfold supB2 at h
    rw [Bool.and_eq_true, Bool.and_eq_true] at h
    obtain ⟨k1, k2, k3⟩ := h
    refine ⟨cc, cda, rfl, rfl, k1, ?_, ?_⟩
    · split at k2
      · rename_i ccl cdd vs ccs hl
        split at k2
        · rename_i f tf hv
          have ef := of_decide_eq_true k2
          subst ef
          exact ⟨_, _, _, _, tf, hl, hv⟩
        · cases k2
      · cases k2
    · split at k3
      · rename_i cl cld D csl hl
        have eD := of_decide_eq_true k3
        subst eD
        exact ⟨_, _, _, hl⟩
      · cases k3
/-- what a program must say of itself -/
structure PFile (P : Program) : Prop where
  file : P.main.file = fileS
  top : (P.main.scope.names.lookup ("super" : Str)).isSome = false
theorem sup_ok {P : Program} {K : PySem.W.Frag} {d : SupD} (hP : PFile P) (e : supW K d.cls = d.val) (c : supB K d = true) : ∃ cc cda fd dV, DflS K d.dv dV ∧ SupF P K (He.ga K d.cls) (He.ma K (He.ga K d.cls) "__init__") cc cda d.name d.qual d.params d.body d.scope fd ∧
    (∃ kV doc pm an ct, fd = PySem.W.ksFn d.name d.qual d.params d.body d.scope dV kV doc pm an (.ref cda) ct cc) ∧
    PySem.W.findIn K (.ref (He.ga K d.cls)) "__init__" = some (some (.ref (He.ma K (He.ga K d.cls) "__init__"))) ∧ PySem.W.typeIn K (.ref (He.ma K (He.ga K d.cls) "__init__")) = some (.type "function") := by
  unfold supB at c
  rw [Bool.and_eq_true] at c
  obtain ⟨c1, c2⟩ := c
  simp only [Bool.and_eq_true, decide_eq_true_eq] at c2
  obtain ⟨c3, c4, c5, c6⟩ := c2
  unfold supW at e
  cases q : K.lookup (He.ma K (He.ga K d.cls) "__init__") with
  | none => rw [q] at c1; cases c1
  | some o =>
    obtain ⟨oc, od, dt, osl⟩ := o
    rw [q] at c1 e
    cases dt with
    | func fd =>
      obtain ⟨n1, n2, n3, n4, n5, n6, n7, n8, n9, n10, n11, n12, n13, n14, n15⟩ := fd
      have e2 : (some (n1, n2, n3, n4, n5, n6, n7.map (·.1), n15) : SupW) = (some (d.name, d.qual, d.params, FuncBody.stmts d.body, d.scope, mainGlobals, ["__class__"], builtinsNs) : SupW) := e
      simp only [Option.some.injEq, Prod.mk.injEq] at e2
      obtain ⟨h1, h2, h3, h4, h5, h6, h7, h8⟩ := e2
      subst h1 h2 h3 h4 h5 h6 h8
      have c1 : (supB2 K d.cls d.qual n7 n13 && dfB K d.dv n8) = true := c1
      rw [Bool.and_eq_true] at c1
      obtain ⟨cc, cda, rfl, rfl, k1, ⟨ccl, cdd, vs, ccs, tf, hl, hv⟩, hcell⟩ := supB2_ok h7 c1.1
      exact ⟨cc, cda, _, n8, dfB_ok c1.2, ⟨⟨oc, od, _, n9, n10, n11, n12, n14, osl, rfl, q⟩, k1, ⟨_, _, _, _, fileS, tf, hl, hv, by rw [hP.file]; exact beq_self_eq_true _⟩, hcell, c3, hP.top, c4⟩, ⟨n9, n10, n11, n12, n14, rfl⟩, c5, c6⟩
    | _ => cases c1
def recB (K : PySem.W.Frag) (p f : Addr) (T : String) : Bool := match PySem.W.recIn K p T with
  | some (.ref g :: _) => decide (g = f)
  | _ => false
theorem recB_ok {K : PySem.W.Frag} {p f : Addr} {T : String} (h : recB K p f T = true) : ∃ rest, PySem.W.recIn K p T = some (.ref f :: rest) := by
  unfold recB at h
  split at h
  · rename_i g rest e
    have := of_decide_eq_true h
    subst this
    exact ⟨_, e⟩
  · cases h
def statB (K : PySem.W.Frag) (C : Addr) (m : Str) : Bool := PySem.W.plainGet K C m && (PySem.W.hasDictIn K C && (decide (PySem.W.findIn K (.ref C) m = some (some (.ref (He.ma K C m)))) && (decide (PySem.W.typeIn K (.ref (He.ma K C m)) = some (.type "staticmethod")) &&
  (decide (PySem.W.specialIn K (.ref (He.ma K C m)) "__get__" = some (some (.builtin "staticmethod.__get__"))) && (decide (PySem.W.takesIn K (.ref (He.ma K C m)) = some false) && (decide (PySem.W.copiedNames.contains m = false) && (recB K (He.ma K C m) (He5.wf K C "staticmethod" m) "staticmethod" &&
  PySem.W.keepIn K (.ref (He5.wf K C "staticmethod" m)))))))))
theorem statB_ok {K : PySem.W.Frag} {C : Addr} {m : Str} (h : statB K C m = true) : StatOf K C m (He.ma K C m) (He5.wf K C "staticmethod" m) := by
  unfold statB at h
  simp only [Bool.and_eq_true, decide_eq_true_eq] at h
  obtain ⟨h1, h2, h3, h4, h5, h6, h7, h8, h9⟩ := h
  exact ⟨h1, h2, h3, h4, h5, h6, h7, recB_ok h8, h9⟩
def itemB (K : PySem.W.Frag) (C : Addr) (m : Str) : Bool := decide (PySem.W.findIn K (.ref C) m = some (some (.ref (He.ma K C m)))) && (PySem.W.isFn K (.ref (He.ma K C m)) && (PySem.W.noSeq K C && PySem.W.fnIn K (He.ma K C m)))
theorem itemB_ok {K : PySem.W.Frag} {C : Addr} {m : Str} (h : itemB K C m = true) : ItemOf K C m (He.ma K C m) ∧ PySem.W.fnIn K (He.ma K C m) = true := by
  unfold itemB at h
  simp only [Bool.and_eq_true, decide_eq_true_eq] at h
  exact ⟨⟨h.1, h.2.1, h.2.2.1⟩, h.2.2.2⟩
def propB (K : PySem.W.Frag) (C : Addr) (m : Str) : Bool := decide (PySem.W.findIn K (.ref C) m = some (some (.ref (He.ma K C m)))) && (decide (PySem.W.specialIn K (.ref (He.ma K C m)) "__get__" = some (some (.builtin "property.__get__"))) && (decide (PySem.W.takesIn K (.ref (He.ma K C m)) = some true) && recB K (He.ma K C m) (He5.wf K C "property" m) "property"))
theorem propB_ok {K : PySem.W.Frag} {C : Addr} {m : Str} (h : propB K C m = true) : PropOf K C m (He.ma K C m) (He5.wf K C "property" m) := by
  unfold propB at h
  simp only [Bool.and_eq_true, decide_eq_true_eq] at h
  exact ⟨h.1, h.2.1, h.2.2.1, recB_ok h.2.2.2⟩
inductive Xa where
  | exc (x : Str)
  | sup (x y : Str)
  | kit (x y : Str) (b : Bool)
  | kitT (x : Str) (n : String) (b : Bool)
  | exm (x y : Str) (b : Bool)
  | own (x : Str)
  | stat (x m : Str)
  | item (x m : Str)
  | prop (x m : Str)
  | inh (x y : Str)
  | tup (x : Str) (zs : List Str)
  | cm (x m : Str)
def cmB (K : PySem.W.Frag) (C : Addr) (m : Str) : Bool := He5.wrapB K C "classmethod" "classmethod.__get__" m && (PySem.W.fnIn K (He5.wf K C "classmethod" m) && (PySem.W.readsIn K C (.type "type") && decide (PySem.W.specialIn K (.ref C) "__getattribute__" = some (some (.builtin "type.__getattribute__")))))
theorem cmB_ok {K : PySem.W.Frag} {C : Addr} {m : Str} (h : cmB K C m = true) : ClX.CRead K C (.type "type") ∧ ClX.CMet K C (.type "type") m (He.ma K C m) (He5.wf K C "classmethod" m) := by
  unfold cmB at h
  simp only [Bool.and_eq_true, decide_eq_true_eq] at h
  exact ⟨⟨h.2.2.1, h.2.2.2⟩, He5.cmet_of h.1 h.2.1⟩
def Xa.ok (K : PySem.W.Frag) : Xa → Bool
  | .exc x => excB K (He.ga K x)
  | .sup x y => supCB K (He.ga K x) (He.ga K y)
  | .kit x y b => decide (PySem.W.kitOne K (.ref (He.ga K x)) (.ref (He.ga K y)) = some b)
  | .kitT x n b => decide (PySem.W.kitOne K (.ref (He.ga K x)) (.type n) = some b)
  | .exm x y b => decide (PySem.W.exmOne K (.ref (He.ga K x)) (.ref (He.ga K y)) = some b)
  | .own x => PySem.W.excIn K (He.ga K x) He.veBase "ValueError.__new__"
  | .stat x m => statB K (He.ga K x) m
  | .item x m => itemB K (He.ga K x) m
  | .prop x m => propB K (He.ga K x) m
  | .inh x y => decide (PySem.W.findIn K (.ref (He.ga K x)) "__init__" = some (some (.ref (He.ma K (He.ga K y) "__init__"))))
  | .tup x zs => He.tupB K x (zs.map He.Dv.str)
  | .cm x m => cmB K (He.ga K x) m
abbrev AlX : Type := Bool × List He.FnW × List SupW × List He.FnW
def obsX (fa : List He.Fa) (fn : List He.DefD) (xa : List Xa) (sd : List SupD) (wn : List He5.DefA) (K : PySem.W.Frag) : AlX := ((fa.all fun f => f.ok K) && ((fn.all fun d => d.ok K) && ((xa.all fun x => x.ok K) && ((sd.all fun d => supB K d) && wn.all fun d => d.ok K))), fn.map fun d => He.fnW K d.at_, sd.map fun d => supW K d.cls, wn.map fun d => He5.fnA K (d.at_ K))
def valX (fn : List He.DefD) (sd : List SupD) (wn : List He5.DefA) : AlX := (true, fn.map He.DefD.val, sd.map SupD.val, wn.map He5.DefA.val)
section
variable {fa : List He.Fa} {fn : List He.DefD} {xa : List Xa} {sd : List SupD} {wn : List He5.DefA} {K : PySem.W.Frag}
theorem obsX_all (c : obsX fa fn xa sd wn K = valX fn sd wn) : (fa.all fun f => f.ok K) = true ∧ (fn.all fun d => d.ok K) = true ∧ (xa.all fun x => x.ok K) = true ∧ (sd.all fun d => supB K d) = true ∧ (wn.all fun d => d.ok K) = true := by
  have c1 : ((fa.all fun f => f.ok K) && ((fn.all fun d => d.ok K) && ((xa.all fun x => x.ok K) && ((sd.all fun d => supB K d) && wn.all fun d => d.ok K)))) = true := congrArg (fun z : AlX => z.1) c
  rw [Bool.and_eq_true, Bool.and_eq_true, Bool.and_eq_true, Bool.and_eq_true] at c1
  exact c1
theorem obsX_says (c : obsX fa fn xa sd wn K = valX fn sd wn) : He.SaysD fa fn K := by
  have c1 := obsX_all c
  have c2 : (fn.map fun d => He.fnW K d.at_) = fn.map He.DefD.val := congrArg (fun z : AlX => z.2.1) c
  show (_, _) = (_, _)
  rw [c1.1, c1.2.1, c2]
  rfl
theorem obsX_fact (c : obsX fa fn xa sd wn K = valX fn sd wn) (i : Nat) {x : Xa} (h : xa[i]? = some x := by rfl) : x.ok K = true :=
  List.all_eq_true.mp (obsX_all c).2.2.1 x (List.mem_of_getElem? h)
theorem obsX_sup {P : Program} (hP : PFile P) (c : obsX fa fn xa sd wn K = valX fn sd wn) (i : Nat) {d : SupD} (h : sd[i]? = some d := by rfl) : ∃ cc cda fd dV, DflS K d.dv dV ∧ SupF P K (He.ga K d.cls) (He.ma K (He.ga K d.cls) "__init__") cc cda d.name d.qual d.params d.body d.scope fd ∧
    (∃ kV doc pm an ct, fd = PySem.W.ksFn d.name d.qual d.params d.body d.scope dV kV doc pm an (.ref cda) ct cc) ∧
    PySem.W.findIn K (.ref (He.ga K d.cls)) "__init__" = some (some (.ref (He.ma K (He.ga K d.cls) "__init__"))) ∧ PySem.W.typeIn K (.ref (He.ma K (He.ga K d.cls) "__init__")) = some (.type "function") := by
  have c2 : (sd.map fun d => supW K d.cls) = sd.map SupD.val := congrArg (fun z : AlX => z.2.2.1) c
  have e : supW K d.cls = d.val := by
    have h1 : (sd.map fun d => supW K d.cls)[i]? = some (supW K d.cls) := by rw [List.getElem?_map, h]; rfl
    have h2 : (sd.map SupD.val)[i]? = some d.val := by rw [List.getElem?_map, h]; rfl
    rw [c2, h2] at h1
    exact (Option.some.inj h1).symm
  exact sup_ok hP e (List.all_eq_true.mp (obsX_all c).2.2.2.1 d (List.mem_of_getElem? h))
theorem binds_sup {cc cda : Addr} {name qual : Str} {params : Arguments} {body : List Stmt} {scope : Scope} {fd : FuncData} {ps : List Str} (hd : ∃ kV doc pm an ct, fd = PySem.W.ksFn name qual params body scope .none kV doc pm an (.ref cda) ct cc)
    (h : ∀ (kV doc pm : Value) (an : Option Addr) (ct : Value) (us : List Value), us.length = ps.length → bindArgs (PySem.W.ksFn name qual params body scope .none kV doc pm an (.ref cda) ct cc) ⟨us, []⟩ = pure (ps.zip us)) : Binds K fd ps [] := by
  obtain ⟨kV, doc, pm, an, ct, rfl⟩ := hd
  exact .all (h kV doc pm an ct)
end
theorem binds_supN {K : PySem.W.Frag} {cc cda : Addr} {name qual : Str} {params : Arguments} {body : List Stmt} {scope : Scope} {fd : FuncData} {ps : List Str} {dV : Value} (hv : DflS K none dV) (hd : ∃ kV doc pm an ct, fd = PySem.W.ksFn name qual params body scope dV kV doc pm an (.ref cda) ct cc)
    (h : ∀ (kV doc pm : Value) (an : Option Addr) (ct : Value) (us : List Value), us.length = ps.length → bindArgs (PySem.W.ksFn name qual params body scope .none kV doc pm an (.ref cda) ct cc) ⟨us, []⟩ = pure (ps.zip us)) : Binds K fd ps [] := by
  cases hv
  exact binds_sup hd h
/-- one field, the text of which is made by te -/
theorem init1 {K : PySem.W.Frag} {D : Addr} {f : Str} {te : TE} {cond : List V → Prop} {N : List Str} {vs : List V} {H : Hp} {Q : VK} {E : XK} (h : spI K D [f] cond vs H Q E) (hN : N.length = 3)
    (ht : ∀ (a : Addr) (v : V) (σ : L2.St) (k : VK), σ[1]? = some (some v) → cond [v] → (∀ z, k z H) → te σ H k) :
    tSup K D (tCons te tNil) (tOst K f (tVar 0) (tVar 1)) { nx := fun _ H' => Q .non H', rt := Q } (startF N vs [some (.ref D)]) H := by
  obtain ⟨a, C, ws, rfl, hl, hc, T, TC, hn, ha, q⟩ := h
  match ws, hl with
  | [v], _ =>
    refine ⟨a, C, rfl, T, TC, ha, ?_⟩
    refine ht a v _ _ rfl hc fun z => ?_
    refine ⟨by show 1 ≤ 1000; decide, ha, ?_⟩
    refine ⟨v, rfl, .ref a, rfl, a, C, rfl, T, hn f List.mem_cons_self, .inl ⟨ha, fun dx h1 h2 => ?_⟩⟩
    exact q dx h1 h2
def condS : List V → Prop := fun ws => ∃ z : Str, ws = [.str z] ∧ z.length ≤ 100000
theorem init1S {K : PySem.W.Frag} {D : Addr} {f c : Str} {N : List Str} {vs : List V} {H : Hp} {Q : VK} {E : XK} (h : spI K D [f] condS vs H Q E) (hN : N.length = 3) (hc : c.length ≤ 1000 := by decide) :
    tSup K D (tCons (tOp (fun x y H Q => ∃ i j, x = V.str i ∧ y = V.str j ∧ i.length + j.length ≤ sizeLine ∧ Q (.str (i ++ j)) H) (tC (.str c)) (tVar 1)) tNil) (tOst K f (tVar 0) (tVar 1)) { nx := fun _ H' => Q .non H', rt := Q } (startF N vs [some (.ref D)]) H :=
  init1 h hN fun a v σ k e ⟨z, ez, hz⟩ q => by
    cases ez
    exact ⟨_, e, _, _, rfl, rfl, Nat.le_trans (Nat.add_le_add hc hz) (by decide), q _⟩
end DL
namespace DL
open PySem PySem.Spec PyProof.Rows L2
inductive In (e : D) : D → Prop
  | refl : In e e
  | tup {d : D} {ds : List D} : d ∈ ds → In e d → In e (.tup ds)
  | lst {d : D} {ds : List D} : d ∈ ds → In e d → In e (.lst ds)
  | ins {C : Addr} {f : Str} {d : D} {fds : List (Str × D)} : (f, d) ∈ fds → In e d → In e (.ins C fds)
  | ldk {a : Addr} {k : Key} {d : D} {kds : List (Key × D)} : (k, d) ∈ kds → In e d → In e (.ldk a kds)
  | dk {k : Key} {d : D} {kds : List (Key × D)} : (k, d) ∈ kds → In e d → In e (.dk kds)
theorem Rs.ofMem {F : Hp} {d : D} : ∀ {xs : List V} {ds : List D}, Rs F xs ds → d ∈ ds → ∃ v, R F v d
  | _, _, .cons r t, m => by
    rcases List.mem_cons.mp m with e | m
    · subst e; exact ⟨_, r⟩
    · exact Rs.ofMem t m
theorem Rn.ofMem {F : Hp} {f : Str} {d : D} : ∀ {xs : List (Str × V)} {ds : List (Str × D)}, Rn F xs ds → (f, d) ∈ ds → ∃ v, R F v d
  | _, _, .cons r t, m => by
    rcases List.mem_cons.mp m with e | m
    · cases e; exact ⟨_, r⟩
    · exact Rn.ofMem t m
theorem Rk.ofMem {F : Hp} {k : Key} {d : D} : ∀ {xs : List (Key × V)} {ds : List (Key × D)}, Rk F xs ds → (k, d) ∈ ds → ∃ v, R F v d
  | _, _, .cons r t, m => by
    rcases List.mem_cons.mp m with e | m
    · cases e; exact ⟨_, r⟩
    · exact Rk.ofMem t m
theorem In.at_ {F : Hp} {a : Addr} {kds : List (Key × D)} {d : D} (h : In (.ldk a kds) d) : ∀ {v : V}, R F v d → ∃ kvs, F a = some (.dK kvs) ∧ Rk F kvs kds := by
  induction h with
  | refl => intro v r; cases r with | ldk e r => exact ⟨_, e, r⟩
  | tup m _ ih => intro v r; cases r with | tup e r => obtain ⟨u, r'⟩ := r.ofMem m; exact ih r'
  | lst m _ ih => intro v r; cases r with | lst e r => obtain ⟨u, r'⟩ := r.ofMem m; exact ih r'
  | ins m _ ih => intro v r; cases r with | ins e r => obtain ⟨u, r'⟩ := r.ofMem m; exact ih r'
  | ldk m _ ih => intro v r; cases r with | ldk e r => obtain ⟨u, r'⟩ := r.ofMem m; exact ih r'
  | dk m _ ih => intro v r; cases r with | dk e r => obtain ⟨u, r'⟩ := r.ofMem m; exact ih r'
theorem ex_bl {x : Bool} {P : Bool → Prop} (h : P x) : ∃ b, D.bl x = .bl b ∧ P b := ⟨_, rfl, h⟩
theorem ex_int {x : Int} {P : Int → Prop} (h : P x) : ∃ b, D.int x = .int b ∧ P b := ⟨_, rfl, h⟩
theorem ex_str {x : Str} {P : Str → Prop} (h : P x) : ∃ b, D.str x = .str b ∧ P b := ⟨_, rfl, h⟩
theorem ex_lst {x : List D} {P : List D → Prop} (h : P x) : ∃ b, D.lst x = .lst b ∧ P b := ⟨_, rfl, h⟩
theorem ex_tup {x : List D} {P : List D → Prop} (h : P x) : ∃ b, D.tup x = .tup b ∧ P b := ⟨_, rfl, h⟩
theorem i_T {x : Bool} {A B : Prop} (e : x = true) (h : A) : if x = true then A else B := by rw [if_pos e]; exact h
theorem i_F {x : Bool} {A B : Prop} (e : x = false) (h : B) : if x = true then A else B := by rw [e]; exact h
theorem rc_lenM {KK : PySem.W.Frag} {L as : List Addr} {O : List D} {k : List Addr → D → List D → Prop} {α : Type} {f : α → D} {xs : List α} (z : k as (.int xs.length) O) : rc (fun xs H Q => ∃ x n, xs = [x] ∧ LenV KK x H n ∧ Q (.int n) H) L as O [.lst (xs.map f)] k := rc_len (n := xs.length) (List.length_map ..).symm z
theorem rc_lenU {KK : PySem.W.Frag} {L as : List Addr} {O : List D} {k : List Addr → D → List D → Prop} {α : Type} {f : α → D} {xs : List α} (z : k as (.int xs.length) O) : rc (fun xs H Q => ∃ x n, xs = [x] ∧ LenV KK x H n ∧ Q (.int n) H) L as O [.tup (xs.map f)] k := rc_len (n := xs.length) (List.length_map ..).symm z
/-- an item by its place -/
theorem at_map {α : Type} {f : α → D} {xs : List α} {i : Nat} (h : i < xs.length) : atI (xs.map f) (i : Nat) = some (f xs[i]) := atI_nat (by rw [List.getElem?_map, List.getElem?_eq_getElem h]; rfl)
end DL
namespace DL
open PySem PySem.Spec PyProof.Rows L2 NdefX DLS
/-- the entry of a written dict: an int, or none -/
def entB (K : PySem.W.Frag) (x key : Str) (i : Option Int) : Bool := match PySem.W.nsIn K (He.ga K x) key, i with
  | some (some (.int j _)), some i => j == i
  | some none, none => true
  | _, _ => false
abbrev AlY : Type := AlX × List (Option (List (Option (Str × Int)))) × Bool
/-- a table: its name, its keys in order, entries -/
abbrev TabY : Type := Str × List Str × List (Str × Option Int)
def obsY (fa : List He.Fa) (fn : List He.DefD) (xa : List Xa) (sd : List SupD) (wn : List He5.DefA) (ts : List TabY) (K : PySem.W.Frag) : AlY := (obsX fa fn xa sd wn K, ts.map (fun t => He.dicW K (He.ga K t.1)), ts.all fun t => t.2.2.all fun e => entB K t.1 e.1 e.2)
def valY (fn : List He.DefD) (sd : List SupD) (wn : List He5.DefA) (ts : List TabY) (w : World) : AlY := (valX fn sd wn, ts.map (fun t => some (He.keysIn w.params t.2.1)), true)
/-- the globals, the statics, all that stands below n: the closure of names (asX) costs the head three times as much -/
def asZ (n : Nat) : List Addr := mainGlobals :: PySem.cStatics :: List.range n
def obsYG (n : Nat) (fa : List He.Fa) (fn : List He.DefD) (xa : List Xa) (sd : List SupD) (wn : List He5.DefA) (ts : List TabY) (g : Addr → Option Obj) : AlY := obsY fa fn xa sd wn ts (He.frG g (asZ n))
def hookY (n : Nat) (fa : List He.Fa) (fn : List He.DefD) (xa : List Xa) (sd : List SupD) (wn : List He5.DefA) (ts : List TabY) : PySem.W.Hook where
  α := AlY
  obs := fun s => obsYG n fa fn xa sd wn ts s.heap.get?
  val := fun w => valY fn sd wn ts w
  says := fun w h => ∃ K : PySem.W.Frag, K.In h ∧ obsY fa fn xa sd wn ts K = valY fn sd wn ts w
  of := fun _ _ e => ⟨_, He.frG_in, e⟩
  keeps := fun _ _ _ ⟨K, hK, c⟩ k => ⟨K, PySem.W.Frag.In.keeps hK k, c⟩
theorem obsYG_eq {n : Nat} {fa : List He.Fa} {fn : List He.DefD} {xa : List Xa} {sd : List SupD} {wn : List He5.DefA} {ts : List TabY} {g : Addr → Option Obj} {s : Shared} (h : ∀ a, g a = s.heap.get? a) : obsYG n fa fn xa sd wn ts g = (hookY n fa fn xa sd wn ts).obs s := by
  have e : g = s.heap.get? := funext h
  rw [e] <;> rfl
section
variable {fa : List He.Fa} {fn : List He.DefD} {xa : List Xa} {sd : List SupD} {wn : List He5.DefA} {ts : List TabY} {w : World} {K : PySem.W.Frag}
theorem obsY_x (c : obsY fa fn xa sd wn ts K = valY fn sd wn ts w) : obsX fa fn xa sd wn K = valX fn sd wn := congrArg (fun z : AlY => z.1) c
end
end DL
namespace DLS
end DLS
set_option pp.maxSteps 700
namespace G
open PySem PySem.Spec PyProof.Rows L2 DL DLS NdefX
local macro_rules | `(tactic| k_subL) => `(tactic| repeat (first
  | with_reducible refine s_seq ?_
  | with_reducible refine s_set ?_
  | with_reducible refine w_op ?_
  | ((with_reducible refine w_var (d := ?_) ?_ ?_); rotate_left; exact rfl)
  | with_reducible refine w_int ?_
  | with_reducible refine rv_i0 ?_
  | with_reducible refine rv_b0 ?_
  | with_reducible refine w_cb ?_
  | with_reducible refine w_cons ?_
  | with_reducible refine w_nil ?_
  | with_reducible refine rc_int ?_
  | with_reducible refine w_str ?_
  | with_reducible refine w_bl ?_
  | with_reducible refine w_non ?_
  | with_reducible refine g_name ?_
  | with_reducible refine s_ret ?_
  | with_reducible refine s_drop ?_
  | with_reducible refine s_if ?_
  | with_reducible refine w_test ?_
  | with_reducible refine w_tB ?_))
local macro_rules | `(tactic| k_clsL) => `(tactic| repeat (first
  | with_reducible refine s_seq ?_
  | with_reducible refine s_set ?_
  | with_reducible refine w_op ?_
  | ((with_reducible refine w_var (d := ?_) ?_ ?_); rotate_left; exact rfl)
  | with_reducible refine w_int ?_
  | with_reducible refine rv_i0 ?_
  | with_reducible refine rv_b0 ?_
  | with_reducible refine w_cb ?_
  | with_reducible refine w_cons ?_
  | with_reducible refine w_nil ?_
  | with_reducible refine rc_int ?_
  | with_reducible refine w_str ?_
  | with_reducible refine w_bl ?_
  | with_reducible refine w_non ?_
  | with_reducible refine g_name ?_
  | with_reducible refine s_ret ?_
  | with_reducible refine s_drop ?_
  | with_reducible refine s_if ?_
  | with_reducible refine w_test ?_
  | with_reducible refine w_tB ?_
  | with_reducible refine w_not ?_
  | with_reducible refine w_and ?_
  | with_reducible refine w_or ?_
  | with_reducible refine w_notV ?_
  | with_reducible refine w_andV ?_
  | with_reducible refine w_orV ?_
  | with_reducible refine w_if ?_
  | with_reducible refine w_chain ?_
  | with_reducible refine ex_bl ?_
  | with_reducible refine ex_int ?_
  | with_reducible refine ex_str ?_
  | with_reducible refine ex_lst ?_
  | with_reducible refine ex_tup ?_
  | with_reducible refine rc_lenM ?_
  | with_reducible refine rc_lenU ?_
  | with_reducible refine i_list ?_
  | with_reducible refine i_tup ?_
  | with_reducible refine i_range ?_
  | with_reducible refine i_str ?_
  | with_reducible refine s_for ?_
  | ((with_reducible refine rv_eq ?_ ?_); exact rfl)
  | ((with_reducible refine rv_ne ?_ ?_); exact rfl)
  | with_reducible refine MI.row0 _ ?_
  | with_reducible refine MI.row1 _ ?_
  | with_reducible refine MI.row2 _ ?_
  | with_reducible refine MI.par0 _ ?_
  | with_reducible refine MI.par1 _ ?_
  | ((with_reducible refine rv_ixT (d := ?_) ?_ ?_); rotate_left; exact rfl)))
def top (i : Nat) : Stmt := PySem.Challenge.pw_bytegrove_k05_whole_least_tree_of_a_kind.main.body.getD i (.Pass ⟨0, 0, 0, 0⟩)
abbrev s__law_pool : Stmt := top 19
abbrev N__law_pool : List Str := ["_law_script", "_law_pool_here", "_law_cell", "_law_number", "_law_turn", "_law_mixed"]
theorem sc__law_pool : FnScope N__law_pool ["_law_script"] (defScope s__law_pool) := ⟨rfl, rfl, rfl, by decide +kernel, rfl, by decide +kernel, by decide +kernel⟩
def f__law_pool : He.DefD := ⟨("_law_pool", none), "_law_pool", "_law_pool", defArgs s__law_pool, defBody s__law_pool, defScope s__law_pool, [], []⟩
abbrev s__law_rows : Stmt := top 22
abbrev N__law_rows : List Str := ["_law_pool_here", "_law_seed", "_law_names", "_law_k", "_law_rows_here", "_law_turn", "_law_count", "_law_base_here", "_law_at", "_law_maker", "_law_inner", "_law_row"]
theorem sc__law_rows : FnScope N__law_rows ["_law_pool_here"] (defScope s__law_rows) := ⟨rfl, rfl, rfl, by decide +kernel, rfl, by decide +kernel, by decide +kernel⟩
def f__law_rows : He.DefD := ⟨("_law_rows", none), "_law_rows", "_law_rows", defArgs s__law_rows, defBody s__law_rows, defScope s__law_rows, [], []⟩
abbrev s_Kinds___init__ : Stmt := inClass (top 16) 0
abbrev N_Kinds___init__ : List Str := ["self", "rows", "kind", "at", "row", "family", "part", "maker", "parts"]
theorem sc_Kinds___init__ : FnScope N_Kinds___init__ ["self", "rows"] (defScope s_Kinds___init__) := ⟨rfl, rfl, rfl, by decide +kernel, rfl, by decide +kernel, by decide +kernel⟩
def f_Kinds___init__ : He.DefD := ⟨("Kinds", some "__init__"), "__init__", "Kinds.__init__", defArgs s_Kinds___init__, defBody s_Kinds___init__, defScope s_Kinds___init__, [], []⟩
abbrev s_Kinds_least : Stmt := inClass (top 16) 14
abbrev N_Kinds_least : List Str := ["self", "kind"]
theorem sc_Kinds_least : FnScope N_Kinds_least ["self", "kind"] (defScope s_Kinds_least) := ⟨rfl, rfl, rfl, by decide +kernel, rfl, by decide +kernel, by decide +kernel⟩
def f_Kinds_least : He.DefD := ⟨("Kinds", some "least"), "least", "Kinds.least", defArgs s_Kinds_least, defBody s_Kinds_least, defScope s_Kinds_least, [], []⟩
abbrev s__law_fits : Stmt := top 26
abbrev N__law_fits : List Str := ["_law_rows_here", "_law_tree_here", "_law_kind", "_law_found", "_law_k", "_law_inner", "_law_row"]
theorem sc__law_fits : FnScope N__law_fits ["_law_rows_here", "_law_tree_here", "_law_kind"] (defScope s__law_fits) := ⟨rfl, rfl, rfl, by decide +kernel, rfl, by decide +kernel, by decide +kernel⟩
def f__law_fits : He.DefD := ⟨("_law_fits", none), "_law_fits", "_law_fits", defArgs s__law_fits, defBody s__law_fits, defScope s__law_fits, [], []⟩
abbrev s__law_tree : Stmt := top 24
abbrev N__law_tree : List Str := ["_law_pool_here", "_law_rows_here", "_law_base_here", "_law_kind", "_law_cut", "_law_fuel", "_law_choices", "_law_row", "_law_left", "_law_tree_here", "_law_part", "_law_share"]
theorem sc__law_tree : FnScope N__law_tree ["_law_pool_here", "_law_rows_here", "_law_base_here", "_law_kind", "_law_cut", "_law_fuel"] (defScope s__law_tree) := ⟨rfl, rfl, rfl, by decide +kernel, rfl, by decide +kernel, by decide +kernel⟩
def f__law_tree : He.DefD := ⟨("_law_tree", none), "_law_tree", "_law_tree", defArgs s__law_tree, defBody s__law_tree, defScope s__law_tree, [], []⟩
abbrev s__law_take : Stmt := top 18
abbrev N__law_take : List Str := ["_law_pool_here", "_law_many"]
theorem sc__law_take : FnScope N__law_take ["_law_pool_here", "_law_many"] (defScope s__law_take) := ⟨rfl, rfl, rfl, by decide +kernel, rfl, by decide +kernel, by decide +kernel⟩
def f__law_take : He.DefD := ⟨("_law_take", none), "_law_take", "_law_take", defArgs s__law_take, defBody s__law_take, defScope s__law_take, [], []⟩
abbrev s__law_base : Stmt := top 23
abbrev N__law_base : List Str := ["_law_rows_here", "_law_base_here", "_law_turn", "_law_row", "_law_open_kinds", "_law_part"]
theorem sc__law_base : FnScope N__law_base ["_law_rows_here"] (defScope s__law_base) := ⟨rfl, rfl, rfl, by decide +kernel, rfl, by decide +kernel, by decide +kernel⟩
def f__law_base : He.DefD := ⟨("_law_base", none), "_law_base", "_law_base", defArgs s__law_base, defBody s__law_base, defScope s__law_base, [], []⟩
abbrev s__law_less : Stmt := top 29
abbrev N__law_less : List Str := ["_law_rows_here", "_law_one", "_law_other", "_law_first", "_law_second"]
theorem sc__law_less : FnScope N__law_less ["_law_rows_here", "_law_one", "_law_other"] (defScope s__law_less) := ⟨rfl, rfl, rfl, by decide +kernel, rfl, by decide +kernel, by decide +kernel⟩
def f__law_less : He.DefD := ⟨("_law_less", none), "_law_less", "_law_less", defArgs s__law_less, defBody s__law_less, defScope s__law_less, [], []⟩
abbrev s__law_name : Stmt := top 20
abbrev N__law_name : List Str := ["_law_seed", "_law_k", "_law_taken", "_law_letters", "_law_number", "_law_name_here", "_law_turn"]
theorem sc__law_name : FnScope N__law_name ["_law_seed", "_law_k", "_law_taken"] (defScope s__law_name) := ⟨rfl, rfl, rfl, by decide +kernel, rfl, by decide +kernel, by decide +kernel⟩
def f__law_name : He.DefD := ⟨("_law_name", none), "_law_name", "_law_name", defArgs s__law_name, defBody s__law_name, defScope s__law_name, [], []⟩
abbrev s__law_parts : Stmt := top 21
abbrev N__law_parts : List Str := ["_law_pool_here", "_law_seed", "_law_names", "_law_base_here", "_law_parts_here", "_law_taken", "_law_trees", "_law_at", "_law_pick", "_law_price"]
theorem sc__law_parts : FnScope N__law_parts ["_law_pool_here", "_law_seed", "_law_names", "_law_base_here"] (defScope s__law_parts) := ⟨rfl, rfl, rfl, by decide +kernel, rfl, by decide +kernel, by decide +kernel⟩
def f__law_parts : He.DefD := ⟨("_law_parts", none), "_law_parts", "_law_parts", defArgs s__law_parts, defBody s__law_parts, defScope s__law_parts, [], []⟩
abbrev s_Kinds_is_new : Stmt := inClass (top 16) 1
abbrev N_Kinds_is_new : List Str := ["self", "row", "kind", "maker", "parts", "part"]
theorem sc_Kinds_is_new : FnScope N_Kinds_is_new ["self", "row"] (defScope s_Kinds_is_new) := ⟨rfl, rfl, rfl, by decide +kernel, rfl, by decide +kernel, by decide +kernel⟩
def f_Kinds_is_new : He.DefD := ⟨("Kinds", some "is_new"), "is_new", "Kinds.is_new", defArgs s_Kinds_is_new, defBody s_Kinds_is_new, defScope s_Kinds_is_new, [], []⟩
abbrev s_Kinds_find_least : Stmt := inClass (top 16) 2
abbrev N_Kinds_find_least : List Str := ["self", "least_rows", "changed", "maker", "row", "tree", "part", "kind", "tag", "parts"]
theorem sc_Kinds_find_least : FnScope N_Kinds_find_least ["self"] (defScope s_Kinds_find_least) := ⟨rfl, rfl, rfl, by decide +kernel, rfl, by decide +kernel, by decide +kernel⟩
def f_Kinds_find_least : He.DefD := ⟨("Kinds", some "find_least"), "find_least", "Kinds.find_least", defArgs s_Kinds_find_least, defBody s_Kinds_find_least, defScope s_Kinds_find_least, [], []⟩
abbrev s_is_name : Stmt := top 14
abbrev N_is_name : List Str := ["text", "char"]
theorem sc_is_name : FnScope N_is_name ["text"] (defScope s_is_name) := ⟨rfl, rfl, rfl, by decide +kernel, rfl, by decide +kernel, by decide +kernel⟩
def f_is_name : He.DefD := ⟨("is_name", none), "is_name", "is_name", defArgs s_is_name, defBody s_is_name, defScope s_is_name, [], []⟩
abbrev s_is_part : Stmt := top 15
abbrev N_is_part : List Str := ["part"]
theorem sc_is_part : FnScope N_is_part ["part"] (defScope s_is_part) := ⟨rfl, rfl, rfl, by decide +kernel, rfl, by decide +kernel, by decide +kernel⟩
def f_is_part : He.DefD := ⟨("is_part", none), "is_part", "is_part", defArgs s_is_part, defBody s_is_part, defScope s_is_part, [], []⟩
abbrev s__law_int : Stmt := top 25
abbrev N__law_int : List Str := ["_law_value"]
theorem sc__law_int : FnScope N__law_int ["_law_value"] (defScope s__law_int) := ⟨rfl, rfl, rfl, by decide +kernel, rfl, by decide +kernel, by decide +kernel⟩
def f__law_int : He.DefD := ⟨("_law_int", none), "_law_int", "_law_int", defArgs s__law_int, defBody s__law_int, defScope s__law_int, [], []⟩
abbrev s__law_pack : Stmt := top 27
abbrev N__law_pack : List Str := ["_law_rows_here", "_law_specs", "_law_tree_here", "_law_row", "_law_family", "_law_names", "_law_out", "_law_slot", "_law_value", "_law_other", "_law_part", "_law_inner"]
theorem sc__law_pack : FnScope N__law_pack ["_law_rows_here", "_law_specs", "_law_tree_here"] (defScope s__law_pack) := ⟨rfl, rfl, rfl, by decide +kernel, rfl, by decide +kernel, by decide +kernel⟩
def f__law_pack : He.DefD := ⟨("_law_pack", none), "_law_pack", "_law_pack", defArgs s__law_pack, defBody s__law_pack, defScope s__law_pack, [], []⟩
abbrev s__law_plain : Stmt := top 28
abbrev N__law_plain : List Str := ["_law_rows_here", "_law_specs", "_law_row", "_law_part"]
theorem sc__law_plain : FnScope N__law_plain ["_law_rows_here"] (defScope s__law_plain) := ⟨rfl, rfl, rfl, by decide +kernel, rfl, by decide +kernel, by decide +kernel⟩
def f__law_plain : He.DefD := ⟨("_law_plain", none), "_law_plain", "_law_plain", defArgs s__law_plain, defBody s__law_plain, defScope s__law_plain, [], []⟩
abbrev s_law : Stmt := top 30
abbrev N_law : List Str := ["_law_script", "_law_pool_here", "_law_rows_here", "_law_table", "_law_row", "_law_least", "_law_tree_here", "_law_made", "_law_other", "_law_part"]
theorem sc_law : FnScope N_law ["_law_script"] (defScope s_law) := ⟨rfl, rfl, rfl, by decide +kernel, rfl, by decide +kernel, by decide +kernel⟩
def f_law : He.DefD := ⟨("law", none), "law", "law", defArgs s_law, defBody s_law, defScope s_law, [], []⟩
def fn : List He.DefD := [f__law_pool, f__law_rows, f_Kinds___init__, f_Kinds_least, f__law_fits, f__law_tree, f__law_take, f__law_base, f__law_less, f__law_name, f__law_parts, f_Kinds_is_new, f_Kinds_find_least, f_is_name, f_is_part, f__law_int, f__law_pack, f__law_plain, f_law]
def fa : List He.Fa := [.glo "_law_pool", .glo "_law_rows", .glo "Kinds", .mkr "Kinds", .cls "Kinds", .free "list", .meth "Kinds" "least", .glo "_law_fits", .glo "_law_tree", .glo "_law_take", .glo "_law_base", .glo "_law_less", .free "int", .free "range", .glo "_law_name", .free "len", .glo "_law_parts", .free "tuple", .noat "Kinds" "table", .noat "Kinds" "family", .free "enumerate", .int "MOST_MAKERS" 12, .meth "Kinds" "is_new", .str "BYTE" "byte", .noat "Kinds" "names", .noat "Kinds" "order", .noat "Kinds" "smallest", .meth "Kinds" "find_least", .glo "is_name", .int "MOST_KINDS" 4, .int "MOST_PARTS" 4, .free "all", .glo "is_part", .int "MOST_NAME" 24, .str "LETTERS" "ABCDEFGHIJKLMNOPQRSTUVWXYZabcdefghijklmnopqrstuvwxyz", .str "DIGITS" "0123456789", .int "MOST_PRICE" 1000, .glo "NotThere", .free "super", .noat "NotThere" "name", .free "isinstance", .free "str", .glo "_law_int", .free "bool", .glo "_law_pack", .glo "_law_plain", .glo "law"]
abbrev s_NotThere : Stmt := inClass (top 4) 0
abbrev N_NotThere : List Str := ["self", "name", "__class__"]
theorem sc_NotThere : NScope N_NotThere ["self", "name"] ["__class__"] (defScope s_NotThere) := nscope_by (by decide +kernel)
def sd_NotThere : SupD := ⟨"NotThere", "__init__", "NotThere.__init__", defArgs s_NotThere, defBody s_NotThere, defScope s_NotThere, none⟩
def xa : List Xa := [.exc "NotThere", .sup "NotThere" "NotThere"]
def sd : List SupD := [sd_NotThere]
def ts : List TabY := []
def wn : List He5.DefA := []
abbrev RR : PySem.W.OpenRow := PySem.W.OpenLaw.row PySem.Challenge.rw_bytegrove_k05_whole_least_tree_of_a_kind
abbrev hkk : PySem.W.Hook := hookY 2000 fa fn xa sd wn ts
def obv (s : PySem.W.SharedT) : AlY := obsYG 2000 fa fn xa sd wn ts (HandSHeadRun.getT s)
theorem obv_eq (s : PySem.W.SharedT) : obv s = hkk.obs s.abs := obsYG_eq (HandSHeadRun.getT_eq s)
def looseN : List PySem.Str := (["_wall", "__name__", "GroveError", "BadKinds", "NotThere", "LETTERS", "DIGITS", "BYTE", "MOST_NAME", "MOST_MAKERS", "MOST_KINDS", "MOST_PARTS", "MOST_PRICE", "is_name", "is_part", "Kinds", "_law_take", "_law_pool", "_law_name", "_law_parts", "_law_rows", "_law_base", "_law_tree", "_law_int", "_law_fits", "_law_pack", "_law_plain", "_law_less"] : List PySem.Str)
theorem run (w : World) : HandSHeadRun.RunEq RR (PySem.W.view RR.prog [30]) hkk obv 9000 looseN w := by
  intro os
  kernel_rfl
end G
namespace DL
open PySem PySem.Spec PyProof.Rows L2
section
variable {prog : Program} {w : World} {A : Around} {E : Value → Shared → Prop} {s : Shared} {T : String} {r d : Addr} {n : Nat} {P : Nat → Value → Prop} {OK : Heap → Prop}
theorem tupSrc_code {Q1 : Value → Shared → Prop} (src : PySem.W.KdlSrc prog w T r d n P OK) (calm : A.handled = none) (ok : OK s.heap) (few : n ≤ sizeLine)
    (h : ∀ (g : Heap) (k : Nat) (acc : Array Value), (∀ b o, s.heap.get? b = some o → g.get? b = some o) → ItemsOf P acc n → Q1 (.ref g.objs.size) { s with heap := g.push { cls := .type "tuple", data := .seq acc }, toks := k }) :
    codeAny (model prog w) A (.call (.builtin "tuple.__new__") ⟨[.type "tuple", .ref r], []⟩) (wants Q1 E) s := by
  refine codeAny_of_tree ?_
  show wpAny _ A.in1 (do checkBuiltinCall "tuple.__new__" ⟨[.type "tuple", .ref r], []⟩; again (.builtin "tuple.__new__" ⟨[.type "tuple", .ref r], []⟩)) _ _ s
  refine wpAny_bind (wpAny_of_eq (PySem.F.newCall_tuple_1 _) ?_)
  refine wpAny_pure ⟨plainId_quiet PySem.F.plain_tuple_new _, codeAny_builtin PySem.F.entry_tuple_new ?_⟩
  rw [Around.under_plainId PySem.F.plain_tuple_new _]
  have q1 := sub_tuple_self
  have q2 := init_tuple_lookup
  have q3 := madeHere_tuple
  have q4 := src.type s ok
  have q5 : A.in1.handled = none := by exact calm
  have q6 := src.notTuple
  wp_walk using wpAny_typeOf q4, PySem.W.kdu_collect (A := A.in1) src q5 ok few
  intro g k zs keep items
  show wpAny (model prog w) A.in1 (Builtin.Tuple.tupleExact zs.toList.toArray >>= fun x => ret x) _ _ _
  have ez : zs.toList.toArray = zs := by simp
  rw [ez]
  unfold Builtin.Tuple.tupleExact
  refine wpAny_bind (wpAny_newObj_type ?_ (by show zs.size ≤ sizeLine; rw [items.1]; exact few))
  exact wpAny_pure (h g k zs keep items)
theorem tupSrc_call {Q : Value → Shared → Prop} (src : PySem.W.KdlSrc prog w T r d n P OK) (calm : A.handled = none) (ok : OK s.heap) (few : n ≤ sizeLine)
    (h : ∀ (g : Heap) (k : Nat) (acc : Array Value), (∀ b o, s.heap.get? b = some o → g.get? b = some o) → ItemsOf P acc n → Q (.ref g.objs.size) { s with heap := g.push { cls := .type "tuple", data := .seq acc }, toks := k }) :
    wpAny (model prog w) A (call (.type "tuple") [.ref r]) Q E s := by
  refine callType_codes (Q₁ := fun x u => u.TypeIs x "tuple" ∧ Q x u) PySem.F.called_tuple (PySem.F.typeCall_tuple_1 _) PySem.F.entry_object_init ?_ ?_
  · exact tupSrc_code (A := A.in1) src calm ok few fun g k acc e i => ⟨⟨_, Heap.get?_push_size _ rfl, rfl⟩, h g k acc e i⟩
  · rintro x u ⟨y1, y2⟩
    exact ⟨y1, PySem.F.args_object_init_2 x _, object_init_meets PySem.F.called_tuple.init.lookup PySem.F.called_tuple.made (by decide) prog w A.in1 _ u ⟨y1, rfl, y2⟩⟩
end
/-- tuple(d): the keys -/
def rTupD : List V → Hp → VK → Prop := fun xs H Q => ∃ p kvs, xs = [.ref p] ∧ H p = some (.dK kvs) ∧ ∀ q, H q = none → Q (.ref q) (upd H q (.tup (kvs.map fun kv => kV kv.1)))
theorem call_tuple_dK {X : Cx} (hc : X.calm = true) : CallR X (.type "tuple") rTupD := by
  intro pins s σ H xs us Q I r h
  obtain ⟨p, kvs, rfl, hk, q⟩ := h
  obtain ⟨u, rfl, rx⟩ := vals1 r
  obtain rfl : u = Value.ref p := rx
  obtain ⟨z, lo, vs, rk, hd⟩ := (show ObjOk X.prog X.w H s.heap p (.dK kvs) from I.hok p _ hk)
  obtain ⟨ep, hat⟩ := hd.dictAt
  have hl : kvs.length = vs.length := Paired.length rk
  refine tupSrc_call (PySem.W.kdl_dict (knd := mixKind X.prog X.w) (kvs := vs) (ep := ep) lo) (I.ok.hd hc) hat (by rw [← hl]; exact z) fun g k acc keep items => ?_
  have rv : Vals (kvs.map fun kv => kV kv.1) acc.toList := by
    refine vals_of_at (by rw [List.length_map, hl, ← items.1]; simp) fun j x w h1 h2 => ?_
    obtain ⟨c, y, hky, hi⟩ := items.2 j w (by rw [← Array.getElem?_toList]; exact h2)
    have e1 : (kvs.map (·.1))[j]? = some c := by
      rw [KV.keys rk, List.getElem?_map, hky] <;> rfl
    rw [List.getElem?_map] at e1 h1
    cases e2 : kvs[j]? with
    | none => rw [e2] at e1; cases e1
    | some kv =>
      rw [e2] at e1 h1
      cases e1
      cases h1
      exact keyIs_rel hi
  have I1 : Inv X pins σ H { s with heap := g } := I.kept (t' := s.toks) keep
  refine ⟨.ref g.objs.size, upd H g.objs.size (.tup (kvs.map fun kv => kV kv.1)), I1.laid (t' := k) (fun b o e => Heap.get?_push_of_some _ e) (Nat.le_refl _) ?_, rfl, q _ (I1.hok.fresh (Nat.le_refl _))⟩
  refine (show ObjOk X.prog X.w _ _ _ (.tup (kvs.map fun kv => kV kv.1)) from ⟨by rw [List.length_map]; exact z, acc.toList, rv, ?_⟩)
  rw [show acc.toList.toArray = acc by simp]
  exact IsTup.new g acc
section
variable {χ : Xk} {L : List Addr} {as : List Addr} {ρ : DSt} {O : List D} {k : List Addr → D → List D → Prop} {d : D}
theorem Rk.keys {F : Hp} : ∀ {kvs : List (Key × V)} {kds : List (Key × D)}, Rk F kvs kds → Rs F (kvs.map fun kv : Key × V => kV kv.1) (kds.map fun kv : Key × D => kD kv.1)
  | _, _, .nil => .nil
  | _, _, .cons _ t => .cons (r_key _) (Rk.keys t)
theorem rc_tupD {kds : List (Key × D)} (h : dkOf as O d kds) (z : k as (.tup (kds.map fun kv => kD kv.1)) O) : rc rTupD [] as O [d] k := fun F H xs hd ow r Q q => by
  cases r with
  | cons r1 r2 =>
    cases r2
    obtain ⟨a, kvs, rfl, e, rk⟩ := dk_un hd ow r1 h
    exact ⟨a, kvs, rfl, e, new_tup hd ow rk.keys z q⟩
end
end DL
namespace DL
open PySem PySem.Spec PyProof.Rows L2 PpSet
abbrev addS (S : Key → Bool) (c : Key) : Key → Bool := fun j => S j || decide (j = c)
abbrev addN (S : Key → Bool) (m : Nat) (c : Key) : Nat := if S c = true then m else m + 1
def tScK (P : Program) (w : World) (wi : TI) (g : TG) (te : TE) (vs : List Nat) : TE := fun σ H Q => wi σ H fun J H1 => ∀ N, H1 N = none → ∃ (n : Nat) (Pv : Nat → Hp → Prop), Pv 0 (upd H1 N (SetK P w N (fun _ => false) 0)) ∧
  ∀ i H, Pv i H → (J.stop i H ∧ Q (.ref N) H) ∨ (i < n ∧ J.go i H ∧ ∀ x H', J.yld i H x H' → g x (wipe σ vs) H' fun σ2 H2 => wipe σ2 vs = wipe σ vs ∧ te σ2 H2 fun y H3 =>
    ∃ (c : Key) (S : Key → Bool) (m : Nat), y = kV c ∧ H3 N = some (SetK P w N S m) ∧ m + 1 < scanBound ∧ Pv (i + 1) (upd H3 N (SetK P w N (addS S c) (addN S m c))))
section
variable {X : Cx}
theorem keyAdd {pins : List (Addr × Obj)} {σ : L2.St} {H : Hp} {s : Shared} {E : Value → Shared → Prop} {N : Addr} {S : Key → Bool} {m : Nat} {c : Key} {u : Value} {Q : Value → Shared → Prop} (I : Inv X pins σ H s) (hN : H N = some (SetK X.prog X.w N S m)) (room : m + 1 < scanBound)
    (rc : RelV (kV c) u) (h : ∀ s', Inv X pins σ (upd H N (SetK X.prog X.w N (addS S c) (addN S m c))) s' → Q .none s') : wpAny (model X.prog X.w) X.A (call (.builtin "set.add") [.ref N, u]) Q E s :=
  call_set_add (kV_is rc) (key_scan rc) (setK_get I hN) room fun g sb new => by
    have ⟨ob, _, _, _, hob, _⟩ := new
    exact h _ (I.write (e := N) (t' := s.toks + 1) (by rw [hN]; trivial) (.inl rfl) (fun b u hb hu => (sb.2 b hb).trans hu) ⟨ob, hob⟩ (setK_new new))
theorem scK_run {pins : List (Addr × Obj)} {s : Shared} {σ : L2.St} {H : Hp} {Q : VK} {elt tg iter : Expr} {scope : Scope} {own : List (PySem.Str × Nat)} {pos pos' : Pos} {wi : TI} {g : TG} {te : TE} {Qf : Value → Shared → Prop}
    (calm : X.calm = true) (nd : X.N.Nodup) (I : Inv X pins σ H s) (hi : PI X tg iter wi) (blk : BlkOk X.N X.env.scope scope own)
    (pg : ∀ (s : Shared) (H : Hp) (C : Addr) (cl : List (PySem.Str × Addr)) (fp : List Addr), PG (X.blk s H scope (compEnvC scope cl C X.env) fp) tg g)
    (pe : ∀ (s : Shared) (H : Hp) (C : Addr) (cl : List (PySem.Str × Addr)) (fp : List Addr), PE (X.blk s H scope (compEnvC scope cl C X.env) fp) elt te) (fs : ∀ x, foldedSetIterable iter X.env x = pure x)
    (h : tScK X.prog X.w wi g te (own.map (·.2)) σ H Q)
    (fin : ∀ N C s' m H', Inv X pins σ H' s' → Q (.ref N) H' → s'.heap.Ns C m → FpOk X pins H' C → compPost (model X.prog X.w) X.A X.xe none Qf (.ref N) C (.ok .next) s') :
    wpAny (model X.prog X.w) X.A (comprehension (.SetComp elt [⟨tg, iter, [], 0⟩] scope pos) scope X.env pos' (newSet (.type "set")) false (eval iter X.env) none) Qf X.xe s := by
  have free : ∀ y ∈ scope.names, y.2 = .free → ∃ c, X.env.cells.lookup y.1 = some c := fun y hy e =>
    (blk.free y hy e).elim (fun k => I.ok.has _ (.inl k)) fun k => I.ok.has _ (.inr k)
  refine wpAny_comprehension_free (use := none) rfl fs (closure_ok free) blk.kind (fun y hy e => by rw [blk.uniq y hy, e]) ?_
  refine thn (hi.run pins s σ H _ I h) fun xv s1 hx => thn hx fun itv s2 ⟨it, fp, tn, J, H2, e, I2, T, st2, f2, q⟩ => ?_
  subst e
  refine newSet_ok (newEnv_comp ?_)
  generalize hN : s2.heap.objs.size = N
  have freeN : H2 N = none := I2.hok.fresh (Nat.le_of_eq hN)
  obtain ⟨n, Pv, p0, turn⟩ := q N freeN
  have newS : ({ s2 with heap := s2.heap.push { cls := .type "set", dict := none, data := .set #[] 0 (.fresh 0 0 (!X.w.params.followText "set-order")) } } : Shared).heap.SetOf (mixKind X.prog X.w) N (fun _ => false) 0 := by
    subst hN
    exact ⟨_, #[], 0, _, Heap.get?_push_size _ rfl, ⟨rfl, rfl, rfl⟩, rfl, fun e he => (by simp at he), fun c => (by simp), by decide, by rfl, rfl⟩
  generalize hH3 : upd H2 N (SetK X.prog X.w N (fun _ => false) 0) = H3 at p0
  generalize es3 : ({ s2 with heap := s2.heap.push { cls := .type "set", dict := none, data := .set #[] 0 (.fresh 0 0 (!X.w.params.followText "set-order")) } } : Shared) = s3 at newS
  have push : ∀ b o, s2.heap.get? b = some o → s3.heap.get? b = some o := fun b o e => by rw [← es3]; exact Heap.get?_push_of_some _ e
  have I3 : Inv X pins σ H3 s3 := by
    rw [← hH3, ← es3]
    exact I2.laid (t' := s2.toks) (fun b o e => Heap.get?_push_of_some _ e) (Nat.le_of_eq hN) (by have := setK_new (H := upd H2 N (SetK X.prog X.w N (fun _ => false) 0)) newS; rw [← es3] at this; exact this)
  have size3 : s3.heap.objs.size = s2.heap.objs.size + 1 := by rw [← es3]; exact Heap.size_push ..
  have small : ∀ b ∈ fp, b < s2.heap.objs.size := fun b hb => by
    obtain ⟨o, e, _⟩ := T.obj _ _ st2 b hb
    exact Heap.lt_size e
  have f3 : ∀ b ∈ fp, FpOk X pins H3 b ∧ b < s3.heap.objs.size := fun b hb => by
    have lt := small b hb
    refine ⟨⟨?_, (f2 b hb).2⟩, by rw [size3]; exact Nat.lt_succ_of_lt lt⟩
    rw [← hH3, upd_ne (show b ≠ N by rw [← hN]; exact Nat.ne_of_lt lt)]
    exact (f2 b hb).1
  have st3 : tn 0 s3.heap := T.keep _ _ _ st2 fun b _ o e => push b o e
  have I4 := block_start I3 blk nd f3
  have pgX := pg s3 H3 s3.heap.objs.size (cellsFrom (s3.heap.objs.size + 1) scope.names (cloFrom X.env.cells scope.names [])) fp
  have peX := pe s3 H3 s3.heap.objs.size (cellsFrom (s3.heap.objs.size + 1) scope.names (cloFrom X.env.cells scope.names [])) fp
  show codeAny _ _ (.compStart (.SetComp elt [⟨tg, iter, [], 0⟩] scope pos) 0 (.ref it) (.ref N) (compEnvC scope (cellsFrom (s3.heap.objs.size + 1) scope.names (cloFrom X.env.cells scope.names [])) s3.heap.objs.size X.env)) (compPost (model X.prog X.w) X.A X.xe none Qf (.ref N) s3.heap.objs.size) { s3 with heap := pushCells (s3.heap.push { cls := .type "dict", data := .dict #[] }) scope.names }
  have none3 : ∀ b ∈ fp, H3 b = none := fun b hb => (f3 b hb).1.1
  generalize ece : compEnvC scope (cellsFrom (s3.heap.objs.size + 1) scope.names (cloFrom X.env.cells scope.names [])) s3.heap.objs.size X.env = ce at I4 pgX peX ⊢
  have eC : ce.locals = s3.heap.objs.size := by rw [← ece]; rfl
  generalize es4 : ({ s3 with heap := pushCells (s3.heap.push { cls := .type "dict", data := .dict #[] }) scope.names } : Shared) = s4 at I4 ⊢
  have st4 : tn 0 s4.heap := T.keep _ _ _ st3 fun b _ o e => by rw [← es4]; exact pushCells_keeps _ _ _ _ (Heap.get?_push_of_some _ e)
  -- what the walker's objects keep within the block
  have fpk : ∀ {σ' : L2.St} {G : Hp} {u : Shared}, Inv (X.blk s3 H3 scope ce fp) [] σ' G u → (∀ b ∈ fp, G b = none) → ∀ b ∈ fp, FpOk (X.blk s3 H3 scope ce fp) [] G b := fun {σ' G u} J' z b hb =>
    ⟨z b hb, (J'.ok.exf b hb).1, J'.ok.exfs b hb, .inl hb, fun x c e => (J'.ok.exf b hb).2 x c e, fun y hy => by have hy : y ∈ ([] : List (Addr × Obj)) ++ [] := hy; simp at hy⟩
  have loop : codeAny (model X.prog X.w) X.A (.compLoop (.SetComp elt [⟨tg, iter, [], 0⟩] scope pos) 0 (.ref it) (.ref N) ce) (compPost (model X.prog X.w) X.A X.xe none Qf (.ref N) s3.heap.objs.size) s4 := by
    refine compLoopS_any (fun left u => ∃ i G, left = n - i ∧ Inv (X.blk s3 H3 scope ce fp) [] (wipe σ (own.map (·.2))) G u ∧ tn i u.heap ∧ (∀ b ∈ fp, G b = none) ∧ Pv i G) ?_ (n - 0) ⟨0, H3, rfl, I4, st4, none3, p0⟩
    rintro left u5 ⟨i, H5, rfl, I5, st5, n5, p5⟩
    rcases turn i H5 p5 with ⟨stop, qq⟩ | ⟨lt, go, step⟩
    · have ends := T.done (X.blk s3 H3 scope ce fp) rfl rfl rfl calm i [] u5 _ H5 (fun _ _ => False) I5 (fpk I5 n5) st5 stop
      refine thnF ends fun r u6 ⟨er, I6⟩ => ?_
      subst er
      have I7 : Inv X pins σ H5 u6 := I3.call' (ch := fp) I6.os I6.base I6.hok I6.bare fun b hb => ⟨(f3 b hb).1.2.2.2.1, (f3 b hb).1.2.1, (f3 b hb).1.2.2.2.2.1, (f3 b hb).1.2.2.2.2.2⟩
      have noC : H5 s3.heap.objs.size = none := by
        rw [← eC]
        exact I6.free
      obtain ⟨m, nsm, _⟩ := I6.loc
      have nsm : u6.heap.Ns s3.heap.objs.size m := by
        rw [← eC]
        exact nsm
      exact fin N s3.heap.objs.size u6 m H5 I7 qq nsm (I3.fpOk (Nat.le_refl _) noC)
    · have item := T.item (X.blk s3 H3 scope ce fp) rfl rfl rfl calm i [] u5 _ H5 (fun _ _ => False) I5 (fpk I5 n5) st5 go
      refine thnF item fun r u6 ⟨v, er, h6⟩ => ?_
      subst er
      refine thnF h6 fun _ u7 ⟨x, H7, I7, r7, y7, st7, n7⟩ => ?_
      have I7p := I7.pinned (fpk I7 n7) (T.obj _ _ st7)
      refine thnF (pgX.run _ u7 _ H7 x v _ I7p r7 (step x H7 y7)) fun _ u8 ⟨σ8, H8, I8, ew, q8⟩ => ?_
      refine thnF ((pts_nil (X := X.blk s3 H3 scope ce fp)).run _ u8 σ8 H8 (fun b G => b = true ∧ te σ8 G _) I8 ⟨rfl, q8⟩) fun b u9 ⟨H9, I9, eb, q9⟩ => ?_
      subst eb
      simp only [if_true]
      refine thnF (peX.run _ u9 σ8 H9 _ I9 q9) fun z u10 ⟨y, H10, I10, r10, c, S, m, ey, hN10, room, p10⟩ => ?_
      subst ey
      refine keyAdd (X := X.blk s3 H3 scope ce fp) I10 hN10 room r10 fun u11 I11 => ?_
      have pinned : ∀ b ∈ fp, ∀ o, u7.heap.get? b = some o → u11.heap.get? b = some o ∧ upd H10 N (SetK X.prog X.w N (addS S c) (addN S m c)) b = none := fun b hb o e =>
        let p := I11.pin (b, o) (List.mem_append_right _ (List.mem_append_right _ (mem_pinsAt hb e)))
        ⟨p.1, p.2.1⟩
      have len : (wipe σ (own.map (·.2))).length = σ8.length := by rw [← ew, wipe_length]
      refine ⟨n - (i + 1), by omega, i + 1, _, rfl, (I11.unpinned (pins := [])).weak len (fun j w e => ?_), T.keep _ _ _ st7 fun b hb o e => (pinned b hb o e).1, fun b hb => ?_, p10⟩
      · rw [← ew] at e
        exact (wipe_some e).1
      · obtain ⟨o, e, _⟩ := T.obj _ _ st7 b hb
        exact (pinned b hb o e).2
  exact codeAny_compStart_set loop (T.self X.A 0 _ _ _ st4 loop)
theorem pe_scK {elt tg iter : Expr} {scope : Scope} {own : List (PySem.Str × Nat)} {pos : Pos} {wi : TI} {g : TG} {te : TE} (calm : X.calm = true) (nd : X.N.Nodup) (hi : PI X tg iter wi) (blk : BlkOk X.N X.env.scope scope own)
    (pg : ∀ (s : Shared) (H : Hp) (C : Addr) (cl : List (PySem.Str × Addr)) (fp : List Addr), PG (X.blk s H scope (compEnvC scope cl C X.env) fp) tg g)
    (pe : ∀ (s : Shared) (H : Hp) (C : Addr) (cl : List (PySem.Str × Addr)) (fp : List Addr), PE (X.blk s H scope (compEnvC scope cl C X.env) fp) elt te) (fs : ∀ x, foldedSetIterable iter X.env x = pure x := by intro _; rfl) :
    PE X (.SetComp elt [⟨tg, iter, [], 0⟩] scope pos) (tScK X.prog X.w wi g te (own.map (·.2))) := by
  refine ⟨fun pins s σ H Q I h => ?_⟩
  rw [eval_SetComp]
  refine scK_run calm nd I hi blk pg pe fs h fun N C s' m H' I' q hn f => ⟨m, hn, fun g sb => ?_⟩
  exact ⟨.ref N, H', I'.turned (t' := s'.toks) (fun b o hb e => (sb.2 b hb).trans e) f.1 f.2.1 f.2.2.2.1 f.2.2.2.2.1 f.2.2.2.2.2, rfl, q⟩
/-- len of a set of keys -/
def rLenK (P : Program) (w : World) : List V → Hp → VK → Prop := fun xs H Q => ∃ (a : Addr) (S : Key → Bool) (m : Nat), xs = [V.ref a] ∧ H a = some (SetK P w a S m) ∧ Q (.int m) H
theorem call_lenK : CallR X (.builtin "len") (rLenK X.prog X.w) := by
  intro pins s σ H xs us Q I r h
  obtain ⟨a, S, m, rfl, ha, q⟩ := h
  obtain ⟨u, rfl, rx⟩ := vals1 r
  obtain rfl : u = Value.ref a := rx
  obtain ⟨o, es, ep, t, ho, ex, hd, _, _, few, hf, hn⟩ := setK_get I ha
  have lt : (es.size : Int) < 2 ^ 63 := by
    have e1 : es.size < 4611686018427387904 := Nat.lt_of_lt_of_le few (by decide)
    omega
  exact call_len_set ho ex hd hf lt ⟨.int m, H, I.tok _, ⟨_, by rw [hn]⟩, q⟩
end
end DL
namespace DL
open PySem PySem.Spec PyProof.Rows L2
/-- without what stands there twice -/
def dist (l : List Str) : List Str := l.foldl (fun p z => if z ∈ p then p else p ++ [z]) []
theorem dist_snoc (l : List Str) (z : Str) : dist (l ++ [z]) = if z ∈ dist l then dist l else dist l ++ [z] := by
  unfold dist
  rw [List.foldl_append]
  rfl
theorem snoc_ind {C : List Str → Prop} (h0 : C []) (h1 : ∀ l z, C l → C (l ++ [z])) (l : List Str) : C l := by
  rw [← l.reverse_reverse]
  induction l.reverse with
  | nil => exact h0
  | cons z r ih =>
    rw [List.reverse_cons]
    exact h1 _ _ ih
theorem dist_len (l : List Str) : (dist l).length ≤ l.length := by
  refine snoc_ind (C := fun l => (dist l).length ≤ l.length) (Nat.le_refl _) (fun l z ih => ?_) l
  rw [dist_snoc, List.length_append]
  by_cases h : z ∈ dist l
  · rw [if_pos h]; omega
  · rw [if_neg h, List.length_append]; show _ + 1 ≤ _ + 1; omega
theorem dist_nodup (l : List Str) : l.Nodup → dist l = l := by
  refine snoc_ind (C := fun l => l.Nodup → dist l = l) (fun _ => rfl) (fun l z ih h => ?_) l
  rw [List.nodup_append] at h
  rw [dist_snoc, ih h.1, if_neg fun m => h.2.2 z m z (by simp) rfl]
def memS (p : List Str) : Key → Bool
  | .inl _ => false
  | .inr z => decide (z ∈ p)
theorem memS_nil : memS [] = fun _ => false := by
  funext k
  cases k with
  | inl i => rfl
  | inr z => simp [memS]
theorem memS_add (p : List Str) (z : Str) : addS (memS p) (.inr z) = memS (if z ∈ p then p else p ++ [z]) ∧ addN (memS p) p.length (.inr z) = (if z ∈ p then p else p ++ [z]).length := by
  have e : memS p (.inr z) = decide (z ∈ p) := rfl
  constructor
  · funext k
    cases k with
    | inl i =>
      show (false || decide ((Sum.inl i : Key) = .inr z)) = _
      rw [decide_eq_false (fun y => by cases y)]
      rfl
    | inr y =>
      show (decide (y ∈ p) || decide ((Sum.inr y : Key) = .inr z)) = decide (y ∈ _)
      by_cases h : z ∈ p
      · rw [if_pos h]
        by_cases h2 : y = z
        · subst h2; simp [h]
        · have : ¬ ((Sum.inr y : Key) = .inr z) := fun q => h2 (by cases q; rfl)
          rw [decide_eq_false this, Bool.or_false]
      · rw [if_neg h]
        by_cases h2 : y = z
        · subst h2; simp
        · have : ¬ ((Sum.inr y : Key) = .inr z) := fun q => h2 (by cases q; rfl)
          rw [decide_eq_false this, Bool.or_false]
          simp [h2]
  · show (if memS p (.inr z) = true then _ else _) = _
    rw [e]
    by_cases h : z ∈ p
    · rw [decide_eq_true h, if_pos rfl, if_pos h]
    · rw [decide_eq_false h, if_neg (by simp), if_neg h, List.length_append]; rfl
section
variable {χ : Xk} {L : List Addr} {as : List Addr} {ρ : DSt} {O : List D} {k : List Addr → D → List D → Prop} {te : TE} {P : Program} {w : World}
theorem w_lenset {α : Type} {wi : TI} {g : TG} {vs : List Nat} (hg : WG g vs) (h : dI X0 wi L as ρ O fun as1 ds O1 => ∃ (xs : List α) (em : α → D) (f : α → Str), ds = xs.map em ∧ xs.length ≤ 1000 ∧
    (∀ x ∈ xs, dG X0 g (em x) L as1 (wρ ρ vs) O1 fun as2 ρ2 O2 => as2 = as1 ∧ O2 = O1 ∧ dE X0 te L as1 ρ2 O1 fun as4 y O4 => as4 = as1 ∧ O4 = O1 ∧ y = .str (f x)) ∧
    k as1 (.int (dist (xs.map f)).length) O1) : dE χ (tCB (rLenK P w) (tCons (tScK P w wi g te vs) tNil)) L as ρ O k := fun F H σ S x Q q =>
  h F H σ S xp0 _ fun F1 H1 as1 O1 J ds g1 S1 ⟨G, Y, wk, hG, hY⟩ ⟨xs, em, f, eds, few, st, fin⟩ N hN => by
    subst eds
    have hNf := S1.hd.free hN
    have nN : N ∉ as1 := fun m => S1.own.tr m hN
    have keepN : ∀ {Fa Fb : Hp} {Ha Hb : Hp} {u : HO}, Go as1 Fa Ha as1 Fb Hb → Fa N = none → Ha N = some u → Fb N = none ∧ Hb N = some u := fun {Fa Fb Ha Hb u} g f e => by
      refine ⟨?_, g.kp _ _ e nN⟩
      cases z : Fb N with
      | none => rfl
      | some u =>
        rcases g.nw N u z with z | z | z
        · rw [f] at z; cases z
        · rw [e] at z; cases z
        · exact absurd z nN
    let p : Nat → List Str := fun i => dist ((xs.take i).map f)
    refine ⟨xs.length, fun i H' => i ≤ xs.length ∧ ∃ F', Go as1 F1 H1 as1 F' H' ∧ Hd L F' H' ∧ Own F' H' as1 O1 ∧ F' N = none ∧ H' N = some (SetK P w N (memS (p i)) (p i).length), ⟨Nat.zero_le _, F1, ?_, S1.hd.upd hNf, ?_, hNf, ?_⟩, ?_⟩
    · exact ⟨fun _ _ h => h, fun _ _ h => .inl h, fun b o e _ => by rw [upd_ne (ne_of_none e hN)]; exact e, fun b e => by
        by_cases z : b = N
        · subst z; exact hN
        · rw [upd_ne z] at e; exact e, fun _ m => .inl m⟩
    · exact S1.own.keep (fun _ _ h => h) (fun a m => S1.own.free m) fun a m o e => by rw [upd_ne (ne_of_none e hN)]; exact e
    · show upd H1 N (SetK P w N (fun _ => false) 0) N = some (SetK P w N (memS []) 0)
      rw [memS_nil]
      exact upd_same
    rintro i H' ⟨hi, F', g', hd', ow', f', e'⟩
    have hGi := hG F' H' as1 g' hd'
    rcases Nat.lt_or_ge i xs.length with lt | ge
    · refine .inr ⟨lt, wk.1 i H' (by rw [List.length_map]; exact lt) hGi, fun v H2 hy => ?_⟩
      have hy := wk.3 i H' v H2 (by rw [List.length_map]; exact lt) hGi hy
      obtain ⟨F3, d, hdi, g3, hd3, ow3, r3⟩ := hY i as1 H' H2 v F' O1 (by rw [List.length_map]; exact lt) g'.ex hd' ow' hy
      rw [List.getElem?_map, List.getElem?_eq_getElem lt] at hdi
      cases hdi
      obtain ⟨f3, e3⟩ := keepN g3 f' e'
      have S3 : Rep L as1 F3 H2 (L2.wipe σ vs) (wρ ρ vs) O1 := ⟨hd3, ow3, (S1.sl.mono fun a o h => g3.ex _ _ (g'.ex _ _ h)).wipe vs⟩
      refine hg v _ _ _ _ (fun σ2 H3 ew q2 => ⟨ew.trans (wipe_wipe fun _ m => m), q2⟩) (st xs[i] (List.getElem_mem lt) F3 H2 (L2.wipe σ vs) v S3 xp0 r3 _ fun F4 H4 as4 σ4 ρ4 O4 g4 S4 ⟨e1, e2, z4⟩ => ?_)
      subst e1
      subst e2
      obtain ⟨f4, e4⟩ := keepN g4 f3 e3
      refine z4 F4 H4 σ4 S4 xp0 _ fun F5 H5 as5 O5 y dy g5 S5 r5 ⟨e1, e2, ey⟩ => ?_
      subst e1
      subst e2
      subst ey
      obtain ⟨f5, e5⟩ := keepN g5 f4 e4
      cases r5
      have gg := g'.trans (g3.trans (g4.trans g5))
      have len : (p i).length ≤ 1000 := by
        have := dist_len ((xs.take i).map f)
        rw [List.length_map, List.length_take] at this
        show (dist _).length ≤ _
        omega
      have ep : p (i + 1) = if f xs[i] ∈ p i then p i else p i ++ [f xs[i]] := by
        show dist ((xs.take (i + 1)).map f) = _
        rw [List.take_add_one, List.getElem?_eq_getElem lt, List.map_append]
        exact dist_snoc _ _
      obtain ⟨m1, m2⟩ := memS_add (p i) (f xs[i])
      refine ⟨.inr (f xs[i]), memS (p i), (p i).length, rfl, e5, Nat.lt_of_le_of_lt (Nat.succ_le_succ len) (by decide), lt, F5, ?_, S5.hd.upd f5, ?_, f5, ?_⟩
      · refine ⟨gg.ex, gg.nw, fun b o e n => ?_, fun b e => ?_, gg.sub⟩
        · rw [upd_ne (ne_of_none e hN)]
          exact gg.kp b o e n
        · by_cases z : b = N
          · subst z; exact hN
          · rw [upd_ne z] at e; exact gg.th b e
      · exact S5.own.keep (fun _ _ h => h) (fun a m => S5.own.free m) fun a m o e => by
          have : a ≠ N := fun z => nN (by rw [← z]; exact m)
          rw [upd_ne this]; exact e
      · rw [m1, m2, ← ep]
        exact upd_same
    · have : i = xs.length := by omega
      subst this
      have stop := wk.2 H' (by exact hGi)
      rw [List.length_map] at stop
      refine .inl ⟨stop, N, _, _, rfl, e', ?_⟩
      have en : p xs.length = dist (xs.map f) := by show dist ((xs.take xs.length).map f) = _; rw [List.take_length]
      rw [en]
      exact q F' H' as1 O1 _ _ (g1.trans g') ⟨hd', ow', S1.sl.mono g'.ex⟩ (.int _) fin
end
end DL
namespace DL
open PySem PySem.Spec PyProof.Rows L2
def rLtD (K : PySem.W.Frag) : R2 := fun x y H Q => ∃ d e, Dp K H x d ∧ Dp K H y e ∧ PySem.W.alike d e = true ∧ d ≠ .none ∧ min d.depth e.depth ≤ 64 ∧ Q (.bl (PySem.W.dataLt d e)) H
theorem op_ltD {X : Cx} (hu : X.A.units + 64 < cLine) : OpR X (compareOp .Lt) (rLtD X.K) := by
  intro pins s σ H x y v u Q I rx ry h
  obtain ⟨d, e, hd, he, al, nn, dep, q⟩ := h
  obtain ⟨as, r1⟩ := Dp.reads I d x v hd rx
  obtain ⟨bs, r2⟩ := Dp.reads I e y u he ry
  exact PySem.W.rcLt_alike d e X.A s v u as bs r1 r2 al nn (by omega) X.prog X.w _ _ ⟨.bl _, H, I, rfl, q⟩
open PySem.W in
theorem ints_alike : ∀ ns ms : List Int, alikeAll (ns.map PyData.int) (ms.map PyData.int) = true
  | [], l => by cases l <;> rfl
  | _ :: _, [] => rfl
  | n :: ns, m :: ms => by
    show (alike (.int n) (.int m) && alikeAll (ns.map PyData.int) (ms.map PyData.int)) = true
    rw [ints_alike ns ms]
    rfl
open PySem.W in
theorem ints_lt : ∀ ns ms : List Int, PyProof.Rows.lexLt itemOrd (keyToksAll (ns.map PyData.int)) (keyToksAll (ms.map PyData.int)) = HT.lexLt ns ms
  | [], [] => by rfl
  | [], m :: ms => by
    rw [List.map_cons, toks_all_cons]
    rfl
  | n :: ns, [] => by
    rw [List.map_cons, toks_all_cons]
    rfl
  | n :: ns, m :: ms => by
    rw [List.map_cons, List.map_cons, HT.lexLt_cons]
    by_cases h : n = m
    · rw [if_pos h, dataLt_all_yes rfl (by subst h; exact beq_self_eq_true n), ints_lt ns ms]
    · rw [if_neg h, dataLt_all_no rfl (by show (n == m) = false; rw [beq_eq_false_iff_ne]; exact h), dataLt_int]
theorem ints_dp {K : PySem.W.Frag} {H : Hp} : ∀ ns : List Int, DpAll K H (ns.map V.int) (ns.map PyData.int)
  | [] => .nil
  | n :: r => .cons (.int n) (ints_dp r)
theorem ints_depth : ∀ ns : List Int, PyData.depthAll (ns.map PyData.int) = 0
  | [] => rfl
  | n :: r => by
    show max 0 (PyData.depthAll (r.map PyData.int)) = 0
    rw [ints_depth r]
    rfl
open PySem.W in
theorem pair_lt (n m : Int) (ns ms : List Int) : dataLt (.tuple [.int n, .list (ns.map PyData.int)]) (.tuple [.int m, .list (ms.map PyData.int)]) = if n = m then HT.lexLt ns ms else decide (n < m) := by
  rw [dataLt_tuple]
  by_cases h : n = m
  · rw [if_pos h, dataLt_all_yes rfl (by subst h; exact beq_self_eq_true n)]
    have al : alike (.list (ns.map PyData.int)) (.list (ms.map PyData.int)) = true := ints_alike ns ms
    by_cases e : PyData.eqv (.list (ns.map PyData.int)) (.list (ms.map PyData.int)) = true
    · rw [dataLt_all_yes al e]
      have h1 := (toks_eqv _ _ al).1 e
      have h2 := ints_lt ns ms
      rw [← dataLt_list] at h2
      unfold dataLt at h2
      rw [h1] at h2
      rw [← h2]
      generalize keyToks (.list (ms.map PyData.int)) = q
      show false = _
      induction q with
      | nil => rfl
      | cons x q ih => exact ih.trans (lex_self (O := itemOrd) x q q).symm
    · have e : PyData.eqv (.list (ns.map PyData.int)) (.list (ms.map PyData.int)) = false := by simpa using e
      rw [dataLt_all_no al e, dataLt_list, ints_lt]
  · rw [if_neg h, dataLt_all_no rfl (by show (n == m) = false; rw [beq_eq_false_iff_ne]; exact h), dataLt_int]
section
variable {L : List Addr} {as : List Addr} {O : List D} {k : List Addr → D → List D → Prop} {KK : PySem.W.Frag}
theorem rv_ltP {n m : Int} {ns ms : List Int} (z : k as (.bl (if n = m then HT.lexLt ns ms else decide (n < m))) O) : rv (rLtD KK) L as O (.tup [.int n, .lst (ns.map D.int)]) (.tup [.int m, .lst (ms.map D.int)]) k := fun F H x y hd ow r1 r2 Q q => by
  have dp : ∀ {v : V} {i : Int} {l : List Int}, R F v (.tup [.int i, .lst (l.map D.int)]) → Dp KK H v (.tuple [.int i, .list (l.map PyData.int)]) := fun {v i l} r => by
    cases r with
    | tup e r =>
      cases r with
      | cons q1 q2 =>
        cases q2 with
        | cons q3 q4 =>
          cases q4
          cases q1
          cases q3 with
          | lst e2 r2 =>
            rw [r2.ints] at e2
            exact .tup (SqT.of (hd.tup e)) (.cons (.int i) (.cons (.lst (SqL.of (hd.lst e2)) (ints_dp l)) .nil))
  refine ⟨_, _, dp r1, dp r2, ?_, (fun e => by cases e), ?_, ?_⟩
  · show (true && (PySem.W.alikeAll (ns.map PyData.int) (ms.map PyData.int) && true)) = true
    rw [ints_alike]
    rfl
  · show min (max 0 (max (PyData.depthAll (ns.map PyData.int) + 1) 0) + 1) _ ≤ 64
    rw [ints_depth]
    exact Nat.le_trans (Nat.min_le_left _ _) (by decide)
  · rw [pair_lt]
    exact q F H as O _ _ (.refl ..) hd ow (.bl _) z
end
end DL
namespace DL
open PySem PySem.Spec PyProof.Rows L2
section
variable {χ : Xk} {L : List Addr} {ρ : DSt}
theorem frzAll {as0 : List Addr} {O0 : List D} {H : Hp} {σ : L2.St} : ∀ {ps : List Addr} {cs : List D} {F : Hp}, ps.length = cs.length → as0.length = O0.length → Rep L (as0 ++ ps) F H σ ρ (O0 ++ cs) →
    ∃ F', Rep L as0 F' H σ ρ O0 ∧ Go (as0 ++ ps) F H as0 F' H ∧ ∀ (i : Nat) (p : Addr) (c : D), ps[i]? = some p → cs[i]? = some c → R F' (.ref p) c
  | [], [], F, _, _, S => ⟨F, by simpa using S, by simpa using Go.refl as0 F H, fun i p c h => by simp at h⟩
  | [], _ :: _, _, l, _, _ => by cases l
  | _ :: _, [], _, l, _, _ => by cases l
  | p :: ps, c :: cs, F, l, l0, S => by
    have ha : (as0 ++ p :: ps)[as0.length]? = some p := by simp
    have hc : (O0 ++ c :: cs)[as0.length]? = some c := by rw [l0]; simp
    obtain ⟨hf, o, ho, cn⟩ := S.own.at_ _ _ _ ha hc
    have S1 := S.frz ha hc hf ho cn
    have g1 : Go (as0 ++ p :: ps) F H ((as0 ++ p :: ps).eraseIdx as0.length) (upd F p o) H := go_frz hf ha
    have ea : (as0 ++ p :: ps).eraseIdx as0.length = as0 ++ ps := by
      rw [List.eraseIdx_append_of_length_le (Nat.le_refl _)]
      simp
    have eo : (O0 ++ c :: cs).eraseIdx as0.length = O0 ++ cs := by
      rw [l0, List.eraseIdx_append_of_length_le (Nat.le_refl _)]
      simp
    rw [ea, eo] at S1
    rw [ea] at g1
    obtain ⟨F', S2, g2, all⟩ := frzAll (by simpa using l) l0 S1
    refine ⟨F', S2, g1.trans g2, fun i q d h1 h2 => ?_⟩
    cases i with
    | zero =>
      simp at h1 h2
      subst h1
      subst h2
      exact (R.of upd_same (cn.mono (ex_lay hf))).mono g2.ex
    | succ i => exact all i q d (by simpa using h1) (by simpa using h2)
def zipD (ks : List Key) (ds : List D) : List (Key × D) := List.zipWith (fun k d => (k, d)) ks ds
theorem Rk.redo {F : Hp} : ∀ {ks : List Key} {ps : List Addr} {cs : List D} {kvs : List (Key × V)}, ps.length = cs.length → (∀ (i : Nat) (p : Addr) (c : D), ps[i]? = some p → cs[i]? = some c → R F (.ref p) c) → Rk F kvs (zipD ks (ps.map D.adr)) → Rk F kvs (zipD ks cs)
  | [], _, _, _, _, _, r => by
    cases r
    exact .nil
  | _ :: _, [], [], _, _, _, r => by
    cases r
    exact .nil
  | _ :: _, [], _ :: _, _, l, _, _ => by cases l
  | _ :: _, _ :: _, [], _, l, _, _ => by cases l
  | k :: ks, p :: ps, c :: cs, kvs, l, h, r => by
    cases r with
    | cons r1 r2 =>
      cases r1
      exact .cons (h 0 p c rfl rfl) (Rk.redo (by simpa using l) (fun i q d h1 h2 => h (i + 1) q d (by simpa using h1) (by simpa using h2)) r2)
theorem s_frzDict {K : Kt} {ts : TS} {as0 ps : List Addr} {O0 cs : List D} {ks : List Key} (j : Nat) (l : ps.length = cs.length) (l0 : as0.length = O0.length) (hj : O0[j]? = some (.dk (zipD ks (ps.map D.adr))))
    (h : dS χ ts L as0 ρ (O0.set j (.dk (zipD ks cs))) K) : dS χ ts L (as0 ++ ps) ρ (O0 ++ cs) K := fun F H σ S x Z z => by
  obtain ⟨F', S', g, all⟩ := frzAll l l0 S
  have own2 : Own F' H as0 (O0.set j (.dk (zipD ks cs))) := by
    refine ⟨S'.own.nd, by rw [List.length_set]; exact S'.own.len, fun i b d' e1 e2 => ?_⟩
    by_cases q : j = i
    · subst q
      rw [List.getElem?_set_self (List.getElem?_eq_some_iff.mp hj).1] at e2
      cases e2
      obtain ⟨f1, o1, f2, f3⟩ := S'.own.at_ j b _ e1 hj
      cases f3 with
      | dk rk => exact ⟨f1, _, f2, .dk (rk.redo l all)⟩
    · rw [List.getElem?_set_ne q] at e2
      exact S'.own.at_ i b d' e1 e2
  exact h F' H σ ⟨S'.hd, own2, S'.sl⟩ (x.go g) Z (z.go g)
end
end DL
namespace DL
open PySem PySem.Spec PyProof.Rows L2
section
variable {X : Cx} {e : Expr} {es : List Expr} {te : TE} {ta : TA} {pos : Pos}
theorem pst_set {i : Nat} {x : Str} {pos' : Pos} (hN : X.N.Nodup) (hi : X.N[i]? = some x) (hx : Loc X.env.scope x) (he : PET X e te) (hs : swapsWith e (some (.Name x pos')) pos.line X.env = pure false := by rfl) (hf : X.fn x = true ∨ X.env.scope.names.lookup x = some .local := by first | exact .inl rfl | exact .inr rfl | assumption) :
    PST X (.Assign [.Name x pos'] e pos) (tAsg te (gName i)) := by
  intro pins s σ H D h0 I h
  refine wpAny_Assign_Name (thn (he pins s σ H _ h0 I h) fun v s1 ⟨y, H1, I1, r1, q1⟩ => ?_) hs
  exact store_ok I1 hN hi hx r1 (fun s2 I2 => ⟨_, H1, I2, q1⟩) hf
end
section
variable {χ : Xk} {L : List Addr} {as : List Addr} {ρ : DSt} {O : List D} {k : List Addr → D → List D → Prop} {te : TE}
theorem w_repl {y z : Str} (h : dE χ te L as ρ O fun as d O => ∃ x, d = .str x ∧ x.length ≤ 1000 ∧ z.length ≤ 1000 ∧ k as (.str (Txt.replace x y z)) O) : dE χ (CwR.tReplC te y z) L as ρ O k := fun F H σ S x Q q =>
  h F H σ S x _ fun F1 H1 as1 O1 v d g1 S1 r1 ⟨x, ed, h1, h2, z1⟩ => by
    subst ed
    cases r1
    refine ⟨x, rfl, ?_, q F1 H1 as1 O1 _ _ g1 S1 (.str _) z1⟩
    have : (x.length + 1) * z.length ≤ 1001 * 1000 := Nat.mul_le_mul (by omega) h2
    omega
end
/-- all signs c are taken out -/
theorem repl_out (x : Str) (c : Nat) : (Txt.replace x ⟨#[c]⟩ "").cps.toList = x.cps.toList.filter fun a => decide (a ≠ c) := by
  rw [PySem.StrLaws.replace_list (by show 1 ≤ 1; exact Nat.le_refl _)]
  show PySem.StrLaws.replL [c] [] x.cps.toList = _
  induction x.cps.toList with
  | nil => exact PySem.StrLaws.replL_nil
  | cons a r ih =>
    by_cases h : a = c
    · subst h
      rw [PySem.StrLaws.replL_hit (by simp) (by simp)]
      rw [List.filter_cons_of_neg (by simp)]
      exact ih
    · rw [PySem.StrLaws.replL_miss (by simp [h])]
      rw [List.filter_cons_of_pos (by simp [h]), ih]
end DL
namespace PyProof.Rows
open PySem PySem.Spec PySem.Builtin
end PyProof.Rows
namespace DL
open PySem PySem.Spec PyProof.Rows L2
end DL
namespace DL
open PySem PySem.Spec PyProof.Rows L2
section
variable {χ : Xk} {L : List Addr} {as : List Addr} {ρ : DSt} {O : List D} {k : List Addr → D → List D → Prop} {ta te : TE} {t : TA} {d d1 d2 : D} {KK : PySem.W.Frag}
theorem rv_catA {ds es : List D} (hl : ds.length + es.length ≤ 100000) (z : k as (.tup (ds ++ es)) O) : rv (rCatA KK) L as O (.tup ds) (.tup es) k := fun F H x y hd ow r1 r2 Q q => by
  have r10 := r1
  have r20 := r2
  cases r1 with
  | tup e1 q1 =>
    cases r2 with
    | tup e2 q2 =>
      refine ⟨_, _, _, _, rfl, rfl, SqT.of (hd.tup e1), SqT.of (hd.tup e2), by rw [q1.length, q2.length]; exact small hl, fun h => ?_, fun _ h => ?_, fun _ _ => new_tup hd ow (q2.append q1) z q⟩
      · subst h
        cases q1
        exact q F H as O _ _ (.refl ..) hd ow r20 z
      · subst h
        cases q2
        rw [List.append_nil] at z
        exact q F H as O _ _ (.refl ..) hd ow r10 z
end
end DL
namespace DL
open PySem PySem.Spec PyProof.Rows L2 Builtin Builtin.Str Builtin.Int Builtin.Float
theorem core_len (b : Nat) : ∀ (f n : Nat) (acc : List Char), (Nat.toDigitsCore b f n acc).length ≤ f + acc.length
  | 0, _, acc => by
    show acc.length ≤ 0 + acc.length
    omega
  | f + 1, n, acc => by
    unfold Nat.toDigitsCore
    show (if n / b = 0 then (n % b).digitChar :: acc else b.toDigitsCore f (n / b) ((n % b).digitChar :: acc)).length ≤ _
    split
    · simp
      omega
    · have := core_len b f (n / b) ((n % b).digitChar :: acc)
      simp at this
      omega
end DL
namespace PySem
open Sem (wp)
open AutoSeq1 (wpAny_loadPart')
end PySem
namespace DL
open PySem PySem.Spec PyProof.Rows L2
end DL
namespace DL
open PySem PySem.Spec PyProof.Rows L2
mutual
def pdOf : D → PyData
  | .non => .none
  | .bl b => .bool b
  | .int i => .int i
  | .str x => .str x
  | .tup ds => .tuple (pdAll ds)
  | .lst ds => .list (pdAll ds)
  | _ => .dict []
def pdAll : List D → List PyData
  | [] => []
  | d :: r => pdOf d :: pdAll r
end
mutual
theorem dp_of {L : List Addr} {K : PySem.W.Frag} {F H : Hp} (hd : Hd L F H) : ∀ {v : V} {d : D}, R F v d → (pdOf d).canLay0 = true → Dp K H v (pdOf d)
  | _, _, .non, _ => by rw [pdOf]; exact .non
  | _, _, .bl b, _ => by rw [pdOf]; exact .bl b
  | _, _, .int i, _ => by rw [pdOf]; exact .int i
  | _, _, .str x, _ => by rw [pdOf]; exact .str x
  | _, _, .tup e r, h => by
    rw [pdOf] at h ⊢
    exact .tup (SqT.of (hd.tup e)) (dps_of hd r h)
  | _, _, .lst e r, h => by
    rw [pdOf] at h ⊢
    exact .lst (SqL.of (hd.lst e)) (dps_of hd r h)
  | _, _, .adr _, h => by simp only [pdOf] at h; exact absurd h (by show ¬ (false = true); decide)
  | _, _, .dk _ _, h => by simp only [pdOf] at h; exact absurd h (by show ¬ (false = true); decide)
  | _, _, .ins _ _, h => by simp only [pdOf] at h; exact absurd h (by show ¬ (false = true); decide)
  | _, _, .ldk _ _, h => by simp only [pdOf] at h; exact absurd h (by show ¬ (false = true); decide)
  | _, _, .zst _ _, h => by simp only [pdOf] at h; exact absurd h (by show ¬ (false = true); decide)
  | _, _, .zkl _ _, h => by simp only [pdOf] at h; exact absurd h (by show ¬ (false = true); decide)
  | _, _, .zkt _ _, h => by simp only [pdOf] at h; exact absurd h (by show ¬ (false = true); decide)
  | _, _, .exc _ _, h => by simp only [pdOf] at h; exact absurd h (by show ¬ (false = true); decide)
  | _, _, .fz _ _, h => by simp only [pdOf] at h; exact absurd h (by show ¬ (false = true); decide)
theorem dps_of {L : List Addr} {K : PySem.W.Frag} {F H : Hp} (hd : Hd L F H) : ∀ {vs : List V} {ds : List D}, Rs F vs ds → PyData.canLayAll0 (pdAll ds) = true → DpAll K H vs (pdAll ds)
  | _, _, .nil, _ => by rw [pdAll]; exact .nil
  | _, _, .cons r t, h => by
    rw [pdAll] at h ⊢
    obtain ⟨h1, h2⟩ := Bool.and_eq_true_iff.mp h
    exact .cons (dp_of hd r h1) (dps_of hd t h2)
end
/-- what is read: known, or an owned list -/
def rdD (as : List Addr) (O : List D) (d c : D) : Prop := d = c ∨ ∃ (j : Nat) (a : Addr) (ds : List D), d = .adr a ∧ as[j]? = some a ∧ O[j]? = some c ∧ c = .lst ds
section
variable {L : List Addr} {as : List Addr} {O : List D} {k : List Addr → D → List D → Prop} {d1 d2 c1 c2 : D} {KK : PySem.W.Frag}
theorem rd_k {d : D} : rdD as O d d := .inl rfl
theorem rd_o {a : Addr} {ds : List D} (j : Nat) (h1 : as[j]? = some a) (h2 : O[j]? = some (.lst ds)) : rdD as O (.adr a) (.lst ds) := .inr ⟨j, a, ds, rfl, h1, h2, rfl⟩
theorem dp_rd {F H : Hp} {v : V} {d c : D} (hd : Hd L F H) (ow : Own F H as O) (r : R F v d) (h : rdD as O d c) (s : (pdOf c).canLay0 = true) : Dp KK H v (pdOf c) := by
  rcases h with rfl | ⟨j, a, ds, rfl, h1, h2, rfl⟩
  · exact dp_of hd r s
  · cases r
    obtain ⟨xs, e, r⟩ := ow.lst h1 h2
    rw [pdOf] at s ⊢
    exact .lst (SqL.of e) (dps_of hd r s)
theorem rv_eqP (h1 : rdD as O d1 c1) (h2 : rdD as O d2 c2) (s1 : SeqAt.shaped (pdOf c1) = true) (s2 : SeqAt.shaped (pdOf c2) = true) (z : k as (.bl (PyData.eqv (pdOf c1) (pdOf c2))) O) : rv (rEqD KK) L as O d1 d2 k := fun F H x y hd ow r1 r2 Q q =>
  ⟨_, _, dp_rd hd ow r1 h1 (SeqAt.canLay_of_shaped s1), dp_rd hd ow r2 h2 (SeqAt.canLay_of_shaped s2), s1, s2, q F H as O _ _ (.refl ..) hd ow (.bl _) z⟩
end
/-- of depth n at most, its texts right -/
def okD (n : Nat) (d : D) : Prop := (pdOf d).canLay0 = true ∧ (pdOf d).depth ≤ n
theorem okD.more {n m : Nat} {d : D} (h : okD n d) (l : n ≤ m) : okD m d := ⟨h.1, Nat.le_trans h.2 l⟩
theorem okD.sh {n : Nat} {d : D} (h : okD n d) (l : n ≤ 64) : SeqAt.shaped (pdOf d) = true := by
  unfold SeqAt.shaped
  rw [h.1, decide_eq_true (Nat.le_trans h.2 l)]
  rfl
theorem okD_int {i : Int} : okD 0 (.int i) := ⟨by rw [pdOf]; rfl, by rw [pdOf]; exact Nat.le_refl _⟩
theorem okD_str {z : Str} (h : PyData.strOk z = true) : okD 0 (.str z) := ⟨by rw [pdOf]; exact h, by rw [pdOf]; exact Nat.le_refl _⟩
theorem okAll {n : Nat} : ∀ {ds : List D}, (∀ d ∈ ds, okD n d) → PyData.canLayAll0 (pdAll ds) = true ∧ PyData.depthAll (pdAll ds) ≤ n
  | [], _ => by rw [pdAll]; exact ⟨rfl, Nat.zero_le _⟩
  | d :: r, h => by
    obtain ⟨h1, h2⟩ := h d List.mem_cons_self
    obtain ⟨h3, h4⟩ := okAll (ds := r) fun x m => h x (List.mem_cons_of_mem _ m)
    rw [pdAll]
    refine ⟨by show (_ && _) = true; rw [h1, h3]; rfl, ?_⟩
    show max _ _ ≤ n
    omega
theorem okD_tup {n : Nat} {ds : List D} (h : ∀ d ∈ ds, okD n d) : okD (n + 1) (.tup ds) := by
  obtain ⟨h1, h2⟩ := okAll h
  unfold okD
  rw [pdOf]
  exact ⟨h1, Nat.succ_le_succ h2⟩
theorem okD_lst {n : Nat} {ds : List D} (h : ∀ d ∈ ds, okD n d) : okD (n + 1) (.lst ds) := by
  obtain ⟨h1, h2⟩ := okAll h
  unfold okD
  rw [pdOf]
  exact ⟨h1, Nat.succ_le_succ h2⟩
theorem okD_map {α : Type} {n : Nat} {f : α → D} {xs : List α} (h : ∀ x ∈ xs, okD n (f x)) : ∀ d ∈ xs.map f, okD n d := fun d m => by
  obtain ⟨x, mx, rfl⟩ := List.mem_map.mp m
  exact h x mx
mutual
theorem eqv_refl : ∀ p : PyData, p.canLay0 = true → PyData.eqv p p = true
  | .none, _ => rfl
  | .bool b, _ => by show (b == b) = true; simp
  | .int i, _ => by show (i == i) = true; simp
  | .str x, _ => by show (x == x) = true; simp
  | .list xs, h => eqvAll_refl xs h
  | .tuple xs, h => eqvAll_refl xs h
  | .dict _, h => by cases h
theorem eqvAll_refl : ∀ ps : List PyData, PyData.canLayAll0 ps = true → PyData.eqvAll ps ps = true
  | [], _ => rfl
  | x :: xs, h => by
    obtain ⟨h1, h2⟩ := Bool.and_eq_true_iff.mp h
    show (_ && _) = true
    rw [eqv_refl x h1, eqvAll_refl xs h2]
    rfl
end
theorem eqv_self {n : Nat} {d : D} (h : okD n d) : PyData.eqv (pdOf d) (pdOf d) = true := eqv_refl _ h.1
theorem eqv_lst (xs ys : List D) : PyData.eqv (pdOf (.lst xs)) (pdOf (.lst ys)) = PyData.eqvAll (pdAll xs) (pdAll ys) := by rw [pdOf, pdOf]; rfl
theorem eqv_lst0 (xs : List D) : PyData.eqv (pdOf (.lst xs)) (pdOf (.lst [])) = xs.isEmpty := by
  rw [eqv_lst]
  cases xs with
  | nil => rw [pdAll]; rfl
  | cons x r => rw [pdAll, pdAll]; rfl
section
variable {L : List Addr} {as : List Addr} {O : List D} {k : List Addr → D → List D → Prop} {d1 : D} {KK : PySem.W.Frag}
theorem rv_eqNil {n : Nat} {ds : List D} (h1 : rdD as O d1 (.lst ds)) (s1 : okD n (.lst ds)) (hn : n ≤ 64) (z : k as (.bl ds.isEmpty) O) : rv (rEqD KK) L as O d1 (.lst []) k :=
  rv_eqP h1 rd_k (s1.sh hn) ((okD_lst (n := 0) fun _ m => by cases m).sh (by decide)) (by rw [eqv_lst0]; exact z)
end
end DL
namespace DL
open PySem PySem.Spec PyProof.Rows L2 NdefX DLS
section
variable {χ : Xk} {L : List Addr} {as : List Addr} {ρ : DSt} {O : List D} {kA : List Addr → List D → List D → Prop} {te : TE} {KK : PySem.W.Frag}
theorem s_raiseS {K : Kt} {C : Addr} {f z : Str} (T : OexC KK C ∧ SupC KK C C ∧ ∀ g ∈ [f], PySem.W.findIn KK (.ref C) g = some none) (hz : z.length ≤ 100000) (h : dE χ te L as ρ O fun as d O => d = .str z ∧ χ.e L C [(f, .str z)] as ρ O) :
    dS χ (fun _ σ H => tMkO C (spI KK C [f] condS) [] (tCons te tNil) σ H fun cls d H' => χ.E cls d σ H') L as ρ O K :=
  s_raise T.1 T.2.1 T.2.2 (by simp) (w_cons (h.imp fun as d O ⟨ed, z'⟩ => w_nil ⟨rfl, fun F vs r => by
    subst ed
    cases r with
    | cons r1 r2 => cases r1; cases r2; exact ⟨z, rfl, hz⟩, by subst ed; exact z'⟩))
end
end DL
namespace DL
open PySem PySem.Spec PyProof.Rows L2 NdefX DLS
end DL
namespace DL
open PySem PySem.Spec PyProof.Rows L2
/-- the state, written anew -/
theorem s_eq {χ : Xk} {L : List Addr} {ts : TS} {K : Kt} {as as' : List Addr} {ρ ρ' : DSt} {O O' : List D} (h1 : as = as') (h2 : ρ = ρ') (h3 : O = O') (h : dS χ ts L as' ρ' O' K) : dS χ ts L as ρ O K := by
  subst h1
  subst h2
  subst h3
  exact h
theorem Rk.merge {F : Hp} : ∀ {kvs : List (Key × V)} {kds : List (Key × D)}, Rk F kvs kds → ∀ {acc : List (Key × V)} {acc' : List (Key × D)}, Rk F acc acc' → Rk F (kvs.foldl (fun acc kv => putK acc kv.1 kv.2) acc) (kds.foldl (fun acc kv => putDk acc kv.1 kv.2) acc')
  | _, _, .nil, _, _, q => q
  | _, _, .cons r t, _, _, q => Rk.merge t (q.put r)
end DL
set_option maxHeartbeats 2000000
namespace DL
open PySem PySem.Spec PyProof.Rows L2 CwR
theorem thnT {α : Type} {t : Sem α} {Q Q' : α → Shared → Prop} {M : Model} {A : Around} {E : Value → Shared → Prop} {s : Shared} (h0 : 1 ≤ s.toks) (h : wpAny M A t Q E s) (hQ : ∀ a s, 1 ≤ s.toks → Q a s → Q' a s) : wpAny M A t Q' E s :=
  wpAny_mono (PySem.wpAny_toks_of h0 h) (fun a s x => hQ a s x.1 x.2) fun _ _ x => x.2
/-- a store in a namespace gives a token out -/
theorem nsSet_tok {M : Model} {Γ : PySem.Ctx} {p : Pos} {s : Shared} {a : Addr} {x : Str} {v : Value} {Q : Unit → Pos → Shared → Prop} {E : Value → Pos → Shared → Prop} (h : Sem.wp M Γ (nsSet a x v) Q E p s) :
    Sem.wp M Γ (nsSet a x v) (fun u p' s' => 1 ≤ s'.toks ∧ Q u p' s') (fun e p' s' => 1 ≤ s'.toks ∧ E e p' s') p s := by
  unfold nsSet at h ⊢
  rw [Sem.wp_bind'] at h ⊢
  have e : ∀ (R : Int → Pos → Shared → Prop) (E : Value → Pos → Shared → Prop), Sem.wp M Γ (strHash x) R E p s = R (PyData.keyHash M.w.params x) p s := fun _ _ => rfl
  rw [e] at h ⊢
  rw [Sem.wp_bind', Sem.wp_cmd_mkText] at h ⊢
  exact Sem.wp_toks M Γ 1 _ _ _ p _ (Nat.succ_le_succ (Nat.zero_le _)) h
/-- behind a store under a local name a token is out -/
theorem assign_tok {M : Model} {A : Around} {s : Shared} {env : Env} {x : Str} {pos : Pos} {v : Value} {Q : Unit → Shared → Prop} {E : Value → Shared → Prop} (hl : env.kindOf x = some .local) (hk : env.scope.kind = .function) (h : wpAny M A (assign (.Name x pos) env v) Q E s) :
    wpAny M A (assign (.Name x pos) env v) (fun u s' => 1 ≤ s'.toks ∧ Q u s') (fun e s' => 1 ≤ s'.toks ∧ E e s') s := fun Γ p hΓ => by
  have h1 := h Γ p hΓ
  rw [PySem.assign_Name, Sem.wp_bind'] at h1 ⊢
  have e : ∀ (R : Unit → Pos → Shared → Prop) (E : Value → Pos → Shared → Prop), Sem.wp M Γ (standAt pos) R E p s = R () pos s := fun _ _ => rfl
  rw [e] at h1 ⊢
  rw [Sem.wp_bindName, storeName_local hl (by rw [hk]; rfl)] at h1 ⊢
  exact nsSet_tok h1
def PTT (X : Cx) (e : Expr) (t : TT) : Prop :=
  ∀ (pins : List (Addr × Obj)) (s : Shared) (σ : L2.St) (H : Hp) (Q : Bool → Hp → Prop), 1 ≤ s.toks → Inv X pins σ H s → t σ H Q → wpAny (model X.prog X.w) X.A (isTrue e X.env (eval e X.env)) (TP X pins σ Q) X.xe s
section
variable {X : Cx} {a b e o : Expr} {es : List Expr} {ta tb te to : TE} {t tA : TT} {u : TA} {pos p apos cpos : Pos}
theorem PTT.of (h : PT X e t) : PTT X e t := fun pins s σ H Q _ I q => h.run pins s σ H Q I q
theorem pet_ix {r : R2} (hr : IxR X r) (ha : PET X a ta) (hb : PET X b tb) (hs : PlainIx b) : PET X (.Subscript a b pos) (tOp r ta tb) := fun pins s σ H Q h0 I h =>
  Subscript_ (thnT h0 (ha pins s σ H _ h0 I h) fun v s1 k1 ⟨x, H1, I1, rx, q1⟩ => thn (hb pins s1 σ H1 _ k1 I1 q1) fun i s2 ⟨y, H2, I2, ry, q2⟩ => hr a b pins s2 σ H2 x y v i Q I2 rx ry q2 (hs _ _))
theorem pet_bm {T id : String} {name : Str} {r : V → List V → Hp → VK → Prop} (pa : PlainAttrs T) (slot : Slot T name id) (hty : typeOf (.builtin id) = pure (.type "method_descriptor")) (hm : MtR X id r) (ho : PE X o to) (ha : PAT X (e :: es) u)
    (hbase : attributeBase o name X.env (eval o X.env) = eval o X.env := by rfl)
    (hfew : ((backTo cpos (starEach (e :: es) X.env)).all (fun x => !x.1) && (backToKw cpos (keywordEach [] X.env)).all (fun x => x.1.isSome)
      && decide ((e :: es).length + ([] : List Keyword).length + (if ([] : List Keyword).isEmpty then 0 else 1) < 30)) = true := by rfl)
    (hline : (apos.endLine == cpos.line) = true := by rfl) (hs : starEach (e :: es) X.env = (false, eval e X.env) :: starEach es X.env := by rfl) (hplain : (backTo cpos (starEach es X.env)).any (·.1) = false := by rfl) :
    PET X (.Call (.Attribute o name apos) (e :: es) [] cpos) (tBM X.K T r to u) := by
  intro pins s σ H Q h0 I h
  refine wpAny_Call_method_late hbase hfew hline rfl (thnT h0 (ho.run pins s σ H _ I h) fun v s1 k1 ⟨x, H1, I1, r1, ty, q1⟩ => ?_)
  obtain ⟨h1, h2⟩ := tyV_is I1 r1 ty
  refine ⟨T, id, pa, slot, hty, h1, h2, ?_⟩
  have hA := ha cpos pins s1 σ H1 _ k1 I1 q1
  rw [hs] at hA ⊢
  refine Calls.callWith_builtin (by show (false || (backTo cpos (starEach es X.env)).any (·.1)) = false; rw [hplain] <;> rfl) (Calls.evalArgs_plain ?_)
  exact thn hA fun us s2 ⟨vs, H2, I2, r2, q2⟩ => hm pins s2 σ H2 x vs v us Q I2 r1 r2 q2
theorem ps_forR {tx : Str} {tpos : Pos} {iter : Expr} {body : List Stmt} {wi : TI} {g : TG} {tb : TS} (hp : PassesOwn (model X.prog X.w) X.A X.env X.xe) (hc : X.calm = true) (htl : X.env.kindOf tx = some .local) (hi : PI X (.Name tx tpos) iter wi) (hg : PG X (.Name tx tpos) g) (hb : PSsT X body tb)
    (hs : ∀ x, foldedSetIterable iter X.env x = pure x := by intro _; rfl) : PS X (.For (.Name tx tpos) iter body [] pos) (tFor wi g tb) := by
  refine ⟨fun pins s σ H D I h => ?_⟩
  refine wpAny_For (thn (hi.run pins s σ H _ I h) fun v s1 h1 => thn h1 fun itv s2 h2 => ?_) hs
  obtain ⟨it, fp, tn, J, H2, ev, I2, T, st2, f2, W, ⟨m0, w0⟩, turn⟩ := h2
  subst ev
  have stat : ∀ {H' : Hp}, (∀ b ∈ fp, H' b = none) → ∀ b ∈ fp, FpOk X pins H' b := fun hn b hb => ⟨hn b hb, (f2 b hb).2⟩
  refine codeAny_forLoop_any (fun n s' => ∃ i σ' H', Inv X pins σ' H' s' ∧ tn i s'.heap ∧ (∀ b ∈ fp, H' b = none) ∧ W i n σ' H') ?_ m0 ⟨0, σ, H2, I2, st2, fun b hb => (f2 b hb).1, w0⟩
  rintro n s3 ⟨i, σ3, H3, I3, st3, fr3, w3⟩
  rcases turn i n σ3 H3 w3 with ⟨stop, qn⟩ | ⟨go, N, hN, step⟩
  · refine wpAny_passesOwn hp (thn (T.done X rfl rfl rfl hc i pins s3 σ3 H3 X.xe I3 (stat fr3) st3 stop) fun r s4 ⟨hr, I4⟩ => ?_)
    subst hr
    exact wpAny_execs_nil ⟨σ3, H3, I4, qn⟩
  · refine wpAny_passesOwn hp (thn (T.item X rfl rfl rfl hc i pins s3 σ3 H3 X.xe I3 (stat fr3) st3 go) fun r s4 ⟨v, hr, h4⟩ => ?_)
    subst hr
    refine wpAny_passesOwn hp (thn h4 fun _ s5 ⟨x, H5, I5, r5, y5, st5, fr5⟩ => ?_)
    have I5' := I5.pinned (stat fr5) (T.obj _ _ st5)
    refine wpAny_passesOwn hp (wpAny_mono (assign_tok htl I.ok.kind (hg.run _ s5 σ3 H5 x v _ I5' r5 (step x H5 y5))) (fun _ s6 ⟨k6, σ6, H6, I6, q6⟩ => ?_) fun _ _ z => z.2)
    refine wpAny_passesOwn hp (thn (hb _ s6 σ6 H6 _ k6 I6 q6) fun f s7 q7 => ?_)
    have again : ∀ {σ7 : L2.St} {H7 : Hp}, Inv X (pins ++ pinsAt fp s5.heap) σ7 H7 s7 → N σ7 H7 → ∃ m, m < n ∧ ∃ i σ' H', Inv X pins σ' H' s7 ∧ tn i s7.heap ∧ (∀ b ∈ fp, H' b = none) ∧ W i m σ' H' := fun {σ7 H7} I7 n7 => by
      obtain ⟨m', hm, w7⟩ := hN σ7 H7 n7
      have pin' : ∀ b ∈ fp, ∀ o, s5.heap.get? b = some o → s7.heap.get? b = some o ∧ H7 b = none := fun b hb o eo =>
        let z := I7.pin (b, o) (List.mem_append_right _ (List.mem_append_right _ (mem_pinsAt hb eo)))
        ⟨z.1, z.2.1⟩
      refine ⟨m', hm, i + 1, σ7, H7, I7.unpinned, T.keep _ _ _ st5 fun b hb o eo => (pin' b hb o eo).1, fun b hb => ?_, w7⟩
      obtain ⟨o, eo, _⟩ := T.obj _ _ st5 b hb
      exact (pin' b hb o eo).2
    cases f with
    | next => obtain ⟨σ7, H7, I7, n7⟩ := q7; exact again I7 n7
    | cont => obtain ⟨σ7, H7, I7, n7⟩ := q7; exact again I7 n7
    | brk => obtain ⟨σ7, H7, I7, q7⟩ := q7; exact ⟨σ7, H7, I7.unpinned, q7⟩
    | ret v => obtain ⟨x7, σ7, H7, I7, r7, q7⟩ := q7; exact ⟨x7, σ7, H7, I7.unpinned, r7, q7⟩
end
end DL
namespace DL
open PySem PySem.Spec PyProof.Rows L2
end DL
namespace DL
open PySem PySem.Spec PyProof.Rows L2
end DL
namespace DL
open PySem PySem.Spec PyProof.Rows L2 NdefX DLS
end DL
namespace DL
open PySem PySem.Spec PyProof.Rows L2
end DL
namespace DL
open PySem PySem.Spec PyProof.Rows L2
end DL
namespace DL
open PySem PySem.Spec PyProof.Rows L2
def rNotInD (K : PySem.W.Frag) : R2 := fun x y H Q => ∃ p xs d ds, y = .ref p ∧ SqL K H p xs ∧ Dp K H x d ∧ DpAll K H xs ds ∧ (d.canLay0 = true ∧ d.depth ≤ 63) ∧ (∀ e ∈ ds, e.canLay0 = true) ∧ Q (.bl (!(ds.any fun e => PyData.eqv e d))) H
theorem reads_all {X : Cx} {pins : List (Addr × Obj)} {s : Shared} {σ : L2.St} {H : Hp} (I : L2.Inv X pins σ H s) : ∀ {xs : List V} {us : List Value} {ds : List PyData}, L2.Vals xs us → DpAll X.K H xs ds → ∀ (j : Nat) (u : Value), us[j]? = some u → ∃ e, ds[j]? = some e ∧ ∃ bs, Reads s.heap u e bs
  | _, _, _, .nil, .nil, j, u, h => by cases h
  | x :: xs, v :: us, d :: ds, .cons r t, .cons hd hds, 0, u, h => by
    cases h
    obtain ⟨bs, r1⟩ := Dp.reads I d x _ hd r
    exact ⟨d, rfl, bs, r1⟩
  | x :: xs, v :: us, d :: ds, .cons r t, .cons hd hds, j + 1, u, h => reads_all I t hds j u h
theorem len_all {K : PySem.W.Frag} {H : Hp} : ∀ {xs : List V} {us : List Value} {ds : List PyData}, L2.Vals xs us → DpAll K H xs ds → us.length = ds.length
  | _, _, _, .nil, .nil => rfl
  | _ :: _, _ :: _, _ :: _, .cons _ t, .cons _ hds => congrArg (· + 1) (len_all t hds)
open Classical in
theorem op_notInD {X : Cx} (hu : X.A.units + 64 < cLine) : OpR X (compareOp .NotIn) (rNotInD X.K) := by
  intro pins s σ H x y v u Q I rx ry h
  obtain ⟨p, xs, d, ds, rfl, hq, hd, hds, hc, hcs, q⟩ := h
  cases ry
  obtain ⟨its, r, pl, hz⟩ := I.list hq
  obtain ⟨as, r1⟩ := Dp.reads I d x v hd rx
  have hrd := reads_all I r hds
  have hln := len_all r hds
  have hEq : ∀ (w : Value) (e : PyData) (bs : List Addr), Reads s.heap w e bs → e.canLay0 = true → SeqAt.EqAt X.A.in1 s w v (PyData.eqv e d) := fun w e bs rw he => SeqAt.eqAt_reads e d X.A.in1 s w v bs as rw r1 he hc.1 (by
    have h2 : min e.depth d.depth ≤ d.depth := Nat.min_le_right _ _
    have h3 := hc.2
    have h4 : X.A.in1.units = X.A.units + 1 := rfl
    omega)
  refine SeqAt.notIn_listAt (fun w => decide (∃ (j : Nat) (e : PyData), its[j]? = some w ∧ ds[j]? = some e ∧ PyData.eqv e d = true)) pl.isList (fun w hw => ?_) ⟨.bl _, H, I, rfl, ?_⟩
  · have hw : w ∈ its := by simpa using hw
    by_cases hex : ∃ (j : Nat) (e : PyData), its[j]? = some w ∧ ds[j]? = some e ∧ PyData.eqv e d = true
    · rw [decide_eq_true hex]
      obtain ⟨j, e, h1, h2, h3⟩ := hex
      obtain ⟨e', h4, bs, rd⟩ := hrd j w h1
      rw [h2] at h4
      cases h4
      rw [← h3]
      exact hEq w e bs rd (hcs e (List.mem_of_getElem? h2))
    · rw [decide_eq_false hex]
      obtain ⟨j, hj⟩ := List.mem_iff_getElem?.mp hw
      obtain ⟨e, h2, bs, rd⟩ := hrd j w hj
      have h3 : PyData.eqv e d = false := by
        cases hh : PyData.eqv e d with
        | false => rfl
        | true => exact absurd ⟨j, e, hj, h2, hh⟩ hex
      rw [← h3]
      exact hEq w e bs rd (hcs e (List.mem_of_getElem? h2))
  · have he : (its.toArray.any fun w => decide (∃ (j : Nat) (e : PyData), its[j]? = some w ∧ ds[j]? = some e ∧ PyData.eqv e d = true)) = ds.any fun e => PyData.eqv e d := by
      rw [show (its.toArray.any fun w => decide (∃ (j : Nat) (e : PyData), its[j]? = some w ∧ ds[j]? = some e ∧ PyData.eqv e d = true)) = its.any fun w => decide (∃ (j : Nat) (e : PyData), its[j]? = some w ∧ ds[j]? = some e ∧ PyData.eqv e d = true) by simp]
      apply Bool.eq_iff_iff.mpr
      rw [List.any_eq_true, List.any_eq_true]
      constructor
      · rintro ⟨w, _, hw⟩
        obtain ⟨j, e, _, h2, h3⟩ := of_decide_eq_true hw
        exact ⟨e, List.mem_of_getElem? h2, h3⟩
      · rintro ⟨e, me, h3⟩
        obtain ⟨j, hj⟩ := List.mem_iff_getElem?.mp me
        have hjl := (List.getElem?_eq_some_iff.mp hj).1
        have hw : its[j]? = some (its[j]'(by omega)) := List.getElem?_eq_getElem (by omega)
        exact ⟨_, List.getElem_mem (by omega), decide_eq_true ⟨j, e, hw, hj, h3⟩⟩
    rw [he]
    exact q
section
variable {L : List Addr} {as : List Addr} {O : List D} {k : List Addr → D → List D → Prop} {KK : PySem.W.Frag}
/-- a value that lies in an owned list -/
theorem rv_notInD {d d2 : D} {ds : List D} {n : Nat} (hr : rdD as O d2 (.lst ds)) (hd : okD n d) (hn : n ≤ 63) (hs : ∀ x ∈ ds, (pdOf x).canLay0 = true) (hm : d ∈ ds) (z : k as (.bl false) O) : rv (rNotInD KK) L as O d d2 k := fun F H x y hdd ow r1 r2 Q q => by
  have h1 : Dp KK H x (pdOf d) := dp_of hdd r1 hd.1
  have hcan : ∀ {ds : List D}, (∀ x ∈ ds, (pdOf x).canLay0 = true) → PyData.canLayAll0 (pdAll ds) = true := fun {ds} => by
    induction ds with
    | nil => intro _; rw [pdAll]; rfl
    | cons a t ih =>
      intro h
      rw [pdAll]
      show (_ && _) = true
      rw [h a List.mem_cons_self, ih fun x m => h x (List.mem_cons_of_mem _ m)]
      rfl
  have h2 : ∃ p xs, y = .ref p ∧ SqL KK H p xs ∧ DpAll KK H xs (pdAll ds) := by
    rcases hr with rfl | ⟨j, a, es, rfl, g1, g2, e⟩
    · cases r2 with
      | lst e r => exact ⟨_, _, rfl, SqL.of (hdd.lst e), dps_of hdd r (hcan hs)⟩
    · cases e
      cases r2
      obtain ⟨xs, e, r⟩ := ow.lst g1 g2
      exact ⟨_, _, rfl, SqL.of e, dps_of hdd r (hcan hs)⟩
  obtain ⟨p, xs, rfl, h3, h4⟩ := h2
  have hall : ∀ {ds : List D} {e : PyData}, e ∈ pdAll ds → ∃ x ∈ ds, e = pdOf x := fun {ds} => by
    induction ds with
    | nil => intro e m; rw [pdAll] at m; cases m
    | cons a t ih =>
      intro e m
      rw [pdAll] at m
      rcases List.mem_cons.mp m with rfl | m
      · exact ⟨a, List.mem_cons_self, rfl⟩
      · obtain ⟨x, mx, e⟩ := ih m
        exact ⟨x, List.mem_cons_of_mem _ mx, e⟩
  have hmem : ∀ {ds : List D}, d ∈ ds → pdOf d ∈ pdAll ds := fun {ds} => by
    induction ds with
    | nil => intro m; cases m
    | cons a t ih =>
      intro m
      rw [pdAll]
      rcases List.mem_cons.mp m with rfl | m
      · exact List.mem_cons_self
      · exact List.mem_cons_of_mem _ (ih m)
  refine ⟨p, xs, pdOf d, pdAll ds, rfl, h3, h1, h4, ⟨hd.1, Nat.le_trans hd.2 hn⟩, fun e m => ?_, ?_⟩
  · obtain ⟨x, mx, rfl⟩ := hall m
    exact hs x mx
  · have hT : ((pdAll ds).any fun e => PyData.eqv e (pdOf d)) = true := List.any_eq_true.mpr ⟨pdOf d, hmem hm, eqv_self hd⟩
    rw [hT]
    exact q F H as O _ _ (.refl ..) hdd ow (.bl _) z
end
end DL
namespace DL
open PySem PySem.Spec PyProof.Rows L2
theorem law_start {K : PySem.W.Frag} {C : Ct} {H : Hp} {a : Addr} {ns : List Int} (hO : Only H) (hS : SqL K H a (ns.map V.int))
    (hC : ∀ d, lstR [] [] K d (ns.map D.int) → C [] [] [d] [] (fun _ d _ => d = .bl true) (fun _ _ _ _ _ => False)) : spC C [.ref a] H (fun v _ => v = .bl true) fun _ _ _ => False := by
  have fin : ∀ {F' : Hp} {v : V} {d : D}, R F' v d → d = .bl true → v = .bl true := fun r e => by
    subst e
    cases r
    rfl
  rcases hS with hS | hS
  · have hz : ∃ ob, H a = some (.frz ob (.lst (ns.map V.int))) := by
      rcases hS with h | ⟨ob, h⟩
      · rcases hO a with z | ⟨o, xs, z⟩
        · rw [h] at z; cases z
        · rw [h] at z; cases z
      · exact ⟨ob, h⟩
    obtain ⟨ob, h⟩ := hz
    refine ⟨[], fun b => if b = a then some (.frz ob (.lst (ns.map V.int))) else none, [], [.zst (ns.map D.int)], [], _, _, ⟨fun b o e => ?_, fun b m => (by cases m)⟩, ⟨List.nodup_nil, rfl, fun i b d h1 => by simp at h1⟩, .cons (.zst (o := ob) (if_pos rfl) (rs_ints ns)) .nil, hC _ (.inr (.inl rfl)), ?_, ?_⟩
    · by_cases q : b = a
      · subst q
        rw [if_pos rfl] at e
        cases e
        exact .inl ⟨fun m => (by cases m), h⟩
      · rw [if_neg q] at e; cases e
    · exact fun F' H' as' O' v d _ _ _ r e => fin r e
    · exact fun F' H' L' as' O' cls d fds _ _ _ _ z => z
  · refine ⟨[], fun _ => none, [], [.zkl K (ns.map D.int)], [], _, _, ⟨fun b o e => (by cases e), fun b m => (by cases m)⟩, ⟨List.nodup_nil, rfl, fun i b d h1 => by simp at h1⟩, .cons (.zkl (fun H => .inr hS) (rs_ints ns)) .nil, hC _ (.inr (.inr rfl)), ?_, ?_⟩
    · exact fun F' H' as' O' v d _ _ _ r e => fin r e
    · exact fun F' H' L' as' O' cls d fds _ _ _ _ z => z
theorem cx_none {P : Program} {w : World} {H : Hp} {s : Shared} {e : Value} {s' : Shared} (c : L2.CX P w [] H s (fun _ _ _ => False) e s') : False := by
  obtain ⟨_, _, _, _, _, _, _, _, _, _, _, _, z⟩ := c
  exact z
/-- a law, where what may leave it depends on the world -/
theorem walk_ofW {l : PySem.W.OpenLaw} {n k : Nat} {q : Program} {loose : List Str} {XP : (Str → Option Value) → Heap → Prop} {YP : World → Heap → Prop} {d : DefRec} {CX : World → CXT} {x : Str}
    (hn : l.most = some n) (hn2 : n ≤ sizeLine) (hdf : d.params.defaults = []) (hr : Room k callerA)
    (F : ∀ (w : World) (mg : Str → Option Value) (fa : Addr) (h : Heap), YP w h → h.Ns mainGlobals mg → mg d.name = some (.ref fa) →
      ∃ (K : PySem.W.Frag) (fd : FuncData) (sp : Sp), K.In h ∧ (∀ (s : Shared) (u : Value), BindsTo s fd ⟨[u], []⟩ [(x, u)]) ∧
        (∀ (H : Hp) (a : Addr) (ns : List Int), ns.length ≤ n → Only H → SqL K H a (ns.map V.int) → sp [.ref a] H (fun v _ => v = .bl true) fun _ _ _ => False) ∧
        ∀ base : Heap, K.In base → base.Ns mainGlobals mg → FnOk l.prog w K mg base (CX w) k fa fd [x] sp)
    (hCX : ∀ (w : World) (H : Hp) (s : Shared) (e : Value) (s' : Shared), CX w [] H s (fun _ _ _ => False) e s' → False) :
    PySem.W.WalkO q loose XP YP l.row.toRowW d [] (fun f vs => PySem.call f vs) := by
  refine Att.attach_call hn hdf fun w s₀ s₁ mg mb fa o pm cd doc a vs ns G Y ho hd hcd hmg hobj hints hlen hg => ?_
  obtain ⟨K, fd, sp, KX, hb, hsp, hF⟩ := F w mg fa _ Y G.T.g hmg
  exact law_call KX G.T.g G.T.b G.T.builtins G.T.nolimit hg hobj hints (Nat.le_trans hlen hn2) hr hF hb (fun H hO hS => hsp H a ns hlen hO hS) fun H e s' => hCX w H s₁ e s'
end DL
namespace MN
open PySem L2 DL
abbrev tl (z : Str) : List Nat := z.cps.toList
def letS : Str := "ABCDEFGHIJKLMNOPQRSTUVWXYZabcdefghijklmnopqrstuvwxyz"
def digS : Str := "0123456789"
def alnS : Str := "abcdefghijklmnopqrstuvwxyzABCDEFGHIJKLMNOPQRSTUVWXYZ0123456789"
def okc (c : Nat) : Bool := decide (c ∈ tl letS) || decide (c ∈ tl digS)
/-- a letter, then letters and digits -/
def nameL : List Nat → Bool
  | [] => false
  | c :: r => decide (c ∈ tl letS) && r.all okc
def isName (z : Str) : Bool := nameL (tl z) && decide (z.length ≤ 24)
theorem aln_ok : ∀ i, i < 62 → ∃ c, (tl alnS)[i]? = some c ∧ okc c = true ∧ c < 0x110000 := by decide +kernel
theorem let_ok : ∀ i, i < 52 → ∃ c, (tl alnS)[i]? = some c ∧ decide (c ∈ tl letS) = true ∧ c < 0x110000 := by decide +kernel
theorem let_okc {c : Nat} (h : decide (c ∈ tl letS) = true) : okc c = true := by unfold okc; rw [h]; rfl
theorem aln_at {n : Int} {m : Int} (hm : 0 < m) (h62 : m ≤ 62) : ∃ c, atI (tl alnS) (n % m) = some c ∧ okc c = true ∧ c < 0x110000 := by
  have h0 := Int.emod_nonneg n (Int.ne_of_gt hm)
  have h1 := Int.emod_lt_of_pos n hm
  obtain ⟨c, e, h⟩ := aln_ok (n % m).toNat (by omega)
  exact ⟨c, by rw [show n % m = ((n % m).toNat : Int) by omega]; exact atI_nat e, h⟩
theorem let_at {n : Int} : ∃ c, atI (tl alnS) (n % 52) = some c ∧ decide (c ∈ tl letS) = true ∧ c < 0x110000 := by
  have h0 := Int.emod_nonneg n (show (52 : Int) ≠ 0 by decide)
  have h1 := Int.emod_lt_of_pos n (show (0 : Int) < 52 by decide)
  obtain ⟨c, e, h⟩ := let_ok (n % 52).toNat (by omega)
  exact ⟨c, by rw [show n % 52 = ((n % 52).toNat : Int) by omega]; exact atI_nat e, h⟩
theorem tl_app (x y : Str) : tl (x ++ y) = tl x ++ tl y := TL.tl_append x y
theorem len_tl (x : Str) : x.length = (tl x).length := TL.len_tl x
theorem nameL_app {l m : List Nat} (h : nameL l = true) (hm : m.all okc = true) : nameL (l ++ m) = true := by
  cases l with
  | nil => cases h
  | cons c r =>
    simp only [nameL, Bool.and_eq_true] at h
    show (decide (c ∈ tl letS) && (r ++ m).all okc) = true
    rw [h.1, List.all_append, h.2, hm]
    rfl
/-- n times the sign x -/
def exs (n : Nat) : Str := ⟨(List.replicate n 120).toArray⟩
theorem tl_exs (n : Nat) : tl (exs n) = List.replicate n 120 := by simp [exs, tl]
theorem exs_succ (b : Str) (n : Nat) : (b ++ exs n) ++ ("x" : Str) = b ++ exs (n + 1) := by
  apply TL.ext_tl
  show tl _ = tl _
  rw [tl_app, tl_app, tl_app, tl_exs, tl_exs, List.replicate_succ', List.append_assoc]
  rfl
theorem exs_zero (b : Str) : b ++ exs 0 = b := by
  apply TL.ext_tl
  show tl _ = tl _
  rw [tl_app, tl_exs]
  simp
theorem exs_inj (b : Str) {i j : Nat} (h : b ++ exs i = b ++ exs j) : i = j := by
  have := congrArg (fun z => (tl z).length) h
  simp only [tl_app, tl_exs, List.length_append, List.length_replicate] at this
  omega
theorem pigeon {α : Type} [BEq α] [LawfulBEq α] {f : Nat → α} (inj : ∀ i j, f i = f j → i = j) : ∀ (n : Nat) (zs : List α), (∀ j, j < n → f j ∈ zs) → n ≤ zs.length
  | 0, _, _ => Nat.zero_le _
  | n + 1, zs, h => by
    have h1 : f n ∈ zs := h n (Nat.lt_succ_self n)
    have := pigeon inj n (zs.erase (f n)) fun j hj => (List.mem_erase_of_ne (fun e => by have := inj _ _ e; omega)).mpr (h j (by omega))
    rw [List.length_erase_of_mem h1] at this
    have : 0 < zs.length := List.length_pos_of_mem h1
    omega
end MN
namespace MR
open PySem L2 DL
def byteS : Str := "byte"
/-- a part as it is written: its name, its kind (or "byte"), its price -/
structure Part where
  nm : Str
  inn : Str
  pr : Option Int
def dPart (p : Part) : D := .tup (.str p.nm :: .str p.inn :: match p.pr with
  | none => []
  | some i => [.int i])
structure Row where
  kind : Str
  maker : Str
  parts : List Part
def dRow (r : Row) : D := .tup [.str r.kind, .str r.maker, .tup (r.parts.map dPart)]
/-- how many tree parts -/
def trees (ps : List Part) : Nat := (ps.filter fun p => p.pr.isSome).length
def Part.ok (nms : List Str) (p : Part) : Prop := (p.inn = byteS ∧ p.pr = none) ∨ (p.inn ∈ nms ∧ ∃ i : Int, p.pr = some i ∧ 1 ≤ i ∧ i ≤ 1000)
/-- what the law draws for a maker -/
structure Drawn (nms : List Str) (b : Bool) (ps : List Part) : Prop where
  len : ps.length ≤ 4
  nd : (ps.map (·.nm)).Nodup
  name : ∀ p ∈ ps, MN.nameL (MN.tl p.nm) = true ∧ p.nm.length ≤ 8
  ok : ∀ p ∈ ps, p.ok nms
  few : b = true → trees ps ≤ 2
theorem Drawn.nil {nms : List Str} {b : Bool} : Drawn nms b [] where
  len := by simp
  nd := by simp
  name := by simp
  ok := by simp
  few := fun _ => by simp [trees]
theorem trees_app (ps : List Part) (p : Part) : trees (ps ++ [p]) = trees ps + if p.pr.isSome then 1 else 0 := by
  unfold trees
  rw [List.filter_append, List.length_append]
  cases h : p.pr <;> simp [h]
theorem Drawn.snoc {nms : List Str} {b : Bool} {ps : List Part} {p : Part} (h : Drawn nms b ps) (hl : ps.length < 4) (h1 : MN.nameL (MN.tl p.nm) = true) (h2 : p.nm.length ≤ 8) (h3 : p.nm ∉ ps.map (·.nm)) (h4 : p.ok nms) (h5 : b = true → p.pr.isSome = true → trees ps < 2) : Drawn nms b (ps ++ [p]) where
  len := by rw [List.length_append]; show ps.length + 1 ≤ 4; omega
  nd := by
    rw [List.map_append, List.nodup_append]
    refine ⟨h.nd, by simp, fun a m c m' z => ?_⟩
    simp at m'
    subst m'
    subst z
    exact h3 m
  name := fun q m => by
    rcases List.mem_append.mp m with m | m
    · exact h.name q m
    · simp at m; subst m; exact ⟨h1, h2⟩
  ok := fun q m => by
    rcases List.mem_append.mp m with m | m
    · exact h.ok q m
    · simp at m; subst m; exact h4
  few := fun e => by
    rw [trees_app]
    have := h.few e
    cases z : p.pr.isSome with
    | false => simpa [z] using this
    | true => have := h5 e z; simp; omega
theorem Drawn.wide {nms ms : List Str} {b : Bool} {ps : List Part} (h : Drawn nms b ps) (s : ∀ x ∈ nms, x ∈ ms) : Drawn ms b ps :=
  ⟨h.len, h.nd, h.name, fun p m => (h.ok p m).imp id fun ⟨z, y⟩ => ⟨s _ z, y⟩, h.few⟩
/-- the names of kinds -/
structure Names (nms : List Str) : Prop where
  nd : nms.Nodup
  name : ∀ z ∈ nms, MN.nameL (MN.tl z) = true ∧ z.length ≤ 8
  byte : byteS ∉ nms
/-- the rows so far: of kinds below k, at most n -/
structure Some_ (nms : List Str) (n : Nat) (rows : List Row) : Prop where
  len : rows.length ≤ n
  nd : (rows.map (·.maker)).Nodup
  maker : ∀ r ∈ rows, MN.nameL (MN.tl r.maker) = true ∧ r.maker.length ≤ 14
  kind : ∀ r ∈ rows, r.kind ∈ nms
  parts : ∀ r ∈ rows, ∃ b, Drawn nms b r.parts
/-- the k-th kind can be made of later ones -/
def Base (nms : List Str) (rows : List Row) (k : Nat) : Prop := ∃ r ∈ rows, nms[k]? = some r.kind ∧ ∀ p ∈ r.parts, p.inn = byteS ∨ p.inn ∈ nms.drop (k + 1)
theorem Base.more {nms : List Str} {rows : List Row} {k : Nat} (h : Base nms rows k) (r : Row) : Base nms (rows ++ [r]) k := by
  obtain ⟨x, m, z⟩ := h
  exact ⟨x, List.mem_append_left _ m, z⟩
theorem Some_.nil {nms : List Str} {n : Nat} : Some_ nms n [] where
  len := by simp
  nd := by simp
  maker := by simp
  kind := by simp
  parts := by simp
theorem Some_.snoc {nms : List Str} {n : Nat} {rows : List Row} {r : Row} (h : Some_ nms n rows) (h1 : MN.nameL (MN.tl r.maker) = true ∧ r.maker.length ≤ 14) (h2 : r.maker ∉ rows.map (·.maker)) (h3 : r.kind ∈ nms) (h4 : ∃ b, Drawn nms b r.parts) : Some_ nms (n + 1) (rows ++ [r]) where
  len := by rw [List.length_append]; have := h.len; show rows.length + 1 ≤ _; omega
  nd := by
    rw [List.map_append, List.nodup_append]
    refine ⟨h.nd, by simp, fun a m c m' z => ?_⟩
    simp at m'
    subst m'
    subst z
    exact h2 m
  maker := fun q m => by
    rcases List.mem_append.mp m with m | m
    · exact h.maker q m
    · simp at m; subst m; exact h1
  kind := fun q m => by
    rcases List.mem_append.mp m with m | m
    · exact h.kind q m
    · simp at m; subst m; exact h3
  parts := fun q m => by
    rcases List.mem_append.mp m with m | m
    · exact h.parts q m
    · simp at m; subst m; exact h4
theorem Some_.le {nms : List Str} {n m : Nat} {rows : List Row} (h : Some_ nms n rows) (l : n ≤ m) : Some_ nms m rows := { h with len := Nat.le_trans h.len l }
/-- the rows of a whole table -/
structure SomeX (nms : List Str) (rows : List Row) : Prop where
  len : rows.length ≤ 10
  nd : (rows.map (·.maker)).Nodup
  maker : ∀ r ∈ rows, MN.nameL (MN.tl r.maker) = true ∧ r.maker.length ≤ 24
  kind : ∀ r ∈ rows, r.kind ∈ nms
  parts : ∀ r ∈ rows, ∃ b, Drawn nms b r.parts
theorem Some_.x {nms : List Str} {n : Nat} {rows : List Row} (h : Some_ nms n rows) (l : n ≤ 10) : SomeX nms rows := ⟨Nat.le_trans h.len l, h.nd, fun r m => ⟨(h.maker r m).1, Nat.le_trans (h.maker r m).2 (by decide)⟩, h.kind, h.parts⟩
/-- a whole table -/
structure Table (nms : List Str) (rows : List Row) : Prop where
  names : Names nms
  few : nms.length ≤ 3
  ne : rows ≠ []
  some : SomeX nms rows
  base : ∀ k, k < nms.length → Base nms rows k
theorem Table.perm {nms : List Str} {rows rows' : List Row} (h : Table nms rows) (p : rows'.Perm rows) : Table nms rows' where
  names := h.names
  few := h.few
  ne := fun e => h.ne (by subst e; exact p.symm.eq_nil)
  some := ⟨by rw [p.length_eq]; exact h.some.len, (p.map _).nodup_iff.mpr h.some.nd, fun r m => h.some.maker r (p.mem_iff.mp m), fun r m => h.some.kind r (p.mem_iff.mp m), fun r m => h.some.parts r (p.mem_iff.mp m)⟩
  base := fun k hk => by
    obtain ⟨r, m, z⟩ := h.base k hk
    exact ⟨r, p.mem_iff.mpr m, z⟩
end MR
namespace MT
open PySem L2 DL
/-- the attributes of a finished table -/
def tabF (t f n o s : D) : List (Str × D) := [("table", t), ("family", f), ("names", n), ("order", o), ("smallest", s)]
section
variable {t f n o s : D}
theorem tab_family : (tabF t f n o s).lookup ("family" : Str) = some f := by rfl
end
/-- an entry: kind, tag, parts -/
def dEnt (kind : Str) (tag : Nat) (ps : List MR.Part) : D := .tup [.str kind, .int (tag : Nat), .tup (ps.map MR.dPart)]
/-- self, a finished table with the entries tds -/
def Self (K : PySem.W.Frag) (d : D) (tds : List (Key × D)) : Prop := ∃ t f n o s, d = .ins (He.ga K "Kinds") (tabF t f n o s) ∧ dkOf [] [] t tds
theorem dk_wide {as : List Addr} {O : List D} {d : D} {kds : List (Key × D)} (h : dkOf [] [] d kds) : dkOf as O d kds := by
  rcases h with h | ⟨j, a, _, h, _⟩
  · exact .inl h
  · simp at h
end MT
namespace ML
open PySem L2 DL
theorem valD_cons {k j : Key} {d : D} {r : List (Key × D)} : valD ((j, d) :: r) k = if j = k then some d else valD r k := by
  unfold valD
  rw [List.find?_cons]
  by_cases h : j = k
  · rw [if_pos h]; simp [h]
  · rw [if_neg h]; simp [h]
theorem valD_app {k : Key} : ∀ {a b : List (Key × D)}, valD (a ++ b) k = (valD a k).or (valD b k)
  | [], b => by simp [valD]
  | (j, d) :: a, b => by
    rw [List.cons_append, valD_cons, valD_cons, valD_app (a := a)]
    by_cases h : j = k
    · rw [if_pos h, if_pos h]; rfl
    · rw [if_neg h, if_neg h]
theorem any_valD {k : Key} : ∀ {a : List (Key × D)}, (a.any fun kv => decide (kv.1 = k)) = (valD a k).isSome
  | [] => rfl
  | (j, d) :: a => by
    rw [List.any_cons, valD_cons, any_valD (a := a)]
    by_cases h : j = k
    · rw [if_pos h]; simp [h]
    · rw [if_neg h]; simp [h]
theorem valD_map {k j : Key} {y : D} : ∀ {a : List (Key × D)}, valD (a.map fun kv => if kv.1 = k then (kv.1, y) else kv) j = (valD a j).map fun d => if j = k then y else d
  | [] => rfl
  | (i, d) :: a => by
    rw [List.map_cons, valD_cons]
    by_cases h : i = k
    · rw [if_pos h, valD_cons, valD_map (a := a)]
      by_cases h2 : i = j
      · rw [if_pos h2, if_pos h2]; simp [← h2, h]
      · rw [if_neg h2, if_neg h2]
    · rw [if_neg h, valD_cons, valD_map (a := a)]
      by_cases h2 : i = j
      · rw [if_pos h2, if_pos h2]; simp [← h2, h]
      · rw [if_neg h2, if_neg h2]
theorem valD_put {k j : Key} {y : D} {a : List (Key × D)} : valD (putDk a k y) j = if j = k then some y else valD a j := by
  unfold putDk
  rw [any_valD]
  by_cases h : (valD a k).isSome = true
  · rw [if_pos h, valD_map]
    by_cases h2 : j = k
    · subst h2
      rw [if_pos rfl]
      cases e : valD a j with
      | none => rw [e] at h; cases h
      | some d => simp
    · rw [if_neg h2]
      cases valD a j <;> simp [h2]
  · rw [if_neg h, valD_app, valD_cons]
    have hn : valD a k = none := by
      cases e : valD a k with
      | none => rfl
      | some d => rw [e] at h; exact absurd rfl h
    by_cases h2 : j = k
    · subst h2
      rw [if_pos rfl, hn, if_pos rfl]
      rfl
    · rw [if_neg h2, if_neg (fun z => h2 z.symm)]
      cases valD a j <;> rfl
theorem mem_put {k : Key} {y : D} {a : List (Key × D)} {kv : Key × D} (h : kv ∈ putDk a k y) : kv.2 = y ∨ kv ∈ a := by
  unfold putDk at h
  by_cases z : (a.any fun kv => decide (kv.1 = k)) = true
  · rw [if_pos z] at h
    obtain ⟨u, m, e⟩ := List.mem_map.mp h
    by_cases q : u.1 = k
    · rw [if_pos q] at e; subst e; exact .inl rfl
    · rw [if_neg q] at e; subst e; exact .inr m
  · rw [if_neg z] at h
    rcases List.mem_append.mp h with m | m
    · exact .inr m
    · simp at m; subst m; exact .inl rfl
theorem len_put {k : Key} {y : D} {a : List (Key × D)} : (putDk a k y).length ≤ a.length + 1 := by
  unfold putDk
  by_cases z : (a.any fun kv => decide (kv.1 = k)) = true
  · rw [if_pos z, List.length_map]; omega
  · rw [if_neg z, List.length_append]; exact Nat.le_refl _
def val : List Int → Nat
  | [] => 0
  | x :: r => x.toNat * 10 ^ r.length + val r
def Dig (ns : List Int) : Prop := ∀ e ∈ ns, 0 ≤ e ∧ e < 10
theorem val_lt : ∀ {ns : List Int}, Dig ns → val ns < 10 ^ ns.length
  | [], _ => by decide
  | x :: r, h => by
    have h1 := val_lt (ns := r) fun e m => h e (List.mem_cons_of_mem _ m)
    have h2 := h x List.mem_cons_self
    have h3 : x.toNat + 1 ≤ 10 := by omega
    have h4 := Nat.mul_le_mul_right (10 ^ r.length) h3
    rw [Nat.add_mul, Nat.one_mul] at h4
    show x.toNat * 10 ^ r.length + val r < 10 ^ (r.length + 1)
    rw [Nat.pow_succ, Nat.mul_comm (10 ^ r.length)]
    omega
theorem val_lex : ∀ {ns ms : List Int}, Dig ns → Dig ms → ns.length = ms.length → HT.lexLt ns ms = true → val ns < val ms
  | [], [], _, _, _, h => by cases h
  | [], _ :: _, _, _, l, _ => by cases l
  | _ :: _, [], _, _, l, _ => by cases l
  | x :: r, y :: t, h1, h2, l, h => by
    have l : r.length = t.length := by simpa using l
    have d1 : Dig r := fun e m => h1 e (List.mem_cons_of_mem _ m)
    have d2 : Dig t := fun e m => h2 e (List.mem_cons_of_mem _ m)
    rw [HT.lexLt_cons] at h
    show x.toNat * 10 ^ r.length + val r < y.toNat * 10 ^ t.length + val t
    by_cases q : x = y
    · rw [if_pos q] at h
      have := val_lex d1 d2 l h
      rw [q, l]
      omega
    · rw [if_neg q] at h
      have h := of_decide_eq_true h
      have hx := h1 x List.mem_cons_self
      have h3 : x.toNat + 1 ≤ y.toNat := by have := h2 y List.mem_cons_self; omega
      have h4 := Nat.mul_le_mul_right (10 ^ r.length) h3
      rw [Nat.add_mul, Nat.one_mul] at h4
      have := val_lt d1
      rw [← l]
      omega
def P : Nat := 10 ^ 90
def code (ns : List Int) : Nat := ns.length * P + val ns
theorem val_P {ns : List Int} (d : Dig ns) (l : ns.length ≤ 90) : val ns < P := Nat.lt_of_lt_of_le (val_lt d) (Nat.pow_le_pow_right (by decide) l)
theorem code_lt {ns ms : List Int} (d1 : Dig ns) (d2 : Dig ms) (l1 : ns.length ≤ 90) (h : (if (ns.length : Int) = (ms.length : Int) then HT.lexLt ns ms else decide ((ns.length : Int) < (ms.length : Int))) = true) : code ns < code ms ∧ ns.length ≤ ms.length := by
  unfold code
  by_cases e : (ns.length : Int) = (ms.length : Int)
  · rw [if_pos e] at h
    have e : ns.length = ms.length := by omega
    have := val_lex d1 d2 e h
    rw [e]
    omega
  · rw [if_neg e] at h
    have h := of_decide_eq_true h
    have h3 : ns.length + 1 ≤ ms.length := by omega
    have h4 := Nat.mul_le_mul_right P h3
    rw [Nat.add_mul, Nat.one_mul] at h4
    have := val_P d1 l1
    omega
def BIG : Nat := 100 * P
theorem code_big {ns : List Int} (d : Dig ns) (l : ns.length ≤ 90) : code ns < BIG := by
  unfold code BIG
  have h1 := val_P d l
  have h2 := Nat.mul_le_mul_right P l
  omega
def sumf (f : Str → Nat) : List Str → Nat
  | [] => 0
  | k :: r => f k + sumf f r
theorem sum_out {f g : Str → Nat} {k : Str} (h : ∀ j, j ≠ k → f j = g j) : ∀ {l : List Str}, k ∉ l → sumf f l = sumf g l
  | [], _ => rfl
  | j :: r, n => by
    show f j + _ = g j + _
    rw [h j (fun z => n (z ▸ List.mem_cons_self)), sum_out h fun m => n (List.mem_cons_of_mem _ m)]
theorem sum_upd {f g : Str → Nat} {k : Str} (h : ∀ j, j ≠ k → f j = g j) : ∀ {l : List Str}, l.Nodup → k ∈ l → sumf f l + g k = sumf g l + f k
  | [], _, m => by cases m
  | j :: r, nd, m => by
    obtain ⟨n1, n2⟩ := List.nodup_cons.mp nd
    show f j + sumf f r + g k = g j + sumf g r + f k
    by_cases e : j = k
    · subst e
      rw [sum_out h n1]
      omega
    · have := sum_upd h n2 ((List.mem_cons.mp m).resolve_left fun z => e z.symm)
      rw [h j e]
      omega
theorem sum_le {f : Str → Nat} {c : Nat} (h : ∀ k, f k ≤ c) : ∀ l : List Str, sumf f l ≤ c * l.length
  | [] => Nat.le_refl _
  | k :: r => by
    have := sum_le h r
    have := h k
    show f k + sumf f r ≤ c * (r.length + 1)
    rw [Nat.mul_add, Nat.mul_one]
    omega
abbrev Fnd := Str → Option (List Int)
def one (o : Option (List Int)) : Nat := if o.isSome = true then 1 else 0
def cost : Option (List Int) → Nat
  | none => BIG
  | some ns => code ns
def cnt (nms : List Str) (g : Fnd) : Nat := sumf (fun k => one (g k)) nms
def rank (nms : List Str) (g : Fnd) : Nat := sumf (fun k => cost (g k)) nms
def B : Nat → Nat
  | 0 => 1
  | c + 1 => 1 + 4 * B c
theorem B_up (c : Nat) : B c ≤ B (c + 1) := by
  show B c ≤ 1 + 4 * B c
  omega
theorem B_three {c : Nat} (h : c ≤ 3) : B c ≤ 85 := by
  rcases (show c = 0 ∨ c = 1 ∨ c = 2 ∨ c = 3 by omega) with rfl | rfl | rfl | rfl <;> decide
theorem cnt_le (nms : List Str) (g : Fnd) : cnt nms g ≤ nms.length := by
  have := sum_le (f := fun k => one (g k)) (c := 1) (fun k => by show one (g k) ≤ 1; unfold one; split <;> omega) nms
  show sumf _ nms ≤ _
  omega
def setG (g : Fnd) (k : Str) (ns : List Int) : Fnd := fun j => if j = k then some ns else g j
theorem cnt_set {nms : List Str} {g : Fnd} {k : Str} {ns : List Int} (nd : nms.Nodup) (m : k ∈ nms) : cnt nms (setG g k ns) + one (g k) = cnt nms g + 1 := by
  have := sum_upd (f := fun j => one (setG g k ns j)) (g := fun j => one (g j)) (k := k) (fun j hj => by show one (setG g k ns j) = one (g j); unfold setG; rw [if_neg hj]) nd m
  have e : one (setG g k ns k) = 1 := by unfold setG; rw [if_pos rfl]; rfl
  simp only [e] at this
  exact this
theorem rank_set {nms : List Str} {g : Fnd} {k : Str} {ns : List Int} (nd : nms.Nodup) (m : k ∈ nms) : rank nms (setG g k ns) + cost (g k) = rank nms g + code ns := by
  have := sum_upd (f := fun j => cost (setG g k ns j)) (g := fun j => cost (g j)) (k := k) (fun j hj => by show cost (setG g k ns j) = cost (g j); unfold setG; rw [if_neg hj]) nd m
  have e : cost (setG g k ns k) = code ns := by unfold setG; rw [if_pos rfl]; rfl
  simp only [e] at this
  exact this
theorem len_put_old {k : Key} {y : D} {a : List (Key × D)} (h : (valD a k).isSome = true) : (putDk a k y).length = a.length := by
  unfold putDk
  rw [any_valD, if_pos h, List.length_map]
structure St (nms : List Str) (g : Fnd) (lds sds : List (Key × D)) : Prop where
  look : ∀ k, valD lds (.inr k) = (g k).map fun ns => D.lst (ns.map D.int)
  small : ∀ k, (valD sds (.inr k)).isSome = (g k).isSome
  cz : ∀ kv ∈ sds, Cz kv.2
  dig : ∀ k ns, g k = some ns → Dig ns ∧ ns.length ≤ B (cnt nms g)
  ll : lds.length ≤ cnt nms g
  ls : sds.length ≤ cnt nms g
theorem St.nil {nms : List Str} : St nms (fun _ => none) [] [] where
  look := fun _ => rfl
  small := fun _ => rfl
  cz := fun _ m => by cases m
  dig := fun _ _ h => by cases h
  ll := Nat.zero_le _
  ls := Nat.zero_le _
/-- a row is put down -/
theorem St.put {nms : List Str} {g : Fnd} {lds sds : List (Key × D)} {k : Str} {ns : List Int} {y : D} (h : St nms g lds sds) (nd : nms.Nodup) (few : nms.length ≤ 3) (m : k ∈ nms) (dg : Dig ns) (cy : Cz y)
    (c : (g k = none ∧ ns.length ≤ 1 + 4 * B (cnt nms g)) ∨ ∃ old, g k = some old ∧ ns.length ≤ 85 ∧ (if (ns.length : Int) = (old.length : Int) then HT.lexLt ns old else decide ((ns.length : Int) < (old.length : Int))) = true) :
    St nms (setG g k ns) (putDk lds (.inr k) (.lst (ns.map D.int))) (putDk sds (.inr k) y) ∧ rank nms (setG g k ns) < rank nms g := by
  have hc := cnt_set (g := g) (ns := ns) nd m
  have hr := rank_set (g := g) (ns := ns) nd m
  have h3 := cnt_le nms (setG g k ns)
  have lk := h.look k
  have sk := h.small k
  have main : ns.length ≤ B (cnt nms (setG g k ns)) ∧ B (cnt nms g) ≤ B (cnt nms (setG g k ns)) ∧ (putDk lds (.inr k) (D.lst (ns.map D.int))).length ≤ cnt nms (setG g k ns) ∧ (putDk sds (.inr k) y).length ≤ cnt nms (setG g k ns) ∧ code ns < cost (g k) := by
    rcases c with ⟨e, hl⟩ | ⟨old, e, hl, hlt⟩
    · rw [e] at hc hr ⊢
      have ec : cnt nms (setG g k ns) = cnt nms g + 1 := hc
      rw [ec]
      refine ⟨hl, B_up _, ?_, ?_, ?_⟩
      · exact Nat.le_trans len_put (Nat.succ_le_succ h.ll)
      · exact Nat.le_trans len_put (Nat.succ_le_succ h.ls)
      · have := B_three (c := cnt nms g + 1) (by omega)
        have hl' : ns.length ≤ B (cnt nms g + 1) := hl
        exact code_big dg (by omega)
    · rw [e] at hc hr lk sk ⊢
      have ec : cnt nms (setG g k ns) = cnt nms g := by have : cnt nms (setG g k ns) + 1 = cnt nms g + 1 := hc; omega
      obtain ⟨d1, d2⟩ := h.dig k old e
      obtain ⟨q1, q2⟩ := code_lt dg d1 (by omega) hlt
      rw [ec]
      refine ⟨Nat.le_trans q2 d2, Nat.le_refl _, ?_, ?_, q1⟩
      · rw [len_put_old (by rw [lk]; rfl)]; exact h.ll
      · rw [len_put_old (by rw [sk]; rfl)]; exact h.ls
  obtain ⟨m1, m2, m3, m4, m5⟩ := main
  refine ⟨⟨fun j => ?_, fun j => ?_, fun kv mk => ?_, fun j ms hj => ?_, m3, m4⟩, by omega⟩
  · rw [valD_put]
    unfold setG
    by_cases q : j = k
    · subst q; rw [if_pos rfl, if_pos rfl]; rfl
    · rw [if_neg (fun z => q (by cases z; rfl)), if_neg q]; exact h.look j
  · rw [valD_put]
    unfold setG
    by_cases q : j = k
    · subst q; rw [if_pos rfl, if_pos rfl]; rfl
    · rw [if_neg (fun z => q (by cases z; rfl)), if_neg q]; exact h.small j
  · rcases mem_put mk with z | z
    · rw [z]; exact cy
    · exact h.cz kv z
  · by_cases q : j = k
    · subst q
      have : setG g j ns j = some ns := by unfold setG; rw [if_pos rfl]
      rw [this] at hj
      cases hj
      exact ⟨dg, m1⟩
    · have : setG g k ns j = g j := by unfold setG; rw [if_neg q]
      rw [this] at hj
      obtain ⟨d1, d2⟩ := h.dig j ms hj
      exact ⟨d1, Nat.le_trans d2 m2⟩
end ML
namespace MI
open PySem L2 DL
def kindsOf (rs : List MR.Row) : List Str := dist (rs.map (·.kind))
def makersOf (k : Str) (rs : List MR.Row) : List Str := (rs.filter fun r => decide (r.kind = k)).map (·.maker)
def lstD (rs : List MR.Row) (k : Str) : D := .lst ((makersOf k rs).map D.str)
def keys (rs : List MR.Row) : List Key := (kindsOf rs).map Sum.inr
theorem dist_mem {z : Str} (l : List Str) : z ∈ dist l ↔ z ∈ l := by
  refine snoc_ind (C := fun l => z ∈ dist l ↔ z ∈ l) (by simp [dist]) (fun l y ih => ?_) l
  rw [dist_snoc]
  by_cases h : y ∈ dist l
  · rw [if_pos h, ih]
    constructor
    · exact fun m => List.mem_append_left _ m
    · intro m
      rcases List.mem_append.mp m with m | m
      · exact m
      · simp at m; subst m; exact ih.mp h
  · rw [if_neg h, List.mem_append, List.mem_append, ih]
theorem dist_nd (l : List Str) : (dist l).Nodup := by
  refine snoc_ind (C := fun l => (dist l).Nodup) (by simp [dist]) (fun l y ih => ?_) l
  rw [dist_snoc]
  by_cases h : y ∈ dist l
  · rw [if_pos h]; exact ih
  · rw [if_neg h, List.nodup_append]
    refine ⟨ih, by simp, fun a m b m' z => ?_⟩
    simp at m'
    subst m'; subst z
    exact h m
theorem kinds_nd (rs : List MR.Row) : (kindsOf rs).Nodup := dist_nd _
theorem kinds_snoc (rs : List MR.Row) (r : MR.Row) : kindsOf (rs ++ [r]) = if r.kind ∈ kindsOf rs then kindsOf rs else kindsOf rs ++ [r.kind] := by
  unfold kindsOf
  rw [List.map_append]
  exact dist_snoc _ _
theorem makers_snoc (rs : List MR.Row) (r : MR.Row) (k : Str) : makersOf k (rs ++ [r]) = if r.kind = k then makersOf k rs ++ [r.maker] else makersOf k rs := by
  unfold makersOf
  rw [List.filter_append, List.map_append]
  by_cases h : r.kind = k
  · rw [if_pos h]; simp [h]
  · rw [if_neg h]; simp [h]
theorem makers_none {k : Str} {rs : List MR.Row} (h : k ∉ kindsOf rs) : makersOf k rs = [] := by
  unfold makersOf
  rw [List.filter_eq_nil_iff.mpr, List.map_nil]
  intro r m e
  have e := of_decide_eq_true e
  refine h ((dist_mem _).mpr ?_)
  rw [← e]
  exact List.mem_map_of_mem m
theorem lists_new {rs : List MR.Row} {r : MR.Row} (h : r.kind ∉ kindsOf rs) : (kindsOf rs).map (lstD rs) ++ [.lst [.str r.maker]] = (kindsOf (rs ++ [r])).map (lstD (rs ++ [r])) := by
  rw [kinds_snoc, if_neg h, List.map_append]
  congr 1
  · refine List.map_congr_left fun k m => ?_
    unfold lstD
    rw [makers_snoc, if_neg (show ¬ r.kind = k from fun z => h (by rw [z]; exact m))]
  · show _ = [lstD (rs ++ [r]) r.kind]
    unfold lstD
    rw [makers_snoc, if_pos rfl, makers_none h]
    rfl
theorem lists_old {rs : List MR.Row} {r : MR.Row} {q : Nat} (hq : (kindsOf rs)[q]? = some r.kind) : ((kindsOf rs).map (lstD rs)).set q (.lst ((makersOf r.kind rs).map D.str ++ [.str r.maker])) = (kindsOf (rs ++ [r])).map (lstD (rs ++ [r])) := by
  have m : r.kind ∈ kindsOf rs := List.mem_of_getElem? hq
  rw [kinds_snoc, if_pos m]
  apply List.ext_getElem?
  intro i
  by_cases e : q = i
  · subst e
    have hl := (List.getElem?_eq_some_iff.mp hq).1
    rw [List.getElem?_set_self (by rw [List.length_map]; exact hl), List.getElem?_map, hq]
    show _ = some (lstD (rs ++ [r]) r.kind)
    unfold lstD
    rw [makers_snoc, if_pos rfl, List.map_append]
    rfl
  · rw [List.getElem?_set_ne e, List.getElem?_map, List.getElem?_map]
    cases ei : (kindsOf rs)[i]? with
    | none => rfl
    | some k =>
      show some (lstD rs k) = some (lstD (rs ++ [r]) k)
      unfold lstD
      rw [makers_snoc, if_neg]
      intro z
      have nd : (kindsOf rs).Nodup := dist_nd _
      exact e (L2.nd_ix nd hq (z ▸ ei))
/-- a dict by places -/
theorem val_zip : ∀ {ks : List Str} {ds : List D} {q : Nat} {k : Str}, ks.Nodup → ks[q]? = some k → ks.length = ds.length → valD (zipD (ks.map Sum.inr) ds) (.inr k) = ds[q]?
  | [], _, _, _, _, h, _ => by simp at h
  | _ :: _, [], _, _, _, _, l => by cases l
  | j :: ks, d :: ds, 0, k, _, h, _ => by
    simp at h
    subst h
    show valD ((Sum.inr j, d) :: zipD (ks.map Sum.inr) ds) (.inr j) = some d
    rw [ML.valD_cons, if_pos rfl]
  | j :: ks, d :: ds, q + 1, k, nd, h, l => by
    have h : ks[q]? = some k := by simpa using h
    obtain ⟨n1, n2⟩ := List.nodup_cons.mp nd
    show valD ((Sum.inr j, d) :: zipD (ks.map Sum.inr) ds) (.inr k) = (d :: ds)[q + 1]?
    rw [ML.valD_cons, if_neg (fun z => n1 (by cases z; exact List.mem_of_getElem? h)), val_zip (ds := ds) n2 h (by simpa using l)]
    simp
theorem val_zip_none {k : Str} : ∀ {ks : List Str} {ds : List D}, k ∉ ks → valD (zipD (ks.map Sum.inr) ds) (.inr k) = none
  | [], _, _ => rfl
  | _ :: _, [], _ => rfl
  | j :: ks, d :: ds, h => by
    show valD ((Sum.inr j, d) :: zipD (ks.map Sum.inr) ds) (.inr k) = none
    rw [ML.valD_cons, if_neg (fun z => h (by cases z; exact List.mem_cons_self)), val_zip_none fun m => h (List.mem_cons_of_mem _ m)]
/-- the entries, after what stands before -/
def entsFrom : List MR.Row → List MR.Row → List (Key × D)
  | _, [] => []
  | pre, r :: t => (Sum.inr r.maker, MT.dEnt r.kind (makersOf r.kind pre).length r.parts) :: entsFrom (pre ++ [r]) t
theorem ents_snoc : ∀ (pre rs : List MR.Row) (r : MR.Row), entsFrom pre (rs ++ [r]) = entsFrom pre rs ++ [(Sum.inr r.maker, MT.dEnt r.kind (makersOf r.kind (pre ++ rs)).length r.parts)]
  | pre, [], r => by rw [List.append_nil]; rfl
  | pre, x :: rs, r => by
    show _ :: entsFrom (pre ++ [x]) (rs ++ [r]) = _ :: entsFrom (pre ++ [x]) rs ++ _
    rw [ents_snoc (pre ++ [x]) rs r, List.append_assoc]
    rfl
theorem ents_len : ∀ pre rs : List MR.Row, (entsFrom pre rs).length = rs.length
  | _, [] => rfl
  | pre, x :: rs => congrArg (· + 1) (ents_len (pre ++ [x]) rs)
theorem ents_none {z : Str} : ∀ {pre rs : List MR.Row}, z ∉ rs.map (·.maker) → valD (entsFrom pre rs) (.inr z) = none
  | _, [], _ => rfl
  | pre, x :: rs, h => by
    show valD ((Sum.inr x.maker, _) :: entsFrom (pre ++ [x]) rs) (.inr z) = none
    rw [ML.valD_cons, if_neg (fun q => h (by cases q; exact List.mem_cons_self)), ents_none fun m => h (List.mem_cons_of_mem _ m)]
/-- a new maker's entry goes to the end -/
theorem ents_put {rs : List MR.Row} {r : MR.Row} (h : r.maker ∉ rs.map (·.maker)) : putDk (entsFrom [] rs) (.inr r.maker) (MT.dEnt r.kind (makersOf r.kind rs).length r.parts) = entsFrom [] (rs ++ [r]) := by
  unfold putDk
  rw [ML.any_valD, ents_none h, ents_snoc]
  rfl
theorem nd_le : ∀ {l m : List Str}, l.Nodup → (∀ x ∈ l, x ∈ m) → l.length ≤ m.length
  | [], _, _, _ => Nat.zero_le _
  | x :: l, m, nd, h => by
    obtain ⟨n1, n2⟩ := List.nodup_cons.mp nd
    have hx := h x List.mem_cons_self
    have := nd_le (m := m.erase x) n2 fun y hy => (List.mem_erase_of_ne (show y ≠ x from fun e => n1 (by rw [← e]; exact hy))).mpr (h y (List.mem_cons_of_mem _ hy))
    rw [List.length_erase_of_mem hx] at this
    have : 0 < m.length := List.length_pos_of_mem hx
    show l.length + 1 ≤ _
    omega
/-- at most three kinds -/
theorem kinds_few {nms : List Str} {rows : List MR.Row} (hT : MR.Table nms rows) (i : Nat) : (kindsOf (rows.take i)).length ≤ 3 := by
  refine Nat.le_trans (nd_le (dist_nd _) fun x m => ?_) hT.few
  obtain ⟨r, hr, e⟩ := List.mem_map.mp ((dist_mem _).mp m)
  rw [← e]
  exact hT.some.kind r (List.mem_of_mem_take hr)
theorem isName_of {z : Str} {n : Nat} (h : MN.nameL (MN.tl z) = true ∧ z.length ≤ n) (hn : n ≤ 24) : MN.isName z = true ∧ z.length ≤ 100 := by
  refine ⟨?_, by omega⟩
  unfold MN.isName
  rw [h.1, decide_eq_true (by omega)]
  rfl
theorem maker_new {rows : List MR.Row} {i : Nat} {r : MR.Row} (nd : (rows.map (·.maker)).Nodup) (hr : rows[i]? = some r) : r.maker ∉ (rows.take i).map (·.maker) := fun m => by
  obtain ⟨q, hq, e⟩ := List.mem_map.mp m
  obtain ⟨j, hj, ej⟩ := List.mem_iff_getElem.mp hq
  rw [List.length_take] at hj
  rw [List.getElem_take] at ej
  have h1 : (rows.map (·.maker))[i]? = some r.maker := by rw [List.getElem?_map, hr]; rfl
  have h2 : (rows.map (·.maker))[j]? = some r.maker := by rw [List.getElem?_map, List.getElem?_eq_getElem (by omega), ej, ← e]; rfl
  have := L2.nd_ix nd h1 h2
  omega
theorem at_end {α : Type} (a b c p : α) (l : List α) : ([a, b, c] ++ l ++ [p])[3 + l.length]? = some p := by
  have h : ([a, b, c] ++ l).length = 3 + l.length := by
    rw [List.length_append]
    rfl
  rw [← h, List.getElem?_append_right (Nat.le_refl _), Nat.sub_self]
  rfl
theorem at_end_set {α : Type} (a b c p q : α) (l : List α) : ([a, b, c] ++ l ++ [p]).set (3 + l.length) q = [a, b, c] ++ l ++ [q] := by
  have h : ([a, b, c] ++ l).length = 3 + l.length := by
    rw [List.length_append]
    rfl
  rw [← h, List.set_append_right _ _ (Nat.le_refl _), Nat.sub_self]
  rfl
theorem at_end_erase {α : Type} (a b c p : α) (l : List α) : ([a, b, c] ++ l ++ [p]).eraseIdx (3 + l.length) = [a, b, c] ++ l := by
  have h : ([a, b, c] ++ l).length = 3 + l.length := by
    rw [List.length_append]
    rfl
  rw [← h, List.eraseIdx_append_of_length_le (Nat.le_refl _), Nat.sub_self]
  exact List.append_nil _
theorem kinds_sub {nms : List Str} {rows : List MR.Row} (hT : MR.Table nms rows) {k : Str} (m : k ∈ kindsOf rows) : k ∈ nms := by
  obtain ⟨r, hr, e⟩ := List.mem_map.mp ((dist_mem _).mp m)
  rw [← e]
  exact hT.some.kind r hr
theorem kind_mem {nms : List Str} {rows : List MR.Row} (hT : MR.Table nms rows) {k : Str} (m : k ∈ nms) : k ∈ kindsOf rows := by
  obtain ⟨i, hi, e⟩ := List.mem_iff_getElem.mp m
  obtain ⟨r, hr, er, _⟩ := hT.base i hi
  rw [List.getElem?_eq_getElem hi, e] at er
  cases er
  exact (dist_mem _).mpr (List.mem_map_of_mem hr)
theorem zip_keys : ∀ {ks : List Str} {ds : List D}, ds.length = ks.length → ((zipD (ks.map Sum.inr) ds).map fun kv => kD kv.1) = ks.map D.str
  | [], _, _ => rfl
  | _ :: _, [], l => by cases l
  | k :: ks, d :: ds, l => by
    show kD (.inr k) :: (zipD (ks.map Sum.inr) ds).map _ = _
    rw [zip_keys (by simpa using l)]
    rfl
theorem ents_keys : ∀ pre rs : List MR.Row, ((entsFrom pre rs).map fun kv => kD kv.1) = (rs.map (·.maker)).map D.str
  | _, [] => rfl
  | pre, r :: rs => by
    show kD (.inr r.maker) :: (entsFrom (pre ++ [r]) rs).map _ = _
    rw [ents_keys (pre ++ [r]) rs]
    rfl
/-- every kind has a least tree -/
theorem all_small {nms : List Str} {rows : List MR.Row} {sds : List (Key × D)} (hT : MR.Table nms rows) (h : ∀ r ∈ rows, (∀ p ∈ r.parts, p.inn = MR.byteS ∨ (valD sds (.inr p.inn)).isSome = true) → (valD sds (.inr r.kind)).isSome = true) :
    ∀ k, k ∈ nms → (valD sds (.inr k)).isSome = true := by
  have main : ∀ (n i : Nat), nms.length - i = n → ∀ k, k ∈ nms.drop i → (valD sds (.inr k)).isSome = true := by
    intro n
    induction n with
    | zero =>
      intro i hi k m
      rw [List.drop_of_length_le (by omega)] at m
      cases m
    | succ n ih =>
      intro i hi k m
      have hlt : i < nms.length := by omega
      rw [List.drop_eq_getElem_cons hlt] at m
      rcases List.mem_cons.mp m with m | m
      · obtain ⟨r, hr, er, hp⟩ := hT.base i hlt
        rw [List.getElem?_eq_getElem hlt, ← m] at er
        cases er
        refine h r hr fun p mp => ?_
        rcases hp p mp with z | z
        · exact .inl z
        · exact .inr (ih (i + 1) (by omega) _ z)
      · exact ih (i + 1) (by omega) k m
  exact fun k m => main nms.length 0 rfl k m
end MI
namespace MI
open PySem L2 DL
theorem ents_app : ∀ (pre a b : List MR.Row), entsFrom pre (a ++ b) = entsFrom pre a ++ entsFrom (pre ++ a) b
  | pre, [], b => by rw [List.append_nil]; rfl
  | pre, x :: a, b => by
    show _ :: entsFrom (pre ++ [x]) (a ++ b) = _ :: entsFrom (pre ++ [x]) a ++ _
    rw [ents_app (pre ++ [x]) a b, List.append_assoc]
    rfl
theorem split_at {rows : List MR.Row} {i : Nat} {r : MR.Row} (hr : rows[i]? = some r) : rows = rows.take i ++ r :: rows.drop (i + 1) := by
  obtain ⟨hi, e⟩ := List.getElem?_eq_some_iff.mp hr
  rw [← e, ← List.drop_eq_getElem_cons hi, List.take_append_drop]
/-- what stands at a maker -/
theorem ents_get {rows : List MR.Row} {i : Nat} {r : MR.Row} (nd : (rows.map (·.maker)).Nodup) (hr : rows[i]? = some r) :
    valD (entsFrom [] rows) (.inr r.maker) = some (MT.dEnt r.kind (makersOf r.kind (rows.take i)).length r.parts) := by
  have e := split_at hr
  generalize ea : rows.take i = a at e
  have h1 : r.maker ∉ a.map (·.maker) := by rw [← ea]; exact maker_new nd hr
  rw [e, ents_app, ML.valD_app, ents_none h1]
  show (none : Option D).or (valD ((Sum.inr r.maker, _) :: _) (.inr r.maker)) = _
  rw [ML.valD_cons, if_pos rfl]
  rfl
theorem ents_some {z : Str} : ∀ {pre rs : List MR.Row}, (valD (entsFrom pre rs) (.inr z)).isSome = decide (z ∈ rs.map (·.maker))
  | _, [] => rfl
  | pre, x :: rs => by
    show (valD ((Sum.inr x.maker, _) :: entsFrom (pre ++ [x]) rs) (.inr z)).isSome = _
    rw [ML.valD_cons]
    by_cases h : x.maker = z
    · rw [if_pos (by rw [h])]; simp [h]
    · rw [if_neg (fun q => h (by cases q; rfl)), ents_some]
      have : ¬ z = x.maker := fun q => h q.symm
      simp [this]
theorem makers_at {rows : List MR.Row} {i : Nat} {r : MR.Row} (hr : rows[i]? = some r) : (makersOf r.kind rows)[(makersOf r.kind (rows.take i)).length]? = some r.maker := by
  have e : makersOf r.kind rows = makersOf r.kind (rows.take i) ++ makersOf r.kind (r :: rows.drop (i + 1)) := by
    conv => lhs; rw [split_at hr]
    unfold makersOf
    rw [List.filter_append, List.map_append]
  rw [e, List.getElem?_append_right (Nat.le_refl _), Nat.sub_self]
  unfold makersOf
  simp
theorem makers_nd {rows : List MR.Row} (nd : (rows.map (·.maker)).Nodup) (k : Str) : (makersOf k rows).Nodup :=
  nd.sublist (List.Sublist.map _ List.filter_sublist)
theorem makers_len (k : Str) (rows : List MR.Row) : (makersOf k rows).length ≤ rows.length := by
  unfold makersOf
  rw [List.length_map]
  exact List.length_filter_le ..
theorem fam_get {rows : List MR.Row} {k : Str} (m : k ∈ kindsOf rows) : valD (zipD (keys rows) ((kindsOf rows).map (lstD rows))) (.inr k) = some (lstD rows k) := by
  obtain ⟨q, hq⟩ := List.mem_iff_getElem?.mp m
  rw [keys, val_zip (kinds_nd _) hq (by rw [List.length_map]), List.getElem?_map, hq]
  rfl
end MI
namespace ML
open PySem L2 DL
/-- an entry of the table -/
structure Ent where
  maker : Str
  kind : Str
  tag : Nat
  ps : List MR.Part
def entD (e : Ent) : Key × D := (.inr e.maker, MT.dEnt e.kind e.tag e.ps)
structure EntOk (nms : List Str) (e : Ent) : Prop where
  kind : e.kind ∈ nms
  tag : e.tag < 10
  few : e.ps.length ≤ 4
def okP (g : Fnd) (p : MR.Part) : Bool := (p.inn == MR.byteS) || (g p.inn).isSome
def rowP (g : Fnd) (p : MR.Part) : List Int := if p.inn = MR.byteS then [0] else (g p.inn).getD []
def valP (sds : List (Key × D)) (p : MR.Part) : D := if p.inn = MR.byteS then .int 0 else (valD sds (.inr p.inn)).getD .non
/-- what an entry makes of what is found -/
def made (g : Fnd) (e : Ent) : List Int := (e.tag : Nat) :: e.ps.flatMap (rowP g)
def madeT (sds : List (Key × D)) (e : Ent) : D := .tup (.str e.maker :: e.ps.map (valP sds))
def lessL (ns ms : List Int) : Bool := if (ns.length : Int) = (ms.length : Int) then HT.lexLt ns ms else decide ((ns.length : Int) < (ms.length : Int))
/-- a tree of n levels with its plain row: bytes 0 -/
def LT (es : List Ent) : Nat → Str → D → List Int → Prop
  | 0 => fun _ _ _ => False
  | n + 1 => fun k d ns => ∃ e ∈ es, ∃ (vd : MR.Part → D) (vr : MR.Part → List Int), e.kind = k ∧ d = .tup (.str e.maker :: e.ps.map vd) ∧ ns = ((e.tag : Nat) : Int) :: e.ps.flatMap vr ∧
    ∀ p ∈ e.ps, (p.inn = MR.byteS ∧ vd p = .int 0 ∧ vr p = [0]) ∨ (p.inn ≠ MR.byteS ∧ LT es n p.inn (vd p) (vr p))
theorem LT.up {es : List Ent} : ∀ {n : Nat} {k : Str} {d : D} {ns : List Int}, LT es n k d ns → LT es (n + 1) k d ns
  | 0, _, _, _, h => h.elim
  | n + 1, k, d, ns, h => by
    obtain ⟨e, me, vd, vr, h1, h2, h3, h4⟩ := h
    refine ⟨e, me, vd, vr, h1, h2, h3, fun p m => ?_⟩
    rcases h4 p m with z | z
    · exact .inl z
    · exact .inr ⟨z.1, LT.up z.2⟩
theorem LT.mono {es : List Ent} {n : Nat} {k : Str} {d : D} {ns : List Int} (h : LT es n k d ns) : ∀ {m : Nat}, n ≤ m → LT es m k d ns
  | 0, l => by
    have : n = 0 := by omega
    subst this
    exact h
  | m + 1, l => by
    by_cases e : n = m + 1
    · exact e ▸ h
    · exact LT.up (LT.mono h (m := m) (by omega))
/-- how many kinds have a row that is not greater -/
def clT (g : Fnd) (ns : List Int) (k : Str) : Nat := match g k with
  | some ms => if code ms ≤ code ns then 1 else 0
  | none => 0
def cl (nms : List Str) (g : Fnd) (ns : List Int) : Nat := sumf (clT g ns) nms
theorem clT_le (g : Fnd) (ns : List Int) (k : Str) : clT g ns k ≤ 1 := by
  unfold clT
  split
  · split <;> omega
  · omega
theorem sumf_mono {f g : Str → Nat} : ∀ {l : List Str}, (∀ k ∈ l, f k ≤ g k) → sumf f l ≤ sumf g l
  | [], _ => Nat.le_refl _
  | k :: r, h => Nat.add_le_add (h k List.mem_cons_self) (sumf_mono fun j m => h j (List.mem_cons_of_mem _ m))
theorem sumf_lt {f g : Str → Nat} {k : Str} : ∀ {l : List Str}, (∀ j ∈ l, f j ≤ g j) → k ∈ l → f k < g k → sumf f l < sumf g l
  | [], _, m, _ => by cases m
  | j :: r, h, m, hk => by
    have h1 := h j List.mem_cons_self
    have h2 := sumf_mono fun i m => h i (List.mem_cons_of_mem j m)
    show f j + sumf f r < g j + sumf g r
    by_cases e : j = k
    · subst e
      omega
    · have := sumf_lt (fun i m => h i (List.mem_cons_of_mem j m)) ((List.mem_cons.mp m).resolve_left fun z => e z.symm) hk
      omega
theorem cl_le {nms : List Str} {g : Fnd} {ns : List Int} : cl nms g ns ≤ nms.length := by
  have := sum_le (f := clT g ns) (c := 1) (clT_le g ns) nms
  unfold cl
  omega
structure Fin (nms : List Str) (es : List Ent) (g : Fnd) (sds : List (Key × D)) : Prop where
  tr : ∀ k ns, g k = some ns → ∃ d, valD sds (.inr k) = some d ∧ LT es (cl nms g ns) k d ns
theorem Fin.nil {nms : List Str} {es : List Ent} : Fin nms es (fun _ => none) [] := ⟨fun _ _ h => by cases h⟩
theorem code_short {ns ms : List Int} (h : ns.length < ms.length) (d : Dig ns) (l : ns.length ≤ 90) : code ns < code ms := by
  unfold code
  have h4 := Nat.mul_le_mul_right P (show ns.length + 1 ≤ ms.length from h)
  rw [Nat.add_mul, Nat.one_mul] at h4
  have := val_P d l
  omega
theorem made_long {g : Fnd} {e : Ent} {p : MR.Part} (m : p ∈ e.ps) : (rowP g p).length < (made g e).length := by
  unfold made
  rw [List.length_cons]
  have : ∀ {ps : List MR.Part}, p ∈ ps → (rowP g p).length ≤ (ps.flatMap (rowP g)).length := fun {ps} m => by
    induction ps with
    | nil => cases m
    | cons q r ih =>
      rw [List.flatMap_cons, List.length_append]
      rcases List.mem_cons.mp m with rfl | m
      · omega
      · have := ih m
        omega
  have := this m
  omega
/-- what is made is put down -/
theorem Fin.put {nms : List Str} {es : List Ent} {g : Fnd} {sds : List (Key × D)} (h : Fin nms es g sds) {e : Ent} (me : e ∈ es) (mk : e.kind ∈ nms) (hp : ∀ p ∈ e.ps, okP g p = true) (hd : ∀ k ns, g k = some ns → Dig ns ∧ ns.length ≤ 85) (c : ∀ old, g e.kind = some old → code (made g e) < code old) :
    Fin nms es (setG g e.kind (made g e)) (putDk sds (.inr e.kind) (madeT sds e)) := by
  refine ⟨fun k ns hk => ?_⟩
  have hcl : ∀ ms j, clT g ms j ≤ clT (setG g e.kind (made g e)) ms j := fun ms j => by
    unfold clT setG
    by_cases q : j = e.kind
    · subst q
      rw [if_pos rfl]
      cases ho : g e.kind with
      | none => exact Nat.zero_le _
      | some old =>
        have := c old ho
        show (if code old ≤ code ms then 1 else 0) ≤ if code (made g e) ≤ code ms then 1 else 0
        split
        · rw [if_pos (by omega)]
          omega
        · exact Nat.zero_le _
    · rw [if_neg q]
      exact Nat.le_refl _
  by_cases q : k = e.kind
  · subst q
    unfold setG at hk
    rw [if_pos rfl] at hk
    cases hk
    refine ⟨madeT sds e, by rw [valD_put, if_pos rfl], ?_⟩
    have key : ∀ p ∈ e.ps, ∀ ms, p.inn ≠ MR.byteS → g p.inn = some ms → cl nms g ms < cl nms (setG g e.kind (made g e)) (made g e) := fun p mp ms hb hg => by
      obtain ⟨d1, l1⟩ := hd _ _ hg
      have hr : rowP g p = ms := by
        unfold rowP
        rw [if_neg hb, hg]
        rfl
      have hlt : code ms < code (made g e) := code_short (hr ▸ made_long mp) d1 (by omega)
      refine sumf_lt (k := e.kind) (fun j _ => Nat.le_trans ?_ (hcl (made g e) j)) mk ?_
      · unfold clT
        cases g j with
        | none => exact Nat.le_refl _
        | some os =>
          show (if code os ≤ code ms then 1 else 0) ≤ if code os ≤ code (made g e) then 1 else 0
          split
          · rw [if_pos (by omega)]
            omega
          · exact Nat.zero_le _
      · have e1 : clT (setG g e.kind (made g e)) (made g e) e.kind = 1 := by
          unfold clT setG
          rw [if_pos rfl]
          exact if_pos (Nat.le_refl _)
        rw [e1]
        unfold clT
        cases ho : g e.kind with
        | none => exact Nat.zero_lt_one
        | some old =>
          have := c old ho
          show (if code old ≤ code ms then 1 else 0) < 1
          rw [if_neg (by omega)]
          exact Nat.zero_lt_one
    have h1 : 1 ≤ cl nms (setG g e.kind (made g e)) (made g e) := by
      have : sumf (fun _ => 0) nms < cl nms (setG g e.kind (made g e)) (made g e) := sumf_lt (k := e.kind) (fun _ _ => Nat.zero_le _) mk (by
        unfold clT setG
        rw [if_pos rfl]
        show 0 < if code (made g e) ≤ code (made g e) then 1 else 0
        rw [if_pos (Nat.le_refl _)]
        exact Nat.zero_lt_one)
      omega
    obtain ⟨m, hm⟩ : ∃ m, cl nms (setG g e.kind (made g e)) (made g e) = m + 1 := ⟨_, (Nat.sub_add_cancel h1).symm⟩
    rw [hm]
    refine ⟨e, me, valP sds, rowP g, rfl, rfl, rfl, fun p mp => ?_⟩
    by_cases hb : p.inn = MR.byteS
    · exact .inl ⟨hb, if_pos hb, if_pos hb⟩
    · refine .inr ⟨hb, ?_⟩
      have hs : (g p.inn).isSome = true := by
        have := hp p mp
        unfold okP at this
        rw [beq_eq_false_iff_ne.mpr hb, Bool.false_or] at this
        exact this
      obtain ⟨ms, hg⟩ := Option.isSome_iff_exists.mp hs
      obtain ⟨d, h2, h3⟩ := h.tr _ _ hg
      have := key p mp ms hb hg
      have e1 : valP sds p = d := by
        unfold valP
        rw [if_neg hb, h2]
        rfl
      have e2 : rowP g p = ms := by
        unfold rowP
        rw [if_neg hb, hg]
        rfl
      rw [e1, e2]
      exact h3.mono (by omega)
  · unfold setG at hk
    rw [if_neg q] at hk
    obtain ⟨d, h2, h3⟩ := h.tr k ns hk
    refine ⟨d, ?_, h3.mono (sumf_mono fun j _ => hcl ns j)⟩
    rw [valD_put, if_neg fun z => q (Sum.inr.inj z)]
    exact h2
/-- nothing that can be made is less than what is found -/
def Closed (es : List Ent) (g : Fnd) : Prop := ∀ e ∈ es, (∀ p ∈ e.ps, okP g p = true) → ∃ old, g e.kind = some old ∧ lessL (made g e) old = false
structure Done (nms : List Str) (es : List Ent) (g : Fnd) (sds : List (Key × D)) : Prop where
  fin : Fin nms es g sds
  closed : Closed es g
  small : ∀ k, (valD sds (.inr k)).isSome = (g k).isSome
  dig : ∀ k ns, g k = some ns → Dig ns ∧ ns.length ≤ 85
end ML
namespace MI
open PySem L2 DL
/-- the entries of a table with their least trees -/
def LeastOk (rows : List MR.Row) (sds : List (Key × D)) : Prop := ∃ (nms : List Str) (es : List ML.Ent) (g : ML.Fnd), es.map ML.entD = entsFrom [] rows ∧ nms.length ≤ 3 ∧ (∀ e ∈ es, ML.EntOk nms e) ∧ ML.Done nms es g sds ∧ ∀ k ∈ nms, (g k).isSome = true
end MI
namespace MI
open PySem PySem.Spec PyProof.Rows L2 DL
section
variable {L as : List Addr} {O : List D} {k : List Addr → D → List D → Prop} {K : PySem.W.Frag}
theorem row0 (r : MR.Row) (z : k as (.str r.kind) O) : rv (rIxT K) L as O (MR.dRow r) (.int 0) k := rv_ixT rfl z
theorem row1 (r : MR.Row) (z : k as (.str r.maker) O) : rv (rIxT K) L as O (MR.dRow r) (.int 1) k := rv_ixT rfl z
theorem row2 (r : MR.Row) (z : k as (.tup (r.parts.map MR.dPart)) O) : rv (rIxT K) L as O (MR.dRow r) (.int 2) k := rv_ixT rfl z
theorem par0 (p : MR.Part) (z : k as (.str p.nm) O) : rv (rIxT K) L as O (MR.dPart p) (.int 0) k := rv_ixT (by cases p.pr <;> rfl) z
theorem par1 (p : MR.Part) (z : k as (.str p.inn) O) : rv (rIxT K) L as O (MR.dPart p) (.int 1) k := rv_ixT (by cases p.pr <;> rfl) z
end
/-- byte parts have no price, tree parts have one -/
def PartsOk (tds : List (Key × D)) : Prop := ∀ z kind tag ps, valD tds (.inr z) = some (MT.dEnt kind tag ps) → ∀ p ∈ ps, (p.inn = MR.byteS ∧ p.pr = none) ∨ (p.inn ≠ MR.byteS ∧ ∃ i, p.pr = some i)
theorem dPart_inj {p q : MR.Part} (h : MR.dPart p = MR.dPart q) : p = q := by
  obtain ⟨a, b, c⟩ := p
  obtain ⟨a', b', c'⟩ := q
  unfold MR.dPart at h
  simp only [D.tup.injEq, List.cons.injEq, D.str.injEq] at h
  obtain ⟨rfl, rfl, h⟩ := h
  cases c <;> cases c' <;> simp_all
theorem dParts_inj : ∀ {ps qs : List MR.Part}, ps.map MR.dPart = qs.map MR.dPart → ps = qs
  | [], [], _ => rfl
  | [], _ :: _, h => by cases h
  | _ :: _, [], h => by cases h
  | p :: ps, q :: qs, h => by
    rw [List.map_cons, List.map_cons, List.cons.injEq] at h
    rw [dPart_inj h.1, dParts_inj h.2]
theorem dEnt_inj {k k' : Str} {t t' : Nat} {ps qs : List MR.Part} (h : MT.dEnt k t ps = MT.dEnt k' t' qs) : k = k' ∧ t = t' ∧ ps = qs := by
  unfold MT.dEnt at h
  simp only [D.tup.injEq, List.cons.injEq, D.str.injEq, D.int.injEq, and_true] at h
  exact ⟨h.1, by omega, dParts_inj h.2.2⟩
theorem ents_from : ∀ {pre rs : List MR.Row} {z : Str} {d : D}, valD (entsFrom pre rs) (.inr z) = some d → ∃ r ∈ rs, ∃ tag, d = MT.dEnt r.kind tag r.parts
  | _, [], _, _, h => by cases h
  | pre, x :: rs, z, d, h => by
    have h : valD ((Sum.inr x.maker, MT.dEnt x.kind (makersOf x.kind pre).length x.parts) :: entsFrom (pre ++ [x]) rs) (.inr z) = some d := h
    rw [ML.valD_cons] at h
    by_cases q : (Sum.inr x.maker : Key) = .inr z
    · rw [if_pos q] at h
      cases h
      exact ⟨x, List.mem_cons_self, _, rfl⟩
    · rw [if_neg q] at h
      obtain ⟨r, m, tag, e⟩ := ents_from h
      exact ⟨r, List.mem_cons_of_mem _ m, tag, e⟩
/-- a finished table -/
structure Tabl (K : PySem.W.Frag) (rows : List MR.Row) (t : Addr) (tds fds sds : List (Key × D)) : Prop where
  get : ∀ i r, rows[i]? = some r → valD tds (.inr r.maker) = some (MT.dEnt r.kind (makersOf r.kind (rows.take i)).length r.parts)
  mem : ∀ z, (valD tds (.inr z)).isSome = decide (z ∈ rows.map (·.maker))
  fam : ∀ z, z ∈ kindsOf rows → valD fds (.inr z) = some (lstD rows z)
  nofam : ∀ z, z ∉ kindsOf rows → valD fds (.inr z) = none
  ok : PartsOk tds
  least : LeastOk rows sds
def tabD (K : PySem.W.Frag) (rows : List MR.Row) (t : Addr) (tds fds sds : List (Key × D)) : D := .ins (He.ga K "Kinds") (MT.tabF (.ldk t tds) (.dk fds) (.tup ((kindsOf rows).map D.str)) (.tup ((rows.map (·.maker)).map D.str)) (.dk sds))
theorem Tabl.none {K : PySem.W.Frag} {rows : List MR.Row} {t : Addr} {tds fds sds : List (Key × D)} (h : Tabl K rows t tds fds sds) {z : Str} (hz : z ∉ rows.map (·.maker)) : valD tds (.inr z) = none := by
  have := h.mem z
  rw [decide_eq_false hz] at this
  cases e : valD tds (.inr z) with
  | none => rfl
  | some d => rw [e] at this; cases this
theorem tabl_of {K : PySem.W.Frag} {nms : List Str} {rows : List MR.Row} (hT : MR.Table nms rows) (t : Addr) (sds : List (Key × D)) (hl : LeastOk rows sds) : Tabl K rows t (entsFrom [] rows) (zipD (keys rows) ((kindsOf rows).map (lstD rows))) sds where
  get := fun i r => ents_get hT.some.nd
  mem := fun z => ents_some
  fam := fun z => fam_get
  nofam := fun z hz => val_zip_none hz
  ok := fun z kind tag ps h p mp => by
    obtain ⟨r, mr, tag', e⟩ := ents_from h
    obtain ⟨_, _, rfl⟩ := dEnt_inj e
    obtain ⟨b, hd⟩ := hT.some.parts r mr
    rcases hd.ok p mp with q | ⟨q, i, e, _⟩
    · exact .inl q
    · exact .inr ⟨fun e => hT.names.byte (e ▸ q), i, e⟩
  least := hl
theorem tabD_self {K : PySem.W.Frag} {rows : List MR.Row} {t : Addr} {tds fds sds : List (Key × D)} : MT.Self K (tabD K rows t tds fds sds) tds := ⟨_, _, _, _, _, rfl, .inl (.inr ⟨_, rfl⟩)⟩
end MI
namespace MY
open PySem PySem.Spec PyProof.Rows L2 DL
abbrev le (a b : Str) : Prop := ltCps b.cps.toList a.cps.toList = false
def plusS : Str := "+"
def rmp (z : Str) : Str := Txt.removeprefix z plusS
theorem tl_inj {a b : Str} (h : MN.tl a = MN.tl b) : a = b := by
  obtain ⟨⟨x⟩⟩ := a
  obtain ⟨⟨y⟩⟩ := b
  have : x = y := h
  rw [this]
theorem sub43 (z : Str) : Builtin.Str.subAt z plusS 0 = ((MN.tl z).take 1 == [43]) := by
  rw [PySem.StrLaws.subAt_eq]
  rfl
theorem rmp_no {z : Str} (h : ∀ r, MN.tl z ≠ 43 :: r) : rmp z = z := by
  unfold rmp Txt.removeprefix
  rw [sub43]
  cases e : MN.tl z with
  | nil => rfl
  | cons c r =>
    have hc : c ≠ 43 := fun q => h r (by rw [e, q])
    rw [show ((c :: r).take 1 == [43]) = false from by simp [hc]]
    rfl
theorem rmp_plus (n : Str) : rmp (plusS ++ n) = n := by
  have e : MN.tl (plusS ++ n) = 43 :: MN.tl n := by rw [MN.tl_app]; rfl
  have hl : (plusS ++ n).length = n.length + 1 := by rw [MN.len_tl, e, MN.len_tl]; rfl
  unfold rmp Txt.removeprefix
  rw [sub43, e, show ((43 :: MN.tl n).take 1 == [43]) = true from by simp]
  show (if (plusS ++ n).length - 1 == (plusS ++ n).length then plusS ++ n else Builtin.Str.strSub (plusS ++ n) 1 (plusS ++ n).length) = n
  rw [hl]
  rw [if_neg (by simp)]
  apply tl_inj
  show ((plusS ++ n).cps.extract 1 (n.length + 1)).toList = _
  rw [Array.toList_extract, List.extract_eq_drop_take]
  show ((MN.tl (plusS ++ n)).drop 1).take (n.length + 1 - 1) = _
  rw [e]
  show (MN.tl n).take (n.length + 1 - 1) = _
  rw [MN.len_tl]
  exact List.take_length
/-- a name does not begin with a plus sign, has no point -/
theorem name_no43 {z : Str} (h : MN.nameL (MN.tl z) = true) : ∀ r, MN.tl z ≠ 43 :: r := fun r e => by
  rw [e] at h
  have : (decide (43 ∈ MN.tl MN.letS) && r.all MN.okc) = true := h
  rw [show decide (43 ∈ MN.tl MN.letS) = false from by decide +kernel] at this
  cases this
theorem rmp_name {z : Str} (h : MN.nameL (MN.tl z) = true) : rmp z = z := rmp_no (name_no43 h)
theorem okc_all {z : Str} (h : MN.nameL (MN.tl z) = true) : (MN.tl z).all MN.okc = true := by
  cases e : MN.tl z with
  | nil => rfl
  | cons c r =>
    rw [e] at h
    have h : (decide (c ∈ MN.tl MN.letS) && r.all MN.okc) = true := h
    rw [Bool.and_eq_true] at h
    rw [List.all_cons, h.2, MN.let_okc h.1]
    rfl
theorem okc_lt {c : Nat} (h : MN.okc c = true) : c < 0x110000 ∧ c ≠ 46 ∧ c ≠ 43 := by
  unfold MN.okc at h
  rw [Bool.or_eq_true, decide_eq_true_eq, decide_eq_true_eq] at h
  have h1 : ∀ c ∈ MN.tl MN.letS, c < 0x110000 ∧ c ≠ 46 ∧ c ≠ 43 := by decide +kernel
  have h2 : ∀ c ∈ MN.tl MN.digS, c < 0x110000 ∧ c ≠ 46 ∧ c ≠ 43 := by decide +kernel
  exact h.elim (h1 c) (h2 c)
theorem ok_tl {z : Str} (h : ∀ c ∈ MN.tl z, c < 0x110000) : PyData.strOk z = true := by
  show z.cps.all (· < 0x110000) = true
  rw [← Array.all_toList, List.all_eq_true]
  exact fun c m => decide_eq_true (h c m)
theorem tl_ok {z : Str} (h : PyData.strOk z = true) : ∀ c ∈ MN.tl z, c < 0x110000 := by
  have h : z.cps.all (· < 0x110000) = true := h
  rw [← Array.all_toList, List.all_eq_true] at h
  exact fun c m => of_decide_eq_true (h c m)
theorem name_ok {z : Str} (h : MN.nameL (MN.tl z) = true) : PyData.strOk z = true := ok_tl fun c m => (okc_lt (List.all_eq_true.mp (okc_all h) c m)).1
theorem ok_app {y z : Str} (h1 : PyData.strOk y = true) (h2 : PyData.strOk z = true) : PyData.strOk (y ++ z) = true := ok_tl fun c m => by
  rw [MN.tl_app] at m
  exact (List.mem_append.mp m).elim (tl_ok h1 c) (tl_ok h2 c)
def innOf (ps : List MR.Part) (n : Str) : Str := match ps.find? fun p => p.nm == n with
  | some p => p.inn
  | none => MR.byteS
theorem find_nm {ps : List MR.Part} {p : MR.Part} (nd : (ps.map (·.nm)).Nodup) (m : p ∈ ps) : (ps.find? fun q => q.nm == p.nm) = some p := by
  induction ps with
  | nil => cases m
  | cons q r ih =>
    rw [List.map_cons, List.nodup_cons] at nd
    rw [List.find?_cons]
    by_cases h : q.nm = p.nm
    · rw [show (q.nm == p.nm) = true from beq_iff_eq.mpr h]
      rcases List.mem_cons.mp m with m | m
      · rw [m]
      · exact absurd (List.mem_map_of_mem (f := fun x : MR.Part => x.nm) m) (by rw [← h]; exact nd.1)
    · rw [show (q.nm == p.nm) = false from beq_eq_false_iff_ne.mpr h]
      rcases List.mem_cons.mp m with m | m
      · exact absurd (congrArg (·.nm) m.symm) h
      · exact ih nd.2 m
theorem inn_of {ps : List MR.Part} {p : MR.Part} (nd : (ps.map (·.nm)).Nodup) (m : p ∈ ps) : innOf ps p.nm = p.inn := by
  unfold innOf
  rw [find_nm nd m]
/-- a slot: with a plus sign or not -/
def slotS (p : MR.Part) (b : Bool) : Str := if b then plusS ++ p.nm else p.nm
def SpecOk (ps : List MR.Part) (zs : List Str) : Prop := ∃ xs : List (MR.Part × Bool), (xs.map (·.1)).Perm ps ∧ (∀ x ∈ xs, x.2 = true → x.1.inn ≠ MR.byteS) ∧ zs = xs.map fun x => slotS x.1 x.2
theorem rmp_slot {p : MR.Part} {b : Bool} (h : MN.nameL (MN.tl p.nm) = true) : rmp (slotS p b) = p.nm := by
  unfold slotS
  cases b with
  | true => exact rmp_plus _
  | false => exact rmp_name h
theorem spec_strs {ps : List MR.Part} {zs : List Str} (hn : ∀ p ∈ ps, MN.nameL (MN.tl p.nm) = true ∧ p.nm.length ≤ 8) (h : SpecOk ps zs) : ∀ z ∈ zs, PyData.strOk z = true ∧ z.length ≤ 9 := by
  obtain ⟨xs, hp, hb, rfl⟩ := h
  intro z m
  obtain ⟨x, mx, rfl⟩ := List.mem_map.mp m
  have h := hn x.1 (hp.mem_iff.mp (List.mem_map_of_mem mx))
  unfold slotS
  cases x.2 with
  | true =>
    refine ⟨ok_app (by decide +kernel) (name_ok h.1), ?_⟩
    show (plusS ++ x.1.nm).length ≤ 9
    rw [MN.len_tl, MN.tl_app, List.length_append, ← MN.len_tl, ← MN.len_tl]
    have : plusS.length = 1 := by decide
    omega
  | false => exact ⟨name_ok h.1, Nat.le_trans h.2 (by decide)⟩
theorem SpecOk.len {ps : List MR.Part} {zs : List Str} (h : SpecOk ps zs) : zs.length = ps.length := by
  obtain ⟨xs, hp, _, rfl⟩ := h
  rw [List.length_map, ← hp.length_eq, List.length_map]
def specD (zs : List Str) : D := .tup (zs.map D.str)
def spD (sps : List (Str × List Str)) : List (Key × D) := sps.map fun p => (.inr p.1, specD p.2)
theorem valD_spD : ∀ (sps : List (Str × List Str)) (m : Str), valD (spD sps) (.inr m) = (sps.lookup m).map specD
  | [], _ => rfl
  | (x, zs) :: r, m => by
    show valD ((Sum.inr x, specD zs) :: spD r) (.inr m) = _
    rw [ML.valD_cons, List.lookup_cons]
    by_cases h : x = m
    · subst h
      rw [if_pos rfl, beq_self_eq_true]
      rfl
    · rw [if_neg (fun q => h (by cases q; rfl)), show (m == x) = false from beq_eq_false_iff_ne.mpr (fun q => h q.symm), valD_spD r m]
def spOf (rows : List MR.Row) (sp : Str → List Str) : List (Str × List Str) := rows.map fun r => (r.maker, sp r.maker)
theorem lookup_spOf {rows : List MR.Row} {sp : Str → List Str} : ∀ {m : Str}, m ∈ rows.map (·.maker) → (spOf rows sp).lookup m = some (sp m) := by
  induction rows with
  | nil => intro m h; cases h
  | cons r t ih =>
    intro m h
    show List.lookup m ((r.maker, sp r.maker) :: spOf t sp) = _
    rw [List.lookup_cons]
    by_cases q : m = r.maker
    · subst q
      rw [beq_self_eq_true]
    · rw [show (m == r.maker) = false from beq_eq_false_iff_ne.mpr q]
      exact ih ((List.mem_cons.mp h).resolve_left q)
theorem perm_erase {α : Type} : ∀ {l : List α} {i : Nat} (h : i < l.length), (l[i] :: l.eraseIdx i).Perm l
  | _ :: _, 0, _ => .refl _
  | x :: r, i + 1, h => by
    have h' : i < r.length := by simpa using h
    show (r[i] :: x :: r.eraseIdx i).Perm (x :: r)
    exact (List.Perm.swap x r[i] _).trans ((perm_erase h').cons x)
end MY
namespace MY
open PySem PySem.Spec PyProof.Rows L2 DL
/-- names as they are drawn, prices of tree parts alone -/
structure Neat (ps : List MR.Part) : Prop where
  len : ps.length ≤ 4
  nd : (ps.map (·.nm)).Nodup
  name : ∀ p ∈ ps, MN.nameL (MN.tl p.nm) = true ∧ p.nm.length ≤ 8
  ok : ∀ p ∈ ps, (p.inn = MR.byteS ∧ p.pr = none) ∨ (p.inn ≠ MR.byteS ∧ ∃ i : Int, p.pr = some i ∧ 1 ≤ i ∧ i ≤ 1000)
theorem neat_of {nms : List Str} {b : Bool} {ps : List MR.Part} (hb : MR.byteS ∉ nms) (h : MR.Drawn nms b ps) : Neat ps where
  len := h.len
  nd := h.nd
  name := h.name
  ok := fun p m => (h.ok p m).imp id fun ⟨z, i, y⟩ => ⟨fun e => hb (e ▸ z), i, y⟩
end MY
namespace TR
open PySem PySem.Spec PyProof.Rows L2 DL
theorem at0 {x : D} {xs : List D} : atI (x :: xs) 0 = some x := atI_nat (j := 0) rfl
def byteB : D → Bool
  | .int i => decide (0 ≤ i) && decide (i ≤ 255)
  | _ => false
def findR (rows : List MR.Row) (m : Str) : Option MR.Row := rows.find? fun r => decide (r.maker = m)
def fitB (rows : List MR.Row) : Nat → D → Str → Bool
  | 0, _, _ => false
  | n + 1, .tup (.str m :: ds), k => match findR rows m with
    | some r => decide (r.kind = k) && (decide (ds.length = r.parts.length) && (r.parts.zip ds).all fun x => if x.1.inn = MR.byteS then byteB x.2 else fitB rows n x.2 x.1.inn)
    | none => false
  | _ + 1, _, _ => false
theorem findR_of {rows : List MR.Row} (nd : (rows.map (·.maker)).Nodup) {r : MR.Row} (m : r ∈ rows) : findR rows r.maker = some r := by
  unfold findR
  induction rows with
  | nil => cases m
  | cons x t ih =>
    rw [List.map_cons, List.nodup_cons] at nd
    rw [List.find?_cons]
    by_cases h : x.maker = r.maker
    · rw [decide_eq_true h]
      rcases List.mem_cons.mp m with m | m
      · rw [m]
      · exact absurd (List.mem_map_of_mem (f := fun r : MR.Row => r.maker) m) (by rw [← h]; exact nd.1)
    · rw [decide_eq_false h]
      rcases List.mem_cons.mp m with m | m
      · exact absurd (by rw [m]) h
      · exact ih nd.2 m
theorem findR_some {rows : List MR.Row} {m : Str} {r : MR.Row} (h : findR rows m = some r) : r ∈ rows ∧ r.maker = m := ⟨List.mem_of_find?_eq_some h, of_decide_eq_true (List.find?_some (p := fun r : MR.Row => decide (r.maker = m)) h)⟩
/-- the values of a node: bytes, and trees as T has them -/
def Vals (T : Str → D → Prop) (ps : List MR.Part) (ds : List D) : Prop := ds.length = ps.length ∧ ∀ (i : Nat) (p : MR.Part) (d : D), ps[i]? = some p → ds[i]? = some d → (p.inn = MR.byteS ∧ ∃ b : Nat, b < 256 ∧ d = .int (b : Nat)) ∨ (p.inn ≠ MR.byteS ∧ T p.inn d)
theorem byteB_iff {d : D} : byteB d = true ↔ ∃ b : Nat, b < 256 ∧ d = .int (b : Nat) := by
  constructor
  · intro h
    cases d with
    | int i =>
      have h : (decide (0 ≤ i) && decide (i ≤ 255)) = true := h
      rw [Bool.and_eq_true, decide_eq_true_eq, decide_eq_true_eq] at h
      exact ⟨i.toNat, by omega, by congr 1; omega⟩
    | _ => cases h
  · rintro ⟨b, hb, rfl⟩
    show (decide (0 ≤ ((b : Nat) : Int)) && decide (((b : Nat) : Int) ≤ 255)) = true
    rw [Bool.and_eq_true, decide_eq_true_eq, decide_eq_true_eq]
    omega
theorem zip_all {α β : Type} {f : α × β → Bool} {xs : List α} {ys : List β} (hl : ys.length = xs.length) : ((xs.zip ys).all f = true) ↔ ∀ (i : Nat) (x : α) (y : β), xs[i]? = some x → ys[i]? = some y → f (x, y) = true := by
  induction xs generalizing ys with
  | nil =>
    simp
  | cons x t ih =>
    cases ys with
    | nil => simp at hl
    | cons y u =>
      rw [List.zip_cons_cons, List.all_cons, Bool.and_eq_true, ih (by simpa using hl)]
      constructor
      · rintro ⟨h1, h2⟩ i a b e1 e2
        cases i with
        | zero =>
          cases e1
          cases e2
          exact h1
        | succ i => exact h2 i a b e1 e2
      · intro h
        exact ⟨h 0 x y rfl rfl, fun i a b e1 e2 => h (i + 1) a b e1 e2⟩
theorem fit_inv {rows : List MR.Row} {n : Nat} {d : D} {k : Str} (h : fitB rows n d k = true) : ∃ m, n = m + 1 ∧ ∃ r ∈ rows, ∃ ds, d = .tup (.str r.maker :: ds) ∧ r.kind = k ∧ findR rows r.maker = some r ∧ Vals (fun k d => fitB rows m d k = true) r.parts ds := by
  cases n with
  | zero => cases h
  | succ m =>
    refine ⟨m, rfl, ?_⟩
    cases d with
    | tup ds =>
      cases ds with
      | nil => cases h
      | cons x ds =>
        cases x with
        | str z =>
          replace h : (match findR rows z with
            | some r => decide (r.kind = k) && (decide (ds.length = r.parts.length) && (r.parts.zip ds).all fun x => if x.1.inn = MR.byteS then byteB x.2 else fitB rows m x.2 x.1.inn)
            | none => false) = true := h
          revert h
          cases hr : findR rows z with
          | none =>
            intro h
            cases h
          | some r =>
            intro h
            have h : (decide (r.kind = k) && (decide (ds.length = r.parts.length) && (r.parts.zip ds).all fun x => if x.1.inn = MR.byteS then byteB x.2 else fitB rows m x.2 x.1.inn)) = true := h
            obtain ⟨mr, e⟩ := findR_some hr
            subst e
            rw [Bool.and_eq_true, Bool.and_eq_true, decide_eq_true_eq, decide_eq_true_eq] at h
            obtain ⟨h1, h2, h3⟩ := h
            refine ⟨r, mr, ds, rfl, h1, hr, h2, fun i p d e1 e2 => ?_⟩
            have := (zip_all h2).mp h3 i p d e1 e2
            by_cases hb : p.inn = MR.byteS
            · rw [if_pos hb] at this
              exact .inl ⟨hb, byteB_iff.mp this⟩
            · rw [if_neg hb] at this
              exact .inr ⟨hb, this⟩
        | _ => cases h
    | _ => cases h
theorem fit_mk {rows : List MR.Row} {n : Nat} {r : MR.Row} {ds : List D} (hf : findR rows r.maker = some r) (hv : Vals (fun k d => fitB rows n d k = true) r.parts ds) : fitB rows (n + 1) (.tup (.str r.maker :: ds)) r.kind = true := by
  unfold fitB
  rw [hf]
  simp only [decide_true, Bool.true_and, Bool.and_eq_true, decide_eq_true_eq]
  refine ⟨hv.1, (zip_all hv.1).mpr fun i p d e1 e2 => ?_⟩
  rcases hv.2 i p d e1 e2 with ⟨hb, hv⟩ | ⟨hb, hv⟩
  · rw [if_pos hb]
    exact byteB_iff.mpr hv
  · rw [if_neg hb]
    exact hv
theorem Vals.imp {T T' : Str → D → Prop} {ps : List MR.Part} {ds : List D} (h : Vals T ps ds) (i : ∀ k d, T k d → T' k d) : Vals T' ps ds := ⟨h.1, fun j p d e1 e2 => (h.2 j p d e1 e2).imp id fun ⟨a, b⟩ => ⟨a, i _ _ b⟩⟩
theorem fit_mono {rows : List MR.Row} : ∀ {n m : Nat} {d : D} {k : Str}, fitB rows n d k = true → n ≤ m → fitB rows m d k = true := by
  intro n
  induction n with
  | zero => intro m d k h; cases h
  | succ n ih =>
    intro m d k h l
    obtain ⟨n', e, r, mr, ds, rfl, rfl, hf, hv⟩ := fit_inv h
    cases e
    cases m with
    | zero => omega
    | succ m => exact fit_mk hf (hv.imp fun k d z => ih z (by omega))
def valOf (ps : List MR.Part) (ds : List D) (nm : Str) : D := (((ps.zip ds).find? fun x => decide (x.1.nm = nm)).map (·.2)).getD .non
def tagOf (rows : List MR.Row) (r : MR.Row) : Nat := (MI.makersOf r.kind rows).idxOf r.maker
def intB : D → Bool
  | .int _ => true
  | _ => false
def slotT (f : D → List Nat) (z : Str) (v : D) : List Nat := match v with
  | .int b => [b.toNat]
  | v => if z = MY.rmp z then f v else (f v).length / 256 :: (f v).length % 256 :: f v
theorem slotT_ne {f : D → List Nat} {z : Str} {v : D} (h : intB v = false) : slotT f z v = if z = MY.rmp z then f v else (f v).length / 256 :: (f v).length % 256 :: f v := by
  cases v with
  | int i => cases h
  | _ => rfl
def packT (rows : List MR.Row) (sp : Str → List Str) : Nat → D → List Nat
  | 0, _ => []
  | n + 1, .tup (.str m :: ds) => match findR rows m with
    | some r => tagOf rows r :: (sp m).flatMap fun z => slotT (packT rows sp n) z (valOf r.parts ds (MY.rmp z))
    | none => []
  | _ + 1, _ => []
theorem find_zip {ps : List MR.Part} {ds : List D} {i : Nat} {p : MR.Part} {d : D} (nd : (ps.map (·.nm)).Nodup) (hp : ps[i]? = some p) (hd : ds[i]? = some d) : (ps.zip ds).find? (fun x => decide (x.1.nm = p.nm)) = some (p, d) := by
  induction ps generalizing ds i with
  | nil => simp at hp
  | cons q t ih =>
    cases ds with
    | nil => simp at hd
    | cons e u =>
      rw [List.map_cons, List.nodup_cons] at nd
      rw [List.zip_cons_cons, List.find?_cons]
      cases i with
      | zero =>
        cases hp
        cases hd
        rw [decide_eq_true rfl]
      | succ i =>
        have hp : t[i]? = some p := hp
        have hne : q.nm ≠ p.nm := fun e => nd.1 (by rw [e]; exact List.mem_map_of_mem (f := fun p : MR.Part => p.nm) (List.mem_of_getElem? hp))
        rw [decide_eq_false hne]
        exact ih nd.2 hp hd
theorem valOf_at {ps : List MR.Part} {ds : List D} {i : Nat} {p : MR.Part} {d : D} (nd : (ps.map (·.nm)).Nodup) (hp : ps[i]? = some p) (hd : ds[i]? = some d) : valOf ps ds p.nm = d := by
  unfold valOf
  rw [find_zip nd hp hd]
  rfl
/-- the value of a part, by its name -/
theorem Vals.of {T : Str → D → Prop} {ps : List MR.Part} {ds : List D} (h : Vals T ps ds) (nd : (ps.map (·.nm)).Nodup) {p : MR.Part} (m : p ∈ ps) : (p.inn = MR.byteS ∧ ∃ b : Nat, b < 256 ∧ valOf ps ds p.nm = .int (b : Nat)) ∨ (p.inn ≠ MR.byteS ∧ T p.inn (valOf ps ds p.nm)) := by
  obtain ⟨i, e⟩ := List.mem_iff_getElem?.mp m
  have hi : i < ds.length := by rw [h.1]; exact (List.getElem?_eq_some_iff.mp e).1
  have e2 := List.getElem?_eq_getElem hi
  rw [valOf_at nd e e2]
  exact h.2 i p _ e e2
theorem pack_mk {rows : List MR.Row} {sp : Str → List Str} {n : Nat} {r : MR.Row} {ds : List D} (hf : findR rows r.maker = some r) : packT rows sp (n + 1) (.tup (.str r.maker :: ds)) = tagOf rows r :: (sp r.maker).flatMap fun z => slotT (packT rows sp n) z (valOf r.parts ds (MY.rmp z)) := by
  rw [packT]
  rw [hf]
theorem tag_at {rows : List MR.Row} (nd : (rows.map (·.maker)).Nodup) {i : Nat} {r : MR.Row} (hr : rows[i]? = some r) : (MI.makersOf r.kind (rows.take i)).length = tagOf rows r := by
  have h := MI.makers_at hr
  have hn := MI.makers_nd nd r.kind
  unfold tagOf
  have hl := (List.getElem?_eq_some_iff.mp h).1
  have := (List.getElem?_eq_some_iff.mp h).2
  rw [← this]
  exact (List.Nodup.idxOf_getElem hn _ hl).symm
theorem tag_get {rows : List MR.Row} (nd : (rows.map (·.maker)).Nodup) {r : MR.Row} (m : r ∈ rows) : (MI.makersOf r.kind rows)[tagOf rows r]? = some r.maker := by
  obtain ⟨i, hi⟩ := List.mem_iff_getElem?.mp m
  rw [← tag_at nd hi]
  exact MI.makers_at hi
def readSlots (rd : Str → Nat → Except Nat (D × Nat)) (ps : List MR.Part) (row : List Nat) : List Str → List (Str × D) → Nat → Except Nat (List (Str × D) × Nat)
  | [], vs, p => .ok (vs, p)
  | z :: zs, vs, p =>
    if MY.innOf ps (MY.rmp z) = MR.byteS then (match row[p]? with
      | none => .error row.length
      | some b => readSlots rd ps row zs (vs ++ [(MY.rmp z, .int (b : Nat))]) (p + 1))
    else if z = MY.rmp z then (match rd (MY.innOf ps (MY.rmp z)) p with
      | .error e => .error e
      | .ok x => readSlots rd ps row zs (vs ++ [(MY.rmp z, x.1)]) x.2)
    else if row.length < p + 2 then .error row.length
    else (match rd (MY.innOf ps (MY.rmp z)) (p + 2) with
      | .error e => .error e
      | .ok x => if x.2 = p + 2 + (row.getD p 0 * 256 + row.getD (p + 1) 0) then readSlots rd ps row zs (vs ++ [(MY.rmp z, x.1)]) x.2 else .error p)
def valS (vs : List (Str × D)) (nm : Str) : D := (vs.lookup nm).getD .non
def readT (rows : List MR.Row) (sp : Str → List Str) (row : List Nat) : Nat → Str → Nat → Nat → Except Nat (D × Nat)
  | 0, _, _, _ => .error 0
  | n + 1, kind, depth, p => match row[p]? with
    | none => .error row.length
    | some tag => match (MI.makersOf kind rows)[tag]? with
      | none => .error p
      | some m => if 40 < depth then .error p else match findR rows m with
        | none => .error p
        | some r => match readSlots (fun k p => readT rows sp row n k (depth + 1) p) r.parts row (sp m) [] (p + 1) with
          | .error e => .error e
          | .ok x => .ok (.tup (.str m :: r.parts.map fun q => valS x.1 q.nm), x.2)
theorem innOf_at {ps : List MR.Part} {z : Str} (hn : MY.Neat ps) {p : MR.Part} (m : p ∈ ps) (e : MY.rmp z = p.nm) : MY.innOf ps (MY.rmp z) = p.inn := by
  rw [e, MY.inn_of hn.nd m]
theorem drop_cons {row : List Nat} {p : Nat} {b : Nat} {w : List Nat} (h : row.drop p = b :: w) : row[p]? = some b ∧ row.drop (p + 1) = w ∧ p < row.length := by
  have h1 : (row.drop p)[0]? = some b := by rw [h]; rfl
  rw [List.getElem?_drop] at h1
  refine ⟨h1, ?_, (List.getElem?_eq_some_iff.mp h1).1⟩
  rw [← List.drop_drop, h]
  rfl
theorem drop_app {row : List Nat} {p : Nat} {u w : List Nat} (h : row.drop p = u ++ w) : row.drop (p + u.length) = w := by
  rw [← List.drop_drop, h, List.drop_left]
theorem slots_back {ps : List MR.Part} {ds : List D} {row : List Nat} (hn : MY.Neat ps) {T : Str → D → Prop} (hv : Vals T ps ds) (f : D → List Nat) (rd : Str → Nat → Except Nat (D × Nat)) (hrd : ∀ k d p w, T k d → row.drop p = f d ++ w → rd k p = .ok (d, p + (f d).length)) (hl : ∀ k d, T k d → (f d).length < 65536) (hni : ∀ k d, T k d → intB d = false) :
    ∀ (zs : List Str) (vs : List (Str × D)) (p : Nat) (w : List Nat), (∀ z ∈ zs, MY.rmp z ∈ ps.map (·.nm)) → row.drop p = (zs.flatMap fun z => slotT f z (valOf ps ds (MY.rmp z))) ++ w →
      readSlots rd ps row zs vs p = .ok (vs ++ zs.map (fun z => (MY.rmp z, valOf ps ds (MY.rmp z))), p + (zs.flatMap fun z => slotT f z (valOf ps ds (MY.rmp z))).length)
  | [], vs, p, w, _, _ => by
    simp [readSlots]
  | z :: zs, vs, p, w, hz, h => by
    obtain ⟨q, mq, eq⟩ := List.mem_map.mp (hz z List.mem_cons_self)
    have hin := innOf_at hn mq eq.symm
    rw [List.flatMap_cons, List.append_assoc] at h
    have ih := fun vs p h => slots_back hn hv f rd hrd hl hni zs vs p w (fun y m => hz y (List.mem_cons_of_mem _ m)) h
    unfold readSlots
    rw [hin]
    rw [← eq]
    have hva := hv.of hn.nd mq
    rcases hva with ⟨hb, b, hb2, ev⟩ | ⟨hb, ht⟩
    · rw [if_pos hb]
      rw [← eq, ev] at h
      have h : row.drop p = b :: ((zs.flatMap fun z => slotT f z (valOf ps ds (MY.rmp z))) ++ w) := h
      obtain ⟨h1, h2, _⟩ := drop_cons h
      rw [h1]
      simp only
      rw [ih _ _ h2, List.flatMap_cons, List.map_cons, ← eq, ev]
      show Except.ok (_, _) = Except.ok (_, _)
      congr 2
      · simp
      · rw [List.length_append]
        show p + 1 + _ = p + (1 + _)
        omega
    · rw [if_neg hb]
      have hnint : slotT f z (valOf ps ds q.nm) = if z = MY.rmp z then f (valOf ps ds q.nm) else (f (valOf ps ds q.nm)).length / 256 :: (f (valOf ps ds q.nm)).length % 256 :: f (valOf ps ds q.nm) := slotT_ne (hni _ _ ht)
      rw [← eq, hnint] at h
      by_cases hp : z = q.nm
      · rw [if_pos hp]
        rw [if_pos (by rw [← eq]; exact hp)] at h
        rw [hrd _ _ p _ ht h]
        simp only
        rw [ih _ _ (drop_app h), List.flatMap_cons, List.map_cons, ← eq, hnint, if_pos (by rw [← eq]; exact hp)]
        show Except.ok (_, _) = Except.ok (_, _)
        congr 2
        · simp
        · rw [List.length_append]
          omega
      · rw [if_neg hp]
        rw [if_neg (by rw [← eq]; exact hp)] at h
        obtain ⟨h1, h2, h3⟩ := drop_cons (w := ((f (valOf ps ds q.nm)).length % 256) :: (f (valOf ps ds q.nm) ++ ((zs.flatMap fun z => slotT f z (valOf ps ds (MY.rmp z))) ++ w))) (by rw [h]; rfl)
        obtain ⟨h4, h5, h6⟩ := drop_cons h2
        rw [if_neg (by omega)]
        rw [hrd _ _ (p + 2) _ ht h5]
        simp only
        have hlen := hl _ _ ht
        rw [if_pos (by rw [List.getD_eq_getElem?_getD, List.getD_eq_getElem?_getD, h1, h4]; show _ = p + 2 + (_ / 256 * 256 + _ % 256); omega)]
        rw [ih _ _ (drop_app h5), List.flatMap_cons, List.map_cons, ← eq, hnint, if_neg (by rw [← eq]; exact hp)]
        show Except.ok (_, _) = Except.ok (_, _)
        congr 2
        · simp
        · rw [List.length_append, List.length_cons, List.length_cons]
          omega
theorem vals_map {ps : List MR.Part} {ds : List D} (nd : (ps.map (·.nm)).Nodup) (hl : ds.length = ps.length) : (ps.map (·.nm)).map (valOf ps ds) = ds := by
  apply List.ext_getElem?
  intro i
  rw [List.map_map, List.getElem?_map]
  cases e : ps[i]? with
  | none =>
    have : ps.length ≤ i := List.getElem?_eq_none_iff.mp e
    rw [List.getElem?_eq_none (by omega)]
    rfl
  | some p =>
    have hi : i < ds.length := by rw [hl]; exact (List.getElem?_eq_some_iff.mp e).1
    rw [List.getElem?_eq_getElem hi]
    show some (valOf ps ds p.nm) = _
    rw [valOf_at nd e (List.getElem?_eq_getElem hi)]
def szT : Nat → D → Nat
  | 0, _ => 0
  | n + 1, .tup ds => (ds.map fun d => 2 + szT n d).sum
  | _ + 1, _ => 0
theorem sum_le {α : Type} {f g : α → Nat} : ∀ {l : List α}, (∀ x ∈ l, f x ≤ g x) → (l.map f).sum ≤ (l.map g).sum
  | [], _ => Nat.le_refl _
  | x :: r, h => by
    rw [List.map_cons, List.map_cons, List.sum_cons, List.sum_cons]
    have h1 := h x List.mem_cons_self
    have h2 := sum_le fun y m => h y (List.mem_cons_of_mem x m)
    omega
theorem mem_sum {α : Type} {f : α → Nat} {x : α} : ∀ {l : List α}, x ∈ l → f x ≤ (l.map f).sum
  | y :: r, m => by
    rw [List.map_cons, List.sum_cons]
    rcases List.mem_cons.mp m with rfl | m
    · omega
    · have := mem_sum (f := f) m
      omega
/-- rows with their specs -/
structure Lay (rows : List MR.Row) (sp : Str → List Str) : Prop where
  nd : (rows.map (·.maker)).Nodup
  len : rows.length ≤ 10
  neat : ∀ r ∈ rows, MY.Neat r.parts
  spec : ∀ r ∈ rows, MY.SpecOk r.parts (sp r.maker)
theorem Lay.names {rows : List MR.Row} {sp : Str → List Str} (h : Lay rows sp) {r : MR.Row} (m : r ∈ rows) : ((sp r.maker).map MY.rmp).Perm (r.parts.map (·.nm)) := by
  obtain ⟨xs, h1, h2, e⟩ := h.spec r m
  rw [e, List.map_map]
  have : (xs.map (MY.rmp ∘ fun x => MY.slotS x.1 x.2)) = (xs.map (·.1)).map (·.nm) := by
    rw [List.map_map]
    refine List.map_congr_left fun x mx => ?_
    exact MY.rmp_slot ((h.neat r m).name x.1 (h1.mem_iff.mp (List.mem_map_of_mem mx))).1
  rw [this]
  exact h1.map _
theorem Lay.name_in {rows : List MR.Row} {sp : Str → List Str} (h : Lay rows sp) {r : MR.Row} (m : r ∈ rows) {z : Str} (mz : z ∈ sp r.maker) : MY.rmp z ∈ r.parts.map (·.nm) := (h.names m).mem_iff.mp (List.mem_map_of_mem mz)
theorem tree_int {rows : List MR.Row} {n : Nat} {d : D} {k : Str} (h : fitB rows n d k = true) : intB d = false := by
  obtain ⟨_, _, r, _, ds, rfl, _⟩ := fit_inv h
  rfl
theorem perm_sum {l m : List Nat} (h : l.Perm m) : l.sum = m.sum := by
  induction h with
  | nil => rfl
  | cons x _ ih => rw [List.sum_cons, List.sum_cons, ih]
  | swap x y l => simp only [List.sum_cons]; omega
  | trans _ _ h1 h2 => rw [h1, h2]
theorem flat_len {α β : Type} {f : α → List β} : ∀ {l : List α}, (l.flatMap f).length = (l.map fun x => (f x).length).sum
  | [] => rfl
  | x :: r => by rw [List.flatMap_cons, List.length_append, List.map_cons, List.sum_cons, flat_len]
theorem pack_len {rows : List MR.Row} {sp : Str → List Str} (hL : Lay rows sp) : ∀ {n : Nat} {d : D} {k : Str}, fitB rows n d k = true → (packT rows sp n d).length ≤ szT n d := by
  intro n
  induction n with
  | zero => intro d k h; cases h
  | succ n ih =>
    intro d k h
    obtain ⟨n', e, r, mr, ds, rfl, rfl, hf, hv⟩ := fit_inv h
    cases e
    rw [pack_mk hf]
    show (_ :: _ : List Nat).length ≤ ((D.str r.maker :: ds).map fun d => 2 + szT n d).sum
    rw [List.length_cons, flat_len, List.map_cons, List.sum_cons]
    have e1 : (ds.map fun d => 2 + szT n d).sum = ((sp r.maker).map fun z => 2 + szT n (valOf r.parts ds (MY.rmp z))).sum := by
      have h1 := (hL.names mr).map (fun nm => 2 + szT n (valOf r.parts ds nm))
      have h2 := perm_sum h1
      rw [List.map_map] at h2
      have h3 : (r.parts.map (·.nm)).map (fun nm => 2 + szT n (valOf r.parts ds nm)) = ds.map fun d => 2 + szT n d := by
          have h4 := congrArg (List.map fun d => 2 + szT n d) (vals_map (hL.neat r mr).nd hv.1)
          rw [← h4]
          simp only [List.map_map]
          rfl
      rw [h3] at h2
      exact h2.symm
    have e2 : ((sp r.maker).map fun z => (slotT (packT rows sp n) z (valOf r.parts ds (MY.rmp z))).length).sum ≤ ((sp r.maker).map fun z => 2 + szT n (valOf r.parts ds (MY.rmp z))).sum := by
      refine sum_le fun z mz => ?_
      obtain ⟨p, mp, ep⟩ := List.mem_map.mp (hL.name_in mr mz)
      rw [← ep]
      rcases hv.of (hL.neat r mr).nd mp with ⟨_, b, _, ev⟩ | ⟨_, ht⟩
      · rw [ev]
        show 1 ≤ _
        omega
      · rw [slotT_ne (tree_int ht)]
        have := ih ht
        split
        · omega
        · rw [List.length_cons, List.length_cons]
          omega
    omega
theorem fit_szv {rows : List MR.Row} {n : Nat} {r : MR.Row} {ds : List D} {d : D} (m : d ∈ ds) : 2 + szT n d ≤ szT (n + 1) (.tup (.str r.maker :: ds)) := by
  show 2 + szT n d ≤ ((D.str r.maker :: ds).map fun d => 2 + szT n d).sum
  rw [List.map_cons, List.sum_cons]
  have := mem_sum (f := fun d => 2 + szT n d) m
  omega
theorem valOf_mem {ps : List MR.Part} {ds : List D} (nd : (ps.map (·.nm)).Nodup) (hl : ds.length = ps.length) {p : MR.Part} (m : p ∈ ps) : valOf ps ds p.nm ∈ ds := by
  obtain ⟨i, e⟩ := List.mem_iff_getElem?.mp m
  have hi : i < ds.length := by rw [hl]; exact (List.getElem?_eq_some_iff.mp e).1
  rw [valOf_at nd e (List.getElem?_eq_getElem hi)]
  exact List.getElem_mem hi
theorem sz_stable {rows : List MR.Row} : ∀ {n m : Nat} {d : D} {k : Str}, fitB rows n d k = true → n ≤ m → szT m d = szT n d := by
  intro n
  induction n with
  | zero => intro m d k h; cases h
  | succ n ih =>
    intro m d k h l
    obtain ⟨n', e, r, mr, ds, rfl, rfl, hf, hv⟩ := fit_inv h
    cases e
    cases m with
    | zero => omega
    | succ m =>
      have hz : ∀ j, szT j (.str r.maker) = 0 := fun j => by cases j <;> rfl
      have hi : ∀ j (i : Int), szT j (.int i) = 0 := fun j i => by cases j <;> rfl
      show ((D.str r.maker :: ds).map fun d => 2 + szT m d).sum = ((D.str r.maker :: ds).map fun d => 2 + szT n d).sum
      rw [List.map_cons, List.map_cons, hz, hz]
      congr 2
      refine List.map_congr_left fun x mx => ?_
      obtain ⟨i, e⟩ := List.mem_iff_getElem?.mp mx
      have hlt : i < r.parts.length := by rw [← hv.1]; exact (List.getElem?_eq_some_iff.mp e).1
      rcases hv.2 i _ x (List.getElem?_eq_getElem hlt) e with ⟨_, b, _, rfl⟩ | ⟨_, z⟩
      · rw [hi, hi]
      · rw [ih z (by omega)]
theorem pack_stable {rows : List MR.Row} {sp : Str → List Str} (hL : Lay rows sp) : ∀ {n m : Nat} {d : D} {k : Str}, fitB rows n d k = true → n ≤ m → packT rows sp m d = packT rows sp n d := by
  intro n
  induction n with
  | zero => intro m d k h; cases h
  | succ n ih =>
    intro m d k h l
    obtain ⟨n', e, r, mr, ds, rfl, rfl, hf, hv⟩ := fit_inv h
    cases e
    cases m with
    | zero => omega
    | succ m =>
      rw [pack_mk hf, pack_mk hf]
      congr 1
      have : ∀ l : List Str, (∀ z ∈ l, z ∈ sp r.maker) → (l.flatMap fun z => slotT (packT rows sp m) z (valOf r.parts ds (MY.rmp z))) = l.flatMap fun z => slotT (packT rows sp n) z (valOf r.parts ds (MY.rmp z)) := by
        intro l
        induction l with
        | nil => intro _; rfl
        | cons z t iht =>
          intro hm
          rw [List.flatMap_cons, List.flatMap_cons, iht fun y my => hm y (List.mem_cons_of_mem _ my)]
          congr 1
          obtain ⟨p, mp, ep⟩ := List.mem_map.mp (hL.name_in mr (hm z List.mem_cons_self))
          rw [← ep]
          rcases hv.of (hL.neat r mr).nd mp with ⟨_, b, _, ev⟩ | ⟨_, ht⟩
          · rw [ev]
            rfl
          · rw [slotT_ne (tree_int ht), slotT_ne (tree_int ht), ih ht (by omega)]
      exact this _ fun _ m => m
def natD (ns : List Nat) : List D := ns.map fun n => D.int (n : Nat)
theorem natD_app (a b : List Nat) : natD (a ++ b) = natD a ++ natD b := by unfold natD; rw [List.map_append]
theorem natD_len (a : List Nat) : (natD a).length = a.length := by unfold natD; rw [List.length_map]
def bsD (bs : List MR.Row) : List (Key × D) := bs.map fun r => (.inr r.kind, MR.dRow r)
def kds (bs : List MR.Row) : List Str := bs.map (·.kind)
structure BaseOk (rows bs : List MR.Row) : Prop where
  sub : ∀ r ∈ bs, r ∈ rows
  nd : (kds bs).Nodup
  closed : ∀ (i : Nat) (r : MR.Row), bs[i]? = some r → ∀ p ∈ r.parts, p.inn = MR.byteS ∨ ∃ (j : Nat) (r' : MR.Row), j < i ∧ bs[j]? = some r' ∧ r'.kind = p.inn
theorem BaseOk.nil {rows : List MR.Row} : BaseOk rows [] := ⟨(fun r m => by cases m), List.nodup_nil, (fun i r h => by simp at h)⟩
theorem bsD_val (bs : List MR.Row) (z : Str) : valD (bsD bs) (.inr z) = (bs.find? fun r => decide (r.kind = z)).map MR.dRow := by
  unfold valD bsD
  rw [List.find?_map]
  have : ((fun kv : Key × D => decide (kv.1 = .inr z)) ∘ fun r : MR.Row => ((.inr r.kind : Key), MR.dRow r)) = fun r : MR.Row => decide (r.kind = z) := by
    funext x
    simp
  rw [this, Option.map_map]
  rfl
theorem bsD_some (bs : List MR.Row) (z : Str) : (valD (bsD bs) (.inr z)).isSome = decide (z ∈ kds bs) := by
  rw [bsD_val, Option.isSome_map, Bool.eq_iff_iff, List.find?_isSome, decide_eq_true_iff]
  unfold kds
  constructor
  · rintro ⟨r, m, e⟩
    exact List.mem_map.mpr ⟨r, m, of_decide_eq_true e⟩
  · intro h
    obtain ⟨r, m, e⟩ := List.mem_map.mp h
    exact ⟨r, m, decide_eq_true e⟩
theorem bsD_get {bs : List MR.Row} (nd : (kds bs).Nodup) {r : MR.Row} (m : r ∈ bs) : valD (bsD bs) (.inr r.kind) = some (MR.dRow r) := by
  rw [bsD_val]
  have key : ∀ bs : List MR.Row, (kds bs).Nodup → r ∈ bs → bs.find? (fun x => decide (x.kind = r.kind)) = some r := by
    intro bs nd m
    induction bs with
    | nil => cases m
    | cons x t ih =>
      unfold kds at nd
      rw [List.map_cons, List.nodup_cons] at nd
      rw [List.find?_cons]
      by_cases h : x.kind = r.kind
      · rw [decide_eq_true h]
        rcases List.mem_cons.mp m with m | m
        · rw [m]
        · exact absurd (List.mem_map_of_mem (f := fun r : MR.Row => r.kind) m) (by rw [← h]; exact nd.1)
      · rw [decide_eq_false h]
        rcases List.mem_cons.mp m with m | m
        · exact absurd (by rw [m]) h
        · exact ih nd.2 m
  rw [key bs nd m]
  rfl
theorem bsD_put {bs : List MR.Row} {r : MR.Row} (h : r.kind ∉ kds bs) : putDk (bsD bs) (.inr r.kind) (MR.dRow r) = bsD (bs ++ [r]) := by
  unfold putDk
  rw [if_neg]
  · unfold bsD
    rw [List.map_append]
    rfl
  · rw [List.any_eq_true]
    rintro ⟨kv, mm, e⟩
    obtain ⟨x, mx, rfl⟩ := List.mem_map.mp mm
    have e : x.kind = r.kind := by simpa using e
    exact h (by rw [← e]; exact List.mem_map_of_mem (f := fun r : MR.Row => r.kind) mx)
theorem kds_app (a b : List MR.Row) : kds (a ++ b) = kds a ++ kds b := by unfold kds; rw [List.map_append]
theorem kds_at {bs : List MR.Row} {z : Str} (h : z ∈ kds bs) : ∃ (j : Nat) (r : MR.Row), bs[j]? = some r ∧ r.kind = z := by
  obtain ⟨r, m, e⟩ := List.mem_map.mp h
  obtain ⟨j, hj⟩ := List.mem_iff_getElem?.mp m
  exact ⟨j, r, hj, e⟩
theorem BaseOk.snoc {rows bs : List MR.Row} {r : MR.Row} (h : BaseOk rows bs) (m : r ∈ rows) (hn : r.kind ∉ kds bs) (hp : ∀ p ∈ r.parts, p.inn = MR.byteS ∨ p.inn ∈ kds bs) : BaseOk rows (bs ++ [r]) where
  sub := fun x mx => (List.mem_append.mp mx).elim (h.sub x) fun e => by rw [List.mem_singleton.mp e]; exact m
  nd := by
    rw [kds_app, List.nodup_append]
    refine ⟨h.nd, by simp [kds], fun a ma b mb e => ?_⟩
    have : b = r.kind := by simpa [kds] using mb
    subst this
    subst e
    exact hn ma
  closed := fun i x hx p mp => by
    rcases Nat.lt_trichotomy i bs.length with z | z | z
    · rw [List.getElem?_append_left z] at hx
      refine (h.closed i x hx p mp).imp id fun ⟨j, r', hj, e, e2⟩ => ⟨j, r', hj, ?_, e2⟩
      rw [List.getElem?_append_left (by omega)]
      exact e
    · subst z
      have : r = x := by simpa using hx
      subst this
      refine (hp p mp).imp id fun hk => ?_
      obtain ⟨j, r', hj, e⟩ := kds_at hk
      have hl := (List.getElem?_eq_some_iff.mp hj).1
      exact ⟨j, r', hl, by rw [List.getElem?_append_left hl]; exact hj, e⟩
    · rw [List.getElem?_eq_none (by simp; omega)] at hx
      cases hx
/-- a row whose kinds are all there -/
def allIn (bs : List MR.Row) (r : MR.Row) : Bool := (r.parts.filter fun p => !(p.inn == MR.byteS) && !decide (p.inn ∈ kds bs)).isEmpty
theorem allIn_iff {bs : List MR.Row} {r : MR.Row} : allIn bs r = true ↔ ∀ p ∈ r.parts, p.inn = MR.byteS ∨ p.inn ∈ kds bs := by
  unfold allIn
  rw [List.isEmpty_iff, List.filter_eq_nil_iff]
  constructor
  · intro h p m
    have := h p m
    rw [Bool.and_eq_true, Bool.not_eq_true', Bool.not_eq_true', decide_eq_false_iff_not] at this
    by_cases e : p.inn = MR.byteS
    · exact .inl e
    · exact .inr (Classical.byContradiction fun q => this ⟨beq_eq_false_iff_ne.mpr e, q⟩)
  · intro h p m
    rw [Bool.and_eq_true, Bool.not_eq_true', Bool.not_eq_true', decide_eq_false_iff_not]
    rintro ⟨h1, h2⟩
    rcases h p m with e | e
    · exact beq_eq_false_iff_ne.mp h1 e
    · exact h2 e
/-- a turn is over -/
theorem base_turn {nms : List Str} {rows bs bs' : List MR.Row} {t : Nat} (hT : MR.Table nms rows) (h0 : ∀ k z, nms.length ≤ k + t → nms[k]? = some z → z ∈ kds bs) (hs : ∀ z ∈ kds bs, z ∈ kds bs') (hall : ∀ r ∈ rows, (∀ p ∈ r.parts, p.inn = MR.byteS ∨ p.inn ∈ kds bs) → r.kind ∈ kds bs') : ∀ k z, nms.length ≤ k + (t + 1) → nms[k]? = some z → z ∈ kds bs' := by
  intro k z hk hz
  have hlt := (List.getElem?_eq_some_iff.mp hz).1
  by_cases e : nms.length ≤ k + t
  · exact hs z (h0 k z e hz)
  · obtain ⟨r, mr, er, hp⟩ := hT.base k hlt
    rw [hz] at er
    cases er
    refine hall r mr fun p mp => (hp p mp).imp id fun m => ?_
    obtain ⟨j, hj⟩ := List.mem_iff_getElem?.mp m
    rw [List.getElem?_drop] at hj
    exact h0 (k + 1 + j) _ (by omega) hj
theorem base_few {nms : List Str} {rows bs : List MR.Row} (hT : MR.Table nms rows) (h : BaseOk rows bs) : bs.length ≤ 3 := by
  have h1 := MI.nd_le h.nd (m := nms) fun z mz => by
    obtain ⟨r, mr, e⟩ := List.mem_map.mp mz
    rw [← e]
    exact hT.some.kind r (h.sub r mr)
  have := hT.few
  have e : (kds bs).length = bs.length := by unfold kds; rw [List.length_map]
  omega
theorem sz_node {n : Nat} {m : Str} {vs : List D} : szT (n + 1) (.tup (.str m :: vs)) = 2 + (vs.map fun d => 2 + szT n d).sum := by
  show ((D.str m :: vs).map fun d => 2 + szT n d).sum = _
  rw [List.map_cons, List.sum_cons]
  have : szT n (.str m) = 0 := by cases n <;> rfl
  rw [this]
def capT (fuel i : Nat) : Nat := if fuel = 0 then 10 * 5 ^ i else 250 + 1000 * fuel
def lowT (fuel i : Nat) : Nat := if fuel = 0 then (if i = 0 then 0 else 10 * 5 ^ (i - 1)) else 250
theorem cap_le {fuel i : Nat} (hi : i ≤ 2) : capT fuel i ≤ 250 + 1000 * fuel := by
  unfold capT
  split
  · have : (5 : Nat) ^ i ≤ 5 ^ 2 := Nat.pow_le_pow_right (by decide) hi
    omega
  · exact Nat.le_refl _
theorem cap_child {fuel i s j : Nat} (hj : j ≤ 2) (h0 : fuel = 0 → s = 0 ∧ j < i) : capT s j ≤ lowT fuel i + 1000 * s := by
  by_cases e : fuel = 0
  · obtain ⟨rfl, hlt⟩ := h0 e
    unfold capT lowT
    rw [if_pos rfl, if_pos e, if_neg (by omega)]
    have : (5 : Nat) ^ j ≤ 5 ^ (i - 1) := Nat.pow_le_pow_right (by decide) (by omega)
    omega
  · have := cap_le (fuel := s) hj
    unfold lowT
    rw [if_neg e]
    exact this
theorem cap_all {fuel i c u x : Nat} (hc : c ≤ 4) (hu : u ≤ fuel - 1) (hx : x ≤ c * (2 + lowT fuel i) + 1000 * u) : 2 + x ≤ capT fuel i := by
  unfold lowT at hx
  unfold capT
  by_cases e : fuel = 0
  · rw [if_pos e] at hx ⊢
    by_cases e2 : i = 0
    · rw [if_pos e2] at hx
      subst e2
      have : c * (2 + 0) ≤ 4 * (2 + 0) := Nat.mul_le_mul_right _ hc
      have : u = 0 := by omega
      omega
    · rw [if_neg e2] at hx
      have h1 : c * (2 + 10 * 5 ^ (i - 1)) ≤ 4 * (2 + 10 * 5 ^ (i - 1)) := Nat.mul_le_mul_right _ hc
      have h2 : (5 : Nat) ^ i = 5 * 5 ^ (i - 1) := by
        conv => lhs; rw [show i = (i - 1) + 1 by omega, Nat.pow_succ]
        exact Nat.mul_comm _ _
      have h3 : 1 ≤ (5 : Nat) ^ (i - 1) := Nat.pow_pos (by decide)
      omega
  · rw [if_neg e] at hx ⊢
    have : c * (2 + 250) ≤ 4 * (2 + 250) := Nat.mul_le_mul_right _ hc
    omega
theorem slot_sign {ps : List MR.Part} {zs : List Str} (hn : MY.Neat ps) (h : MY.SpecOk ps zs) {z : Str} (m : z ∈ zs) : ∃ c : Nat, atI z.cps.toList 0 = some c ∧ ((⟨#[c]⟩ : Str) == ("+" : Str)) = !decide (z = MY.rmp z) ∧ Txt.replace z ("+" : Str) ("" : Str) = MY.rmp z := by
  obtain ⟨xs, h1, h2, rfl⟩ := h
  obtain ⟨x, mx, rfl⟩ := List.mem_map.mp m
  have mp := h1.mem_iff.mp (List.mem_map_of_mem (f := fun x : MR.Part × Bool => x.1) mx)
  have hnm := (hn.name x.1 mp).1
  rw [MY.rmp_slot hnm]
  have hno : (MN.tl x.1.nm).filter (fun a => decide (a ≠ 43)) = MN.tl x.1.nm := List.filter_eq_self.mpr fun a ma => decide_eq_true (MY.okc_lt (List.all_eq_true.mp (MY.okc_all hnm) a ma)).2.2
  have hrep : Txt.replace (MY.slotS x.1 x.2) ("+" : Str) ("" : Str) = x.1.nm := by
    apply MY.tl_inj
    refine (repl_out (MY.slotS x.1 x.2) 43).trans ?_
    show (MN.tl (MY.slotS x.1 x.2)).filter (fun a => decide (a ≠ 43)) = _
    unfold MY.slotS
    cases x.2 with
    | true =>
      show (MN.tl (MY.plusS ++ x.1.nm)).filter _ = _
      rw [MN.tl_app, show MN.tl MY.plusS = [43] from rfl]
      show ((43 : Nat) :: MN.tl x.1.nm).filter _ = _
      rw [List.filter_cons_of_neg (by decide)]
      exact hno
    | false => exact hno
  cases hb : x.2 with
  | true =>
    rw [hb] at hrep
    have e : MN.tl (MY.slotS x.1 true) = 43 :: MN.tl x.1.nm := by
      show MN.tl (MY.plusS ++ x.1.nm) = _
      rw [MN.tl_app]
      rfl
    refine ⟨43, ?_, ?_, hrep⟩
    · show atI (MN.tl (MY.slotS x.1 true)) ((0 : Nat) : Int) = _
      rw [e]
      exact atI_nat rfl
    · have hne : MY.slotS x.1 true ≠ x.1.nm := fun q => by
        have := congrArg List.length (e.symm.trans (congrArg MN.tl q))
        simp at this
      rw [decide_eq_false hne]
      decide +kernel
  | false =>
    rw [hb] at hrep
    have hne : ∃ c t, MN.tl x.1.nm = c :: t ∧ c ≠ 43 := by
      cases e : MN.tl x.1.nm with
      | nil => rw [e] at hnm; cases hnm
      | cons c t => exact ⟨c, t, rfl, fun q => MY.name_no43 hnm t (by rw [e, q])⟩
    obtain ⟨c, t, ec, hc43⟩ := hne
    refine ⟨c, ?_, ?_, hrep⟩
    · show atI (MN.tl x.1.nm) ((0 : Nat) : Int) = _
      rw [ec]
      exact atI_nat rfl
    · rw [show MY.slotS x.1 false = x.1.nm from rfl, decide_eq_true rfl, Bool.not_true, beq_eq_false_iff_ne]
      intro q
      have : MN.tl (⟨#[c]⟩ : Str) = MN.tl ("+" : Str) := by rw [q]
      have : [c] = [43] := this
      simp at this
      exact hc43 this
theorem filter_head {α : Type} {p : α → Bool} {x : α} : ∀ {l : List α}, l.find? p = some x → (l.filter p)[0]? = some x
  | [], h => by cases h
  | y :: r, h => by
    rw [List.find?_cons] at h
    cases e : p y with
    | true =>
      rw [e] at h
      cases h
      rw [List.filter_cons_of_pos e]
      rfl
    | false =>
      rw [e] at h
      rw [List.filter_cons_of_neg (by rw [e]; decide)]
      exact filter_head h
/-- a layout with its table -/
structure LayT (K : PySem.W.Frag) (rows : List MR.Row) (sp : Str → List Str) (T : D) (sps : List (Str × List Str)) (t : Addr) (tds fds sds : List (Key × D)) : Prop where
  tab : T = MI.tabD K rows t tds fds sds
  ok : MI.Tabl K rows t tds fds sds
  lay : Lay rows sp
  look : ∀ r ∈ rows, sps.lookup r.maker = some (sp r.maker)
  kin : ∀ r ∈ rows, ∀ p ∈ r.parts, p.inn ≠ MR.byteS → p.inn ∈ MI.kindsOf rows
theorem LayT.self {K : PySem.W.Frag} {rows : List MR.Row} {sp : Str → List Str} {T : D} {sps : List (Str × List Str)} {t : Addr} {tds fds sds : List (Key × D)} (h : LayT K rows sp T sps t tds fds sds) : MT.Self K T tds := by
  rw [h.tab]
  exact MI.tabD_self
theorem look_in {vs : List (Str × D)} {nm : Str} (h : nm ∈ vs.map (·.1)) : vs.lookup nm = some (valS vs nm) := by
  unfold valS
  induction vs with
  | nil => cases h
  | cons x r ih =>
    obtain ⟨x1, x2⟩ := x
    rw [List.lookup_cons]
    by_cases e : nm = x1
    · rw [e, beq_self_eq_true]
      rfl
    · rw [beq_eq_false_iff_ne.mpr e]
      exact ih ((List.mem_cons.mp h).resolve_left e)
def unpackT (rows : List MR.Row) (sp : Str → List Str) (row : List Nat) (kind : Str) : Except Nat D := match readT rows sp row 41 kind 1 0 with
  | .error e => .error e
  | .ok x => if x.2 < row.length then .error x.2 else .ok x.1
theorem read_back {rows : List MR.Row} {sp : Str → List Str} (hL : Lay rows sp) {row : List Nat} : ∀ {n m : Nat} {d : D} {k : Str} {depth p : Nat} {w : List Nat}, fitB rows n d k = true → szT n d ≤ 60000 → depth + n ≤ 41 → n ≤ m → row.drop p = packT rows sp n d ++ w → readT rows sp row m k depth p = .ok (d, p + (packT rows sp n d).length) := by
  intro n
  induction n with
  | zero => intro m d k depth p w h; cases h
  | succ n ih =>
    intro m d k depth p w h hs hd hm hrow
    obtain ⟨n', e, r, mr, ds, rfl, rfl, hf, hv⟩ := fit_inv h
    cases e
    obtain ⟨m, rfl⟩ : ∃ j, m = j + 1 := ⟨m - 1, by omega⟩
    rw [pack_mk hf] at hrow ⊢
    obtain ⟨h1, h2, _⟩ := drop_cons hrow
    unfold readT
    rw [h1]
    simp only
    rw [tag_get hL.nd mr]
    simp only
    rw [if_neg (by omega), hf]
    simp only
    have hsub : ∀ q ∈ r.parts, q.inn ≠ MR.byteS → szT n (valOf r.parts ds q.nm) ≤ 60000 := fun q mq _ => by
      have := fit_szv (rows := rows) (n := n) (r := r) (valOf_mem (hL.neat r mr).nd hv.1 mq)
      omega
    have hv2 : Vals (fun k d => fitB rows n d k = true ∧ szT n d ≤ 60000) r.parts ds := ⟨hv.1, fun i q v e1 e2 => (hv.2 i q v e1 e2).imp id fun ⟨hb, hv⟩ => ⟨hb, hv, by
      have := fit_szv (rows := rows) (n := n) (r := r) (List.mem_of_getElem? e2)
      omega⟩⟩
    rw [slots_back (hL.neat r mr) hv2 (packT rows sp n) _ (fun k d q w ht e => ih ht.1 ht.2 (by omega) (by omega) e) (fun k d ht => by have := pack_len hL ht.1; have := ht.2; omega) (fun k d ht => tree_int ht.1) (sp r.maker) [] (p + 1) w (fun z mz => hL.name_in mr mz) h2]
    simp only
    congr 2
    · congr 2
      have hl := vals_map (hL.neat r mr).nd hv.1
      conv => rhs; rw [← hl]
      rw [List.map_map]
      refine List.map_congr_left fun q mq => ?_
      have hin : q.nm ∈ (([] : List (Str × D)) ++ (sp r.maker).map fun z => (MY.rmp z, valOf r.parts ds (MY.rmp z))).map (·.1) := by
        rw [List.nil_append, List.map_map]
        exact (hL.names mr).mem_iff.mpr (List.mem_map_of_mem mq)
      have hlk := look_in hin
      have key : ∀ l : List Str, q.nm ∈ l.map MY.rmp → (l.map fun z => (MY.rmp z, valOf r.parts ds (MY.rmp z))).lookup q.nm = some (valOf r.parts ds q.nm) := by
        intro l
        induction l with
        | nil => intro h; cases h
        | cons z t ih =>
          intro h
          rw [List.map_cons, List.lookup_cons]
          by_cases e : q.nm = MY.rmp z
          · rw [← e, beq_self_eq_true]
          · rw [beq_eq_false_iff_ne.mpr e]
            exact ih ((List.mem_cons.mp h).resolve_left e)
      have := key (sp r.maker) ((hL.names mr).mem_iff.mpr (List.mem_map_of_mem mq))
      unfold valS
      rw [List.nil_append, this]
      rfl
    · rw [List.length_cons]
      omega
theorem unpack_back {rows : List MR.Row} {sp : Str → List Str} (hL : Lay rows sp) {d : D} {k : Str} (h : fitB rows 40 d k = true) (hs : szT 40 d ≤ 60000) : unpackT rows sp (packT rows sp 40 d) k = .ok d := by
  unfold unpackT
  rw [read_back hL h hs (depth := 1) (p := 0) (w := []) (m := 41) (by omega) (by omega) (by rw [List.append_nil]; rfl)]
  simp only
  rw [if_neg (by omega)]
end TR
namespace MF
open PySem PySem.Spec PyProof.Rows L2 DL
/-- a step but the branch -/
inductive Sm where
  | read (p : Str) | call (f p : Str) | say (n : Int)
/-- a body: its steps, then nothing or a branch -/
inductive Bd where
  | fin (ss : List Sm) | br (ss : List Sm) (p : Str) (b : Int) (x y : Bd)
def readS : Str := "read"
def callS : Str := "call"
def sayS : Str := "say"
def ifS : Str := "if"
@[reducible] def dSm : Sm → D
  | .read p => .tup [.str readS, .str p]
  | .call f p => .tup [.str callS, .str f, .str p]
  | .say n => .tup [.str sayS, .int n]
@[reducible] def brD (p : Str) (b : Int) (x y : List D) : D := .tup [.str ifS, .str p, .int b, .tup x, .tup y]
def dSt : Bd → List D
  | .fin ss => ss.map dSm
  | .br ss p b x y => ss.map dSm ++ [brD p b (dSt x) (dSt y)]
def Bd.ss : Bd → List Sm
  | .fin ss => ss
  | .br ss _ _ _ _ => ss
def Bd.dp : Bd → Nat
  | .fin _ => 1
  | .br _ _ _ x y => 1 + max x.dp y.dp
def askS : Sm → List Str
  | .read p => [p]
  | .call _ p => [p]
  | .say _ => []
def asks (ss : List Sm) : List Str := ss.flatMap askS
/-- part, called function, least byte -/
structure Tr where
  part : Str
  fn : Str
  low : Int
deriving DecidableEq
def trS : Sm → List Tr
  | .read p => [⟨p, "", 0⟩]
  | .call f p => [⟨p, f, 0⟩]
  | .say _ => []
def trs (ss : List Sm) : List Tr := ss.flatMap trS
def callS1 : Sm → List (Str × Str)
  | .call f p => [(f, p)]
  | _ => []
def calls : Bd → List (Str × Str)
  | .fin ss => ss.flatMap callS1
  | .br ss _ _ x y => ss.flatMap callS1 ++ calls x ++ calls y
inductive Sz : Nat → Bd → Prop
  | fin {n : Nat} {ss : List Sm} : ss.length ≤ 12 → Sz (n + 1) (.fin ss)
  | br {n : Nat} {ss : List Sm} {p : Str} {b : Int} {x y : Bd} : ss.length ≤ 11 → Sz n x → Sz n y → Sz (n + 1) (.br ss p b x y)
theorem flat_len {α β : Type} {f : α → List β} (h : ∀ x, (f x).length ≤ 1) : ∀ l : List α, (l.flatMap f).length ≤ l.length
  | [] => Nat.le_refl _
  | x :: r => by
    rw [List.flatMap_cons, List.length_append, List.length_cons]
    have := h x
    have := flat_len h r
    omega
theorem Sz.len {n : Nat} {b : Bd} (h : Sz n b) : (dSt b).length ≤ 12 := by
  cases h with
  | fin h => simpa [dSt] using h
  | br h _ _ => simp [dSt]; omega
theorem Sz.dp {n : Nat} {b : Bd} (h : Sz n b) : b.dp ≤ n := by
  induction h with
  | fin _ => show 1 ≤ _; omega
  | br _ _ _ ih1 ih2 => show 1 + max _ _ ≤ _; omega
def okSm (ps : List MR.Part) (hd : List (Str × Str)) : Sm → Prop
  | .read p => ∃ q ∈ ps, q.nm = p ∧ q.inn = MR.byteS
  | .call f p => ∃ q ∈ ps, q.nm = p ∧ q.inn ≠ MR.byteS ∧ (f, q.inn) ∈ hd
  | .say n => 0 ≤ n ∧ n ≤ 1000
structure OkSs (ps : List MR.Part) (hd : List (Str × Str)) (a : List Str) (ss : List Sm) : Prop where
  ok : ∀ s ∈ ss, okSm ps hd s
  nd : (a ++ asks ss).Nodup
def Wf (ps : List MR.Part) (hd : List (Str × Str)) : List Str → Bd → Prop
  | a, .fin ss => OkSs ps hd a ss
  | a, .br ss p b x y => OkSs ps hd a ss ∧ (∃ q ∈ ps, q.nm = p ∧ q.inn = MR.byteS) ∧ p ∉ a ++ asks ss ∧ 1 ≤ b ∧ b ≤ 255 ∧ Wf ps hd (a ++ asks ss ++ [p]) x ∧ Wf ps hd (a ++ asks ss ++ [p]) y
theorem Wf.nd {ps : List MR.Part} {hd : List (Str × Str)} {a : List Str} {b : Bd} (h : Wf ps hd a b) : OkSs ps hd a b.ss := by
  cases b with
  | fin ss => exact h
  | br ss p b x y => exact h.1
theorem asks_app (s t : List Sm) : asks (s ++ t) = asks s ++ asks t := List.flatMap_append
structure Fn where
  name : Str
  kind : Str
  fold : Str
  ad : Addr
  bodies : List (Str × Bd)
/-- a head: name, kind, fold -/
structure Hd where
  name : Str
  kind : Str
  fold : Str
def sigs (fs : List Fn) : List (Str × Str) := fs.map fun f => (f.name, f.kind)
inductive St where
  | sm (s : Sm) | br (p : Str) (b : Int) (x y : Bd)
def Bd.sts : Bd → List St
  | .fin ss => ss.map .sm
  | .br ss p b x y => ss.map .sm ++ [.br p b x y]
theorem tk {α : Type} {xs : List α} {i : Nat} {x : α} (h : xs[i]? = some x) : xs.take (i + 1) = xs.take i ++ [x] := by rw [List.take_add_one, h]; rfl
theorem Sz.sub {n : Nat} {b : Bd} {p : Str} {c : Int} {x y : Bd} (h : Sz n b) (m : St.br p c x y ∈ b.sts) : ∃ m, n = m + 2 ∧ Sz (m + 1) x ∧ Sz (m + 1) y := by
  cases h with
  | fin _ =>
    obtain ⟨s, _, e⟩ := List.mem_map.mp m
    cases e
  | br _ h1 h2 =>
    rcases List.mem_append.mp m with m | m
    · obtain ⟨s, _, e⟩ := List.mem_map.mp m
      cases e
    · cases List.mem_singleton.mp m
      cases h1 with
      | fin h => exact ⟨_, rfl, .fin h, h2⟩
      | br a b c => exact ⟨_, rfl, .br a b c, h2⟩
theorem Sz.pos {n : Nat} {b : Bd} (h : Sz n b) : ∃ m, n = m + 1 := by cases h <;> exact ⟨_, rfl⟩
end MF
namespace MF
open PySem PySem.Spec PyProof.Rows L2 DL
def bdsOf (rows : List MR.Row) (k : Str) (bd : Str → Bd) : List (Str × Bd) := (MI.makersOf k rows).map fun m => (m, bd m)
/-- what the law draws -/
structure Table (rows : List MR.Row) (fs : List Fn) : Prop where
  ne : fs ≠ []
  few : fs.length ≤ 6
  nd : (fs.map (·.name)).Nodup
  name : ∀ f ∈ fs, MN.nameL (MN.tl f.name) = true ∧ f.name.length ≤ 11
  kind : ∀ f ∈ fs, f.kind ∈ MI.kindsOf rows
  fold : ∀ f ∈ fs, f.fold = "sum" ∨ f.fold = "max"
  body : ∀ f ∈ fs, ∃ bd, f.bodies = bdsOf rows f.kind bd ∧ ∀ r ∈ rows, r.kind = f.kind → Wf r.parts (sigs fs) [] (bd r.maker) ∧ Sz 3 (bd r.maker)
def core (f : Fn) : Str × Str × Str × List (Str × Bd) := (f.name, f.kind, f.fold, f.bodies)
theorem core_names {fs gs : List Fn} (h : gs.map core = fs.map core) : gs.map (·.name) = fs.map (·.name) := by
  have := congrArg (List.map (·.1)) h
  rw [List.map_map, List.map_map] at this
  exact this
theorem core_sigs {fs gs : List Fn} (h : gs.map core = fs.map core) : sigs gs = sigs fs := by
  have := congrArg (List.map fun c : Str × Str × Str × List (Str × Bd) => (c.1, c.2.1)) h
  rw [List.map_map, List.map_map] at this
  exact this
theorem core_mem {fs gs : List Fn} (h : gs.map core = fs.map core) {g : Fn} (m : g ∈ gs) : ∃ f ∈ fs, core g = core f := by
  have : core g ∈ fs.map core := h ▸ List.mem_map_of_mem m
  obtain ⟨f, mf, e⟩ := List.mem_map.mp this
  exact ⟨f, mf, e.symm⟩
theorem core_len {fs gs : List Fn} (h : gs.map core = fs.map core) : gs.length = fs.length := by
  have := congrArg List.length h
  rwa [List.length_map, List.length_map] at this
theorem Table.core {rows : List MR.Row} {fs gs : List Fn} (h : Table rows fs) (e : gs.map core = fs.map core) : Table rows gs := by
  have key : ∀ {P : Fn → Prop} {Q : Str × Str × Str × List (Str × Bd) → Prop}, (∀ f, P f ↔ Q (MF.core f)) → (∀ f ∈ fs, P f) → ∀ g ∈ gs, P g := fun hq hp g m => by
    obtain ⟨f, mf, ef⟩ := core_mem e m
    rw [hq, ef, ← hq]
    exact hp f mf
  refine ⟨?_, by rw [core_len e]; exact h.few, by rw [core_names e]; exact h.nd, ?_, ?_, ?_, ?_⟩
  · intro z
    subst z
    have := core_len e
    exact h.ne (List.length_eq_zero_iff.mp this.symm)
  · exact key (Q := fun c => MN.nameL (MN.tl c.1) = true ∧ c.1.length ≤ 11) (fun _ => Iff.rfl) h.name
  · exact key (Q := fun c => c.2.1 ∈ MI.kindsOf rows) (fun _ => Iff.rfl) h.kind
  · exact key (Q := fun c => c.2.2.1 = "sum" ∨ c.2.2.1 = "max") (fun _ => Iff.rfl) h.fold
  · rw [core_sigs e]
    exact key (Q := fun c => ∃ bd, c.2.2.2 = bdsOf rows c.2.1 bd ∧ ∀ r ∈ rows, r.kind = c.2.1 → Wf r.parts (sigs fs) [] (bd r.maker) ∧ Sz 3 (bd r.maker)) (fun _ => Iff.rfl) h.body
def findF (gs : List Fn) (z : Str) : Option Fn := gs.find? fun f => f.name == z
theorem findF_mem {gs : List Fn} {z : Str} {f : Fn} (h : findF gs z = some f) : f ∈ gs ∧ f.name = z := ⟨List.mem_of_find?_eq_some h, by simpa using List.find?_some h⟩
theorem findF_of {gs : List Fn} {f : Fn} (nd : (gs.map (·.name)).Nodup) (m : f ∈ gs) : findF gs f.name = some f := by
  induction gs with
  | nil => cases m
  | cons g r ih =>
    unfold findF
    rw [List.map_cons, List.nodup_cons] at nd
    rcases List.mem_cons.mp m with e | m
    · subst e; simp
    · have : (g.name == f.name) = false := by
        rw [beq_eq_false_iff_ne]
        intro e
        exact nd.1 (e ▸ List.mem_map_of_mem m)
      rw [List.find?_cons, this]
      exact ih nd.2 m
theorem lookup_mk {bd : Str → Bd} {m : Str} : ∀ {l : List Str}, m ∈ l → (l.map fun m => (m, bd m)).lookup m = some (bd m)
  | x :: r, h => by
    rw [List.map_cons, List.lookup_cons]
    by_cases e : m = x
    · subst e; simp
    · have : (m == x) = false := by simp [e]
      rw [this]
      exact lookup_mk ((List.mem_cons.mp h).resolve_left e)
theorem lookup_bds {rows : List MR.Row} {k : Str} {bd : Str → Bd} {m : Str} (h : m ∈ MI.makersOf k rows) : (bdsOf rows k bd).lookup m = some (bd m) := lookup_mk h
theorem mem_makers {rows : List MR.Row} {k m : Str} : m ∈ MI.makersOf k rows ↔ ∃ r ∈ rows, r.kind = k ∧ r.maker = m := by
  unfold MI.makersOf
  rw [List.mem_map]
  constructor
  · rintro ⟨r, mr, e⟩
    rw [List.mem_filter] at mr
    exact ⟨r, mr.1, of_decide_eq_true mr.2, e⟩
  · rintro ⟨r, mr, e1, e2⟩
    exact ⟨r, List.mem_filter.mpr ⟨mr, decide_eq_true e1⟩, e2⟩
theorem okSs_calls {ps : List MR.Part} {hd : List (Str × Str)} {a : List Str} {ss : List Sm} (h : OkSs ps hd a ss) : ∀ c ∈ ss.flatMap callS1, ∃ q ∈ ps, q.nm = c.2 ∧ q.inn ≠ MR.byteS ∧ (c.1, q.inn) ∈ hd := by
  intro c m
  obtain ⟨s, ms, mc⟩ := List.mem_flatMap.mp m
  have hs := h.ok s ms
  cases s with
  | read p => cases mc
  | say n => cases mc
  | call f p =>
    cases List.mem_singleton.mp mc
    exact hs
theorem wf_calls {ps : List MR.Part} {hd : List (Str × Str)} : ∀ {b : Bd} {a : List Str}, Wf ps hd a b → ∀ c ∈ calls b, ∃ q ∈ ps, q.nm = c.2 ∧ q.inn ≠ MR.byteS ∧ (c.1, q.inn) ∈ hd
  | .fin ss, a, h, c, m => okSs_calls h c m
  | .br ss p v x y, a, h, c, m => by
    obtain ⟨h1, _, _, _, _, h6, h7⟩ := h
    rcases List.mem_append.mp m with m | m
    · rcases List.mem_append.mp m with m | m
      · exact okSs_calls h1 c m
      · exact wf_calls h6 c m
    · exact wf_calls h7 c m
theorem sigs_mem {gs : List Fn} {z k : Str} (h : (z, k) ∈ sigs gs) (nd : (gs.map (·.name)).Nodup) : ∃ f ∈ gs, f.name = z ∧ f.kind = k ∧ findF gs z = some f := by
  obtain ⟨f, m, e⟩ := List.mem_map.mp h
  cases e
  exact ⟨f, m, rfl, rfl, findF_of nd m⟩
theorem Sz.more : ∀ {n : Nat} {b : Bd}, Sz n b → Sz (n + 1) b
  | _, _, .fin h => .fin h
  | _, _, .br h x y => .br h (Sz.more x) (Sz.more y)
/-- a row that a table of functions takes -/
structure NewFn (rows : List MR.Row) (f : Fn) (bd : Str → Bd) : Prop where
  name : MN.isName f.name = true ∧ f.name.length ≤ 100
  kind : f.kind ∈ MI.kindsOf rows
  fold : f.fold = "sum" ∨ f.fold = "max"
  keys : f.bodies = bdsOf rows f.kind bd
  body : ∀ r ∈ rows, r.kind = f.kind → (∃ hd, Wf r.parts hd [] (bd r.maker)) ∧ Sz 3 (bd r.maker)
/-- what is needed of rows -/
structure RowsOk (rows : List MR.Row) : Prop where
  len : rows.length ≤ 10
  nd : (rows.map (·.maker)).Nodup
  parts : ∀ r ∈ rows, r.parts.length ≤ 4
  names : ∀ r ∈ rows, (r.parts.map (·.nm)).Nodup
theorem RowsOk.of {nms : List Str} {rows : List MR.Row} (h : MR.Table nms rows) : RowsOk rows where
  len := h.some.len
  nd := h.some.nd
  parts := fun r m => by obtain ⟨b, q⟩ := h.some.parts r m; exact q.len
  names := fun r m => by obtain ⟨b, q⟩ := h.some.parts r m; exact q.nd
theorem Table.new {rows : List MR.Row} {fs : List Fn} (h : Table rows fs) {f : Fn} (m : f ∈ fs) : ∃ bd, NewFn rows f bd ∧ ∀ r ∈ rows, r.kind = f.kind → Wf r.parts (sigs fs) [] (bd r.maker) := by
  obtain ⟨bd, e, hb⟩ := h.body f m
  exact ⟨bd, ⟨MI.isName_of (h.name f m) (by decide), h.kind f m, h.fold f m, e, fun r mr er => ⟨⟨_, (hb r mr er).1⟩, (hb r mr er).2⟩⟩, fun r mr er => (hb r mr er).1⟩
theorem okSm.more {ps qs : List MR.Part} {hd : List (Str × Str)} {s : Sm} (h : okSm ps hd s) (hp : ∀ q ∈ ps, q ∈ qs) : okSm qs hd s := by
  cases s with
  | read p => obtain ⟨q, m, e⟩ := h; exact ⟨q, hp q m, e⟩
  | call f p => obtain ⟨q, m, e⟩ := h; exact ⟨q, hp q m, e⟩
  | say n => exact h
/-- what is drawn of parts: right, whatever was asked before -/
def DrawnB (hs : List Hd) (parts : List MR.Part) (b : Bd) : Prop := ∀ ps hd asked, (∀ q ∈ parts, q ∈ ps) → (asked ++ parts.map (·.nm)).Nodup → (∀ h ∈ hs, (h.name, h.kind) ∈ hd) → Wf ps hd asked b
/-- the steps so far and the parts that are left -/
structure DrawnS (hs : List Hd) (parts left : List MR.Part) (ss : List Sm) : Prop where
  sub : ∀ q ∈ left, q ∈ parts
  ok : ∀ ps hd, (∀ q ∈ parts, q ∈ ps) → (∀ h ∈ hs, (h.name, h.kind) ∈ hd) → ∀ s ∈ ss, okSm ps hd s
  nd : ∀ asked : List Str, (asked ++ parts.map (·.nm)).Nodup → (asked ++ asks ss ++ left.map (·.nm)).Nodup
theorem DrawnS.nil {hs : List Hd} {parts : List MR.Part} : DrawnS hs parts parts [] where
  sub := fun _ m => m
  ok := fun _ _ _ _ s m => by cases m
  nd := fun asked h => by simpa [asks] using h
theorem DrawnS.drop {hs : List Hd} {parts left : List MR.Part} {ss : List Sm} (h : DrawnS hs parts left ss) (i : Nat) : DrawnS hs parts (left.eraseIdx i) ss where
  sub := fun q m => h.sub q (List.mem_of_mem_eraseIdx m)
  ok := h.ok
  nd := fun asked ha => (h.nd asked ha).sublist (List.Sublist.append_left (List.Sublist.map _ (List.eraseIdx_sublist ..)) _)
theorem DrawnS.say {hs : List Hd} {parts left : List MR.Part} {ss : List Sm} {n : Int} (h : DrawnS hs parts left ss) (h0 : 0 ≤ n) (h1 : n ≤ 1000) : DrawnS hs parts left (ss ++ [.say n]) where
  sub := h.sub
  ok := fun ps hd hp hh s m => by
    rcases List.mem_append.mp m with m | m
    · exact h.ok ps hd hp hh s m
    · rw [List.mem_singleton.mp m]; exact ⟨h0, h1⟩
  nd := fun asked ha => by
    rw [asks_app]
    simpa [asks, askS] using h.nd asked ha
theorem erase_perm {left : List MR.Part} {i : Nat} {q : MR.Part} (hq : left[i]? = some q) : (q.nm :: (left.eraseIdx i).map (·.nm)).Perm (left.map (·.nm)) := by
  have hi := (List.getElem?_eq_some_iff.mp hq).1
  have e := (List.getElem?_eq_some_iff.mp hq).2
  have := (MY.perm_erase hi).map (·.nm)
  rw [e] at this
  exact this
theorem DrawnS.fin {hs : List Hd} {parts left : List MR.Part} {ss : List Sm} (h : DrawnS hs parts left ss) : DrawnB hs parts (.fin ss) := fun ps hd asked hp ha hh =>
  ⟨h.ok ps hd hp hh, (h.nd asked ha).sublist (List.sublist_append_left _ _)⟩
theorem DrawnS.br {hs : List Hd} {parts left rest : List MR.Part} {ss : List Sm} {i : Nat} {q : MR.Part} {v : Int} {x y : Bd} (h : DrawnS hs parts left ss) (hq : left[i]? = some q) (hb : q.inn = MR.byteS) (hr : rest.Sublist (left.eraseIdx i)) (h1 : 1 ≤ v) (h2 : v ≤ 255) (hx : DrawnB hs rest x) (hy : DrawnB hs rest y) : DrawnB hs parts (.br ss q.nm v x y) := fun ps hd asked hp ha hh => by
  have nd := h.nd asked ha
  have nd2 : (asked ++ asks ss ++ (q.nm :: (left.eraseIdx i).map (·.nm))).Nodup := (List.Perm.nodup_iff (List.Perm.append_left _ (erase_perm hq))).mpr nd
  have nd3 : (asked ++ asks ss ++ [q.nm] ++ rest.map (·.nm)).Nodup := by
    rw [List.append_assoc]
    exact nd2.sublist (List.Sublist.append_left (List.Sublist.cons_cons _ (List.Sublist.map _ hr)) _)
  have hsub : ∀ p ∈ rest, p ∈ ps := fun p m => hp p (h.sub p (List.mem_of_mem_eraseIdx (hr.subset m)))
  refine ⟨⟨h.ok ps hd hp hh, nd.sublist (List.sublist_append_left _ _)⟩, ⟨q, hp q (h.sub q (List.mem_of_getElem? hq)), rfl, hb⟩, ?_, h1, h2, hx ps hd _ hsub nd3 hh, hy ps hd _ hsub nd3 hh⟩
  intro m
  rw [List.nodup_append] at nd2
  exact nd2.2.2 q.nm m q.nm List.mem_cons_self rfl
structure HeadsOk (rows : List MR.Row) (hs : List Hd) : Prop where
  nd : (hs.map (·.name)).Nodup
  name : ∀ h ∈ hs, MN.nameL (MN.tl h.name) = true ∧ h.name.length ≤ 11
  kind : ∀ h ∈ hs, h.kind ∈ MI.kindsOf rows
  fold : ∀ h ∈ hs, h.fold = "sum" ∨ h.fold = "max"
theorem HeadsOk.nil {rows : List MR.Row} : HeadsOk rows [] := ⟨by simp, by simp, by simp, by simp⟩
theorem HeadsOk.snoc {rows : List MR.Row} {hs : List Hd} {h : Hd} (H : HeadsOk rows hs) (h1 : MN.nameL (MN.tl h.name) = true ∧ h.name.length ≤ 11) (h2 : h.name ∉ hs.map (·.name)) (h3 : h.kind ∈ MI.kindsOf rows) (h4 : h.fold = "sum" ∨ h.fold = "max") : HeadsOk rows (hs ++ [h]) where
  nd := by
    rw [List.map_append, List.nodup_append]
    exact ⟨H.nd, by simp, fun a m c m' z => by simp at m'; subst m'; subst z; exact h2 m⟩
  name := fun x m => by
    rcases List.mem_append.mp m with m | m
    · exact H.name x m
    · rw [List.mem_singleton.mp m]; exact h1
  kind := fun x m => by
    rcases List.mem_append.mp m with m | m
    · exact H.kind x m
    · rw [List.mem_singleton.mp m]; exact h3
  fold := fun x m => by
    rcases List.mem_append.mp m with m | m
    · exact H.fold x m
    · rw [List.mem_singleton.mp m]; exact h4
end MF
namespace MX
open PySem PySem.Spec PyProof.Rows L2 DL MF
/-- the steps of a body, its branches taken by the values of the parts -/
def flat (v : Str → Int) : Bd → List Sm
  | .fin ss => ss
  | .br ss p b x y => ss ++ (if v p < b then flat v x else flat v y)
/-- what a call takes, put together -/
def foldI (f : Str) (ns : List Int) : Int := if f = "sum" then ns.sum else ns.foldl max 0
def valI : D → Int
  | .int i => i
  | _ => 0
/-- the answer and the prints of a function on a tree -/
def runT (rows : List MR.Row) (gs : List Fn) : Nat → Str → D → Int × List Int
  | n + 1, z, .tup (.str m :: ds) => match findF gs z, TR.findR rows m with
    | some f, some r => match f.bodies.lookup m with
      | some b =>
        let rs := (flat (fun p => valI (TR.valOf r.parts ds p)) b).map fun s => match s with
          | .say i => (i, [i])
          | .read p => (valI (TR.valOf r.parts ds p), [valI (TR.valOf r.parts ds p)])
          | .call g p => runT rows gs n g (TR.valOf r.parts ds p)
        (foldI f.fold (rs.map (·.1)), rs.flatMap (·.2))
      | none => (0, [])
    | _, _ => (0, [])
  | _, _, _ => (0, [])
/-- one step -/
def runS (rows : List MR.Row) (gs : List Fn) (n : Nat) (val : Str → D) : Sm → Int × List Int
  | .say i => (i, [i])
  | .read p => (valI (val p), [valI (val p)])
  | .call g p => runT rows gs n g (val p)
theorem run_mk {rows : List MR.Row} {gs : List Fn} {n : Nat} {z m : Str} {ds : List D} {f : Fn} {r : MR.Row} {b : Bd} (h1 : findF gs z = some f) (h2 : TR.findR rows m = some r) (h3 : f.bodies.lookup m = some b) :
    runT rows gs (n + 1) z (.tup (.str m :: ds)) = (foldI f.fold (((flat (fun p => valI (TR.valOf r.parts ds p)) b).map (runS rows gs n (TR.valOf r.parts ds))).map (·.1)), ((flat (fun p => valI (TR.valOf r.parts ds p)) b).map (runS rows gs n (TR.valOf r.parts ds))).flatMap (·.2)) := by
  have e : ∀ l : List Sm, (l.map fun s => match s with
      | .say i => (i, [i])
      | .read p => (valI (TR.valOf r.parts ds p), [valI (TR.valOf r.parts ds p)])
      | .call g p => runT rows gs n g (TR.valOf r.parts ds p)) = l.map (runS rows gs n (TR.valOf r.parts ds)) := fun l => List.map_congr_left fun s _ => by cases s <;> rfl
  unfold runT
  rw [h1, h2]
  simp only [h3]
  rw [e]
theorem max_nn : ∀ {ns : List Int} {a : Int}, 0 ≤ a → 0 ≤ ns.foldl max a
  | [], a, h => h
  | n :: r, a, h => max_nn (ns := r) (a := max a n) (Int.le_trans h (Int.le_max_left ..))
theorem sum_nn : ∀ {ns : List Int}, (∀ i ∈ ns, 0 ≤ i) → 0 ≤ ns.sum
  | [], _ => Int.le_refl 0
  | n :: r, h => by
    rw [List.sum_cons]
    have := h n List.mem_cons_self
    have := sum_nn (ns := r) fun i m => h i (List.mem_cons_of_mem _ m)
    omega
theorem fold_nn {f : Str} {ns : List Int} (h : ∀ i ∈ ns, 0 ≤ i) : 0 ≤ foldI f ns := by
  unfold foldI
  split
  · exact sum_nn h
  · exact max_nn (Int.le_refl 0)
/-- the steps taken are right ones, each part is asked once -/
theorem flat_ok {ps : List MR.Part} {hd : List (Str × Str)} {v : Str → Int} : ∀ {b : Bd} {a : List Str} {n : Nat}, Wf ps hd a b → Sz n b → (∀ s ∈ flat v b, okSm ps hd s) ∧ (a ++ asks (flat v b)).Nodup ∧ (flat v b).length ≤ 12 * n
  | .fin ss, a, n, h, hz => by
    cases hz with
    | fin hl => exact ⟨OkSs.ok h, OkSs.nd h, by show ss.length ≤ _; omega⟩
  | .br ss p c x y, a, n, h, hz => by
    obtain ⟨h1, _, _, _, _, hx, hy⟩ := h
    cases hz with
    | @br n _ _ _ _ _ hl zx zy =>
      have key : ∀ f : List Sm, (∀ s ∈ f, okSm ps hd s) ∧ (a ++ asks ss ++ [p] ++ asks f).Nodup ∧ f.length ≤ 12 * n → (∀ s ∈ ss ++ f, okSm ps hd s) ∧ (a ++ asks (ss ++ f)).Nodup ∧ (ss ++ f).length ≤ 12 * (n + 1) := fun f ⟨f1, f2, f3⟩ => by
        refine ⟨fun s m => (List.mem_append.mp m).elim (h1.ok s) (f1 s), ?_, by rw [List.length_append]; omega⟩
        rw [asks_app, ← List.append_assoc]
        refine f2.sublist ?_
        rw [List.append_assoc (a ++ asks ss)]
        exact List.Sublist.append_left (List.sublist_append_right _ _) _
      show (∀ s ∈ ss ++ (if v p < c then flat v x else flat v y), _) ∧ (a ++ asks (ss ++ (if v p < c then flat v x else flat v y))).Nodup ∧ (ss ++ (if v p < c then flat v x else flat v y)).length ≤ _
      split
      · exact key _ (flat_ok hx zx)
      · exact key _ (flat_ok hy zy)
theorem sum_sub {f : Str → Nat} : ∀ {l m : List Str}, l.Nodup → (∀ x ∈ l, x ∈ m) → (l.map f).sum ≤ (m.map f).sum
  | [], _, _, _ => Nat.zero_le _
  | x :: l, m, nd, h => by
    obtain ⟨n1, n2⟩ := List.nodup_cons.mp nd
    have hx := h x List.mem_cons_self
    have hp := TR.perm_sum ((List.perm_cons_erase hx).map f)
    have := sum_sub (f := f) (m := m.erase x) n2 fun y hy => (List.mem_erase_of_ne (show y ≠ x from fun e => n1 (by rw [← e]; exact hy))).mpr (h y (List.mem_cons_of_mem _ hy))
    rw [hp, List.map_cons, List.map_cons, List.sum_cons, List.sum_cons]
    omega
/-- the body of a function at a maker of its kind -/
theorem body_at {rows : List MR.Row} {gs : List Fn} (hT : Table rows gs) {f : Fn} (mf : f ∈ gs) {r : MR.Row} (mr : r ∈ rows) (hk : r.kind = f.kind) : ∃ b, f.bodies.lookup r.maker = some b ∧ Wf r.parts (sigs gs) [] b ∧ Sz 3 b := by
  obtain ⟨bd, e, h⟩ := hT.body f mf
  refine ⟨bd r.maker, ?_, h r mr hk⟩
  rw [e]
  exact lookup_bds (mem_makers.mpr ⟨r, mr, hk, rfl⟩)
theorem flat_sum {f : Sm → Nat} {g : Str → Nat} (h : ∀ s, f s ≤ 1 + ((askS s).map g).sum) : ∀ l : List Sm, (l.map f).sum ≤ l.length + ((asks l).map g).sum
  | [] => Nat.zero_le _
  | s :: r => by
    have h1 := h s
    have h2 := flat_sum h r
    have e : asks (s :: r) = askS s ++ asks r := rfl
    rw [List.map_cons, List.sum_cons, List.length_cons, e, List.map_append, List.sum_append]
    omega
/-- answers and prints are not below 0; how many prints -/
theorem run_ok {rows : List MR.Row} {gs : List Fn} (hT : Table rows gs) (hn : ∀ r ∈ rows, MY.Neat r.parts) : ∀ {n : Nat} {d : D} {z : Str} {f : Fn}, findF gs z = some f → TR.fitB rows n d f.kind = true → 0 ≤ (runT rows gs n z d).1 ∧ (∀ i ∈ (runT rows gs n z d).2, 0 ≤ i) ∧ (runT rows gs n z d).2.length ≤ 18 * TR.szT n d := by
  intro n
  induction n with
  | zero => intro d z f _ h; cases h
  | succ n ih =>
    intro d z f hf h
    obtain ⟨n', e, r, mr, ds, rfl, hk, hr, hv⟩ := TR.fit_inv h
    cases e
    obtain ⟨mf, hfz⟩ := findF_mem hf
    obtain ⟨b, hb, hw, hz⟩ := body_at hT mf mr hk
    rw [run_mk hf hr hb]
    generalize hvv : (fun p => valI (TR.valOf r.parts ds p)) = v
    obtain ⟨h1, h2, h3⟩ := flat_ok (v := v) hw hz
    have hnd := (hn r mr).nd
    have step : ∀ s ∈ flat v b, 0 ≤ (runS rows gs n (TR.valOf r.parts ds) s).1 ∧ (∀ i ∈ (runS rows gs n (TR.valOf r.parts ds) s).2, 0 ≤ i) ∧ (runS rows gs n (TR.valOf r.parts ds) s).2.length ≤ 1 + ((askS s).map fun p => 18 * TR.szT n (TR.valOf r.parts ds p)).sum := fun s ms => by
      have ok := h1 s ms
      cases s with
      | say i =>
        refine ⟨ok.1, fun j m => ?_, Nat.le_refl _⟩
        rw [List.mem_singleton.mp m]
        exact ok.1
      | read p =>
        obtain ⟨q, mq, rfl, hb⟩ := ok
        have hnn : 0 ≤ valI (TR.valOf r.parts ds q.nm) := by
          rcases hv.of hnd mq with ⟨_, c, _, ev⟩ | ⟨hb2, _⟩
          · rw [ev]; exact Int.natCast_nonneg c
          · exact absurd hb hb2
        refine ⟨hnn, fun j m => ?_, Nat.le_add_right _ _⟩
        rw [List.mem_singleton.mp m]
        exact hnn
      | call g p =>
        obtain ⟨q, mq, rfl, hb, hs⟩ := ok
        obtain ⟨f2, _, _, hk2, hf2⟩ := sigs_mem hs hT.nd
        rcases hv.of hnd mq with ⟨hb2, _⟩ | ⟨_, ht⟩
        · exact absurd hb2 hb
        · rw [← hk2] at ht
          obtain ⟨i1, i2, i3⟩ := ih hf2 ht
          refine ⟨i1, i2, ?_⟩
          show (runT rows gs n g (TR.valOf r.parts ds q.nm)).2.length ≤ 1 + (18 * TR.szT n (TR.valOf r.parts ds q.nm) + 0)
          omega
    refine ⟨fold_nn fun i m => ?_, fun i m => ?_, ?_⟩
    · obtain ⟨x, mx, rfl⟩ := List.mem_map.mp m
      obtain ⟨s, ms, rfl⟩ := List.mem_map.mp mx
      exact (step s ms).1
    · obtain ⟨x, mx, mi⟩ := List.mem_flatMap.mp m
      obtain ⟨s, ms, rfl⟩ := List.mem_map.mp mx
      exact (step s ms).2.1 i mi
    · rw [TR.flat_len, List.map_map]
      have a1 : ((flat v b).map fun s => (runS rows gs n (TR.valOf r.parts ds) s).2.length).sum ≤ ((flat v b).map fun s => 1 + ((askS s).map fun p => 18 * TR.szT n (TR.valOf r.parts ds p)).sum).sum := TR.sum_le fun s ms => (step s ms).2.2
      have a2 := flat_sum (f := fun s => 1 + ((askS s).map fun p => 18 * TR.szT n (TR.valOf r.parts ds p)).sum) (g := fun p => 18 * TR.szT n (TR.valOf r.parts ds p)) (fun s => Nat.le_refl _) (flat v b)
      have a3 := sum_sub (f := fun p => 18 * TR.szT n (TR.valOf r.parts ds p)) (l := asks (flat v b)) (m := r.parts.map (·.nm)) (by simpa using h2) fun p mp => by
        obtain ⟨s, ms, mp⟩ := List.mem_flatMap.mp mp
        have ok := h1 s ms
        cases s with
        | say i => cases mp
        | read q => obtain ⟨q, mq, rfl, _⟩ := ok; rw [List.mem_singleton.mp mp]; exact List.mem_map_of_mem (f := fun q : MR.Part => q.nm) mq
        | call g q => obtain ⟨q, mq, rfl, _⟩ := ok; rw [List.mem_singleton.mp mp]; exact List.mem_map_of_mem (f := fun q : MR.Part => q.nm) mq
      have a4 : ((r.parts.map (·.nm)).map fun p => 18 * TR.szT n (TR.valOf r.parts ds p)).sum = (ds.map fun d => 18 * TR.szT n d).sum := by
        have h4 := congrArg (List.map fun d => 18 * TR.szT n d) (TR.vals_map hnd hv.1)
        rw [← h4]
        simp only [List.map_map]
        rfl
      have a5 : ∀ l : List D, (l.map fun d => 18 * TR.szT n d).sum ≤ 18 * (l.map fun d => 2 + TR.szT n d).sum := by
        intro l
        induction l with
        | nil => exact Nat.le_refl _
        | cons x t ih2 => rw [List.map_cons, List.map_cons, List.sum_cons, List.sum_cons]; omega
      have a6 := a5 ds
      rw [TR.sz_node]
      show ((flat v b).map fun s => (runS rows gs n (TR.valOf r.parts ds) s).2.length).sum ≤ _
      omega
def flatE (v : Str → Int) : Bd → List (Sm ⊕ Str)
  | .fin ss => ss.map .inl
  | .br ss p c x y => ss.map .inl ++ .inr p :: (if v p < c then flatE v x else flatE v y)
def leftS (l : List (Sm ⊕ Str)) : List Sm := l.filterMap fun x => match x with
  | .inl s => some s
  | .inr _ => none
theorem left_map (ss : List Sm) : leftS (ss.map .inl) = ss := by
  induction ss with
  | nil => rfl
  | cons s r ih => exact congrArg (s :: ·) ih
theorem left_app (a b : List (Sm ⊕ Str)) : leftS (a ++ b) = leftS a ++ leftS b := List.filterMap_append
theorem flat_left (v : Str → Int) : ∀ b : Bd, leftS (flatE v b) = flat v b
  | .fin ss => left_map ss
  | .br ss p c x y => by
    show leftS (ss.map .inl ++ .inr p :: (if v p < c then flatE v x else flatE v y)) = ss ++ (if v p < c then flat v x else flat v y)
    rw [left_app, left_map]
    show ss ++ leftS (if v p < c then flatE v x else flatE v y) = _
    split
    · rw [flat_left v x]
    · rw [flat_left v y]
/-- one step's answer and prints are not below 0 -/
theorem step_ok {rows : List MR.Row} {gs : List Fn} (hT : Table rows gs) (hn : ∀ r ∈ rows, MY.Neat r.parts) {n : Nat} {z : Str} {f : Fn} {r : MR.Row} {ds : List D} {b : Bd} (hf : findF gs z = some f) (hr : TR.findR rows r.maker = some r) (hv : TR.Vals (fun k d => TR.fitB rows n d k = true) r.parts ds) (hb : f.bodies.lookup r.maker = some b) {s : Sm} (hs : s ∈ flat (fun p => valI (TR.valOf r.parts ds p)) b) (hkd : r.kind = f.kind := by assumption) : 0 ≤ (runS rows gs n (TR.valOf r.parts ds) s).1 ∧ ∀ i ∈ (runS rows gs n (TR.valOf r.parts ds) s).2, 0 ≤ i := by
  obtain ⟨mr, _⟩ := TR.findR_some hr
  obtain ⟨mf, _⟩ := findF_mem hf
  obtain ⟨b', hb', hw, hz⟩ := body_at hT mf mr hkd
  rw [hb] at hb'
  cases hb'
  have hnd := (hn r mr).nd
  have ok := (flat_ok (v := fun p => valI (TR.valOf r.parts ds p)) hw hz).1 s hs
  cases s with
  | say i =>
    refine ⟨ok.1, fun j m => ?_⟩
    rw [List.mem_singleton.mp m]
    exact ok.1
  | read p =>
    obtain ⟨q, mq, rfl, hb⟩ := ok
    have hnn : 0 ≤ valI (TR.valOf r.parts ds q.nm) := by
      rcases hv.of hnd mq with ⟨_, c, _, ev⟩ | ⟨hb2, _⟩
      · rw [ev]; exact Int.natCast_nonneg c
      · exact absurd hb hb2
    refine ⟨hnn, fun j m => ?_⟩
    rw [List.mem_singleton.mp m]
    exact hnn
  | call g p =>
    obtain ⟨q, mq, rfl, hb, hs⟩ := ok
    obtain ⟨f2, _, _, hk2, hf2⟩ := sigs_mem hs hT.nd
    rcases hv.of hnd mq with ⟨hb2, _⟩ | ⟨_, ht⟩
    · exact absurd hb2 hb
    · rw [← hk2] at ht
      obtain ⟨i1, i2, _⟩ := run_ok hT hn hf2 ht
      exact ⟨i1, i2⟩
end MX
namespace MF
open PySem PySem.Spec PyProof.Rows L2 DL
def callees (f : Fn) : List Str := f.bodies.flatMap fun p => (calls p.2).map (·.1)
def succs (gs : List Fn) (z : Str) : List Str := match findF gs z with
  | some f => callees f
  | none => []
inductive Reach (gs : List Fn) (ss : List Str) : Str → Prop
  | start {z : Str} : z ∈ ss → Reach gs ss z
  | step {y z : Str} : Reach gs ss y → z ∈ succs gs y → Reach gs ss z
def missing (ns found : List Str) : Nat := (ns.filter fun z => decide (z ∉ found)).length
theorem filter_sub {α : Type} {p q : α → Bool} : ∀ {l : List α}, (∀ x ∈ l, p x = true → q x = true) → (l.filter p).length ≤ (l.filter q).length
  | [], _ => Nat.le_refl _
  | x :: r, h => by
    have ih := filter_sub (l := r) fun y m => h y (List.mem_cons_of_mem _ m)
    have hx := h x List.mem_cons_self
    rw [List.filter_cons, List.filter_cons]
    cases hp : p x with
    | true => rw [if_pos rfl, if_pos (hx hp)]; simpa using ih
    | false =>
      rw [if_neg (by simp)]
      split
      · simp; omega
      · exact ih
theorem filter_lt {α : Type} {p q : α → Bool} {y : α} : ∀ {l : List α}, (∀ x ∈ l, p x = true → q x = true) → y ∈ l → p y = false → q y = true → (l.filter p).length < (l.filter q).length
  | x :: r, h, m, h1, h2 => by
    have ih := filter_sub (l := r) fun z mz => h z (List.mem_cons_of_mem _ mz)
    rw [List.filter_cons, List.filter_cons]
    rcases List.mem_cons.mp m with e | m
    · subst e
      rw [if_neg (by simp [h1]), if_pos h2]
      simp
      omega
    · have ih2 := filter_lt (l := r) (fun z mz => h z (List.mem_cons_of_mem _ mz)) m h1 h2
      have hx := h x List.mem_cons_self
      cases hp : p x with
      | true => rw [if_pos rfl, if_pos (hx hp)]; simpa using ih2
      | false =>
        rw [if_neg (by simp)]
        split
        · simp; omega
        · exact ih2
theorem missing_lt {ns a b : List Str} {z : Str} (h1 : z ∈ ns) (h2 : z ∉ a) (h3 : z ∈ b) : missing ns (a ++ b) < missing ns a := filter_lt (y := z) (fun x _ h => by
  have h := of_decide_eq_true h
  exact decide_eq_true fun m => h (List.mem_append_left _ m)) h1 (decide_eq_false fun h => h (List.mem_append_right _ h3)) (decide_eq_true h2)
/-- new names do not raise the measure -/
theorem meas_le {ns a b : List Str} {c : Nat} (hb : ∀ z ∈ b, z ∈ ns ∧ z ∉ a) (hl : b.length ≤ c) : (c + 1) * missing ns (a ++ b) + (a ++ b).length ≤ (c + 1) * missing ns a + a.length := by
  cases b with
  | nil => rw [List.append_nil]; exact Nat.le_refl _
  | cons z r =>
    have h := missing_lt (a := a) (hb z List.mem_cons_self).1 (hb z List.mem_cons_self).2 (List.mem_cons_self (a := z) (l := r))
    have : (c + 1) * (missing ns (a ++ z :: r) + 1) ≤ (c + 1) * missing ns a := Nat.mul_le_mul_left _ h
    rw [Nat.mul_add] at this
    rw [List.length_append]
    omega
/-- calls lead to functions of the table -/
theorem Table.call {rows : List MR.Row} {gs : List Fn} (h : Table rows gs) {f : Fn} {m : Str} {b : Bd} (mf : f ∈ gs) (mb : (m, b) ∈ f.bodies) : Sz 3 b ∧ ∀ c ∈ calls b, c.1 ∈ gs.map (·.name) := by
  obtain ⟨bd, e, hb⟩ := h.body f mf
  rw [e] at mb
  obtain ⟨z, mz, e2⟩ := List.mem_map.mp mb
  cases e2
  obtain ⟨r, mr, er, rfl⟩ := mem_makers.mp mz
  obtain ⟨hw, hz⟩ := hb r mr er
  refine ⟨hz, fun c mc => ?_⟩
  obtain ⟨q, _, _, _, hs⟩ := wf_calls hw c mc
  obtain ⟨g, mg, e⟩ := List.mem_map.mp hs
  exact List.mem_map.mpr ⟨g, mg, congrArg (·.1) e⟩
def Cl (fs : List Fn) (F : List Str) : Prop := ∀ y ∈ F, ∀ z ∈ succs fs y, z ∈ F
def Grow (fs : List Fn) (ss F found : List Str) : Prop := ∃ add, found = F ++ add ∧ (∀ z ∈ add, Reach fs ss z ∧ z ∉ F ∧ z ∈ fs.map (·.name)) ∧ 37 * missing (fs.map (·.name)) found + found.length ≤ 37 * missing (fs.map (·.name)) F + F.length
theorem Grow.refl {fs : List Fn} {ss F : List Str} : Grow fs ss F F := ⟨[], by rw [List.append_nil], by simp, Nat.le_refl _⟩
theorem Grow.sub {fs : List Fn} {ss F found : List Str} (h : Grow fs ss F found) : ∀ z ∈ F, z ∈ found := fun z m => by
  obtain ⟨add, rfl, _⟩ := h
  exact List.mem_append_left _ m
theorem Grow.all {fs : List Fn} {ss F found : List Str} (h : Grow fs ss F found) (hF : ∀ z ∈ F, Reach fs ss z ∧ z ∈ fs.map (·.name)) : ∀ z ∈ found, Reach fs ss z ∧ z ∈ fs.map (·.name) := fun z m => by
  obtain ⟨add, rfl, ha, _⟩ := h
  rcases List.mem_append.mp m with m | m
  · exact hF z m
  · exact ⟨(ha z m).1, (ha z m).2.2⟩
theorem Grow.step {fs : List Fn} {ss F found new : List Str} (h : Grow fs ss F found) (hn : ∀ z ∈ new, Reach fs ss z ∧ z ∉ found ∧ z ∈ fs.map (·.name)) (hl : new.length ≤ 36) : Grow fs ss F (found ++ new) := by
  obtain ⟨add, rfl, ha, hm⟩ := h
  refine ⟨add ++ new, List.append_assoc .., fun z m => ?_, Nat.le_trans (meas_le (c := 36) (fun z m => ⟨(hn z m).2.2, (hn z m).2.1⟩) hl) hm⟩
  rcases List.mem_append.mp m with m | m
  · exact ha z m
  · exact ⟨(hn z m).1, fun h => (hn z m).2.1 (List.mem_append_left _ h), (hn z m).2.2⟩
theorem turn {fs : List Fn} {ss F found : List Str} {t n : Nat} (hF : ∀ z ∈ F, Reach fs ss z ∧ z ∈ fs.map (·.name)) (hs : ∀ z ∈ ss, z ∈ F) (g : Grow fs ss F found) (hc : ∀ f ∈ fs, f.name ∈ F → ∀ z ∈ succs fs f.name, z ∈ found) (h : Cl fs F ∨ missing (fs.map (·.name)) F + t ≤ n) : Cl fs found ∨ missing (fs.map (·.name)) found + (t + 1) ≤ n := by
  obtain ⟨add, rfl, ha, _⟩ := g
  have h0 : add = [] → Cl fs (F ++ add) := fun e y my z mz => by
    subst e
    rw [List.append_nil] at my ⊢
    obtain ⟨f, mf, rfl⟩ := List.mem_map.mp (hF y my).2
    have := hc f mf my z mz
    rwa [List.append_nil] at this
  cases hadd : add with
  | nil => exact .inl (hadd ▸ h0 hadd)
  | cons z r =>
    have mz : z ∈ add := hadd ▸ List.mem_cons_self
    obtain ⟨z1, z2, z3⟩ := ha z mz
    rcases h with h | h
    · exfalso
      apply z2
      clear z2 mz ha hadd h0 hc
      induction z1 with
      | start m => exact hs _ m
      | @step y z r m ih =>
        have hy : y ∈ fs.map (·.name) := by
          unfold succs at m
          cases e : findF fs y with
          | none => rw [e] at m; cases m
          | some f =>
            have := findF_mem e
            rw [← this.2]
            exact List.mem_map_of_mem this.1
        exact h _ (ih hy) _ m
    · right
      rw [← hadd]
      have := missing_lt z3 z2 mz
      omega
theorem closed {rows : List MR.Row} {fs : List Fn} (hT : Table rows fs) {ss F : List Str} {n : Nat} (hF : ∀ z ∈ F, Reach fs ss z ∧ z ∈ fs.map (·.name)) (h : Cl fs F ∨ missing (fs.map (·.name)) F + n ≤ n) : Cl fs F := by
  rcases h with h | h
  · exact h
  · intro y my z mz
    obtain ⟨f, mf, rfl⟩ := List.mem_map.mp (hF y my).2
    unfold succs at mz
    rw [findF_of hT.nd mf] at mz
    obtain ⟨⟨m, b⟩, mb, mz⟩ := List.mem_flatMap.mp mz
    obtain ⟨c, mc, rfl⟩ := List.mem_map.mp mz
    have hn := (hT.call mf mb).2 c mc
    by_cases hz : c.1 ∈ F
    · exact hz
    · have : 0 < missing (fs.map (·.name)) F := List.length_pos_of_mem (List.mem_filter.mpr ⟨hn, decide_eq_true hz⟩)
      omega
end MF
namespace MW
open PySem PySem.Spec PyProof.Rows L2 DL
def opn (ps : List MR.Part) (z : Str) : Bool := (z == MY.rmp z) && !(MY.innOf ps z == MR.byteS)
def openL (ps : List MR.Part) (sp : List Str) : List Str := (sp.filter fun z => z == MY.rmp z).filter fun z => !(MY.innOf ps z == MR.byteS)
/-- a spec of a maker -/
structure Sp (ps : List MR.Part) (sp : List Str) : Prop where
  neat : MY.Neat ps
  ok : MY.SpecOk ps sp
theorem Sp.xs {ps : List MR.Part} {sp : List Str} (h : Sp ps sp) : ∃ xs : List (MR.Part × Bool), (xs.map (·.1)).Perm ps ∧ (∀ x ∈ xs, x.2 = true → x.1.inn ≠ MR.byteS) ∧ sp = xs.map (fun x => MY.slotS x.1 x.2) ∧ sp.map MY.rmp = xs.map (·.1.nm) := by
  obtain ⟨xs, h1, h2, h3⟩ := h.ok
  refine ⟨xs, h1, h2, h3, ?_⟩
  rw [h3, List.map_map]
  refine List.map_congr_left fun x m => ?_
  exact MY.rmp_slot (h.neat.name x.1 (h1.mem_iff.mp (List.mem_map_of_mem m))).1
theorem Sp.len {ps : List MR.Part} {sp : List Str} (h : Sp ps sp) : sp.length ≤ 4 := by
  rw [h.ok.len]
  exact h.neat.len
theorem Sp.perm {ps : List MR.Part} {sp : List Str} (h : Sp ps sp) : (sp.map MY.rmp).Perm (ps.map (·.nm)) := by
  obtain ⟨xs, h1, _, _, h4⟩ := h.xs
  rw [h4]
  have := h1.map (·.nm)
  rw [List.map_map] at this
  exact this
theorem Sp.nd {ps : List MR.Part} {sp : List Str} (h : Sp ps sp) : (sp.map MY.rmp).Nodup := h.perm.nodup_iff.mpr h.neat.nd
theorem Sp.str {ps : List MR.Part} {sp : List Str} (h : Sp ps sp) : ∀ z ∈ sp, PyData.strOk z = true ∧ z.length ≤ 9 := MY.spec_strs h.neat.name h.ok
theorem map_inj {α β : Type} {f : α → β} : ∀ {l : List α}, (l.map f).Nodup → ∀ {x y : α}, x ∈ l → y ∈ l → f x = f y → x = y
  | [], _, _, _, m, _, _ => by cases m
  | a :: r, h, x, y, mx, my, e => by
    rw [List.map_cons, List.nodup_cons] at h
    rcases List.mem_cons.mp mx with e1 | m1
    · rcases List.mem_cons.mp my with e2 | m2
      · exact e1.trans e2.symm
      · exact absurd (by rw [← e1, e]; exact List.mem_map_of_mem m2) h.1
    · rcases List.mem_cons.mp my with e2 | m2
      · exact absurd (by rw [← e2, ← e]; exact List.mem_map_of_mem m1) h.1
      · exact map_inj h.2 m1 m2 e
theorem Sp.mem_open {ps : List MR.Part} {sp : List Str} (h : Sp ps sp) {z : Str} (m : z ∈ sp) : decide (MY.rmp z ∈ openL ps sp) = opn ps z := by
  unfold openL opn
  apply Bool.eq_iff_iff.mpr
  rw [decide_eq_true_iff, List.mem_filter, List.mem_filter]
  constructor
  · rintro ⟨⟨m2, e⟩, h2⟩
    have e := eq_of_beq e
    have : MY.rmp z = z := map_inj h.nd m2 m e.symm
    rw [this] at h2
    rw [Bool.and_eq_true]
    exact ⟨by rw [this]; exact beq_self_eq_true _, h2⟩
  · intro h2
    rw [Bool.and_eq_true] at h2
    have e := eq_of_beq h2.1
    rw [← e]
    exact ⟨⟨m, by rw [← e]; exact beq_self_eq_true _⟩, h2.2⟩
end MW
namespace MC
open PySem PySem.Spec PyProof.Rows L2 DL MF MX
inductive Ev where
  | tag (a : Nat) (m : Str) | len (a n : Nat) | jump (a g : Nat) | byte (a b : Nat)
/-- where a run gets stuck -/
structure Stk where
  back : Bool
  fn : Str
  mkr : Str
  part : Str
  blk : Str
/-- a node: function, maker, slots, which slots are open, how long the parts are -/
structure Nd where
  fn : Str
  mkr : Str
  slots : List Str
  opn : Str → Bool
  len : Str → Nat
def Nd.names (c : Nd) : List Str := c.slots.map MY.rmp
/-- the cursor in a node -/
structure Cur where
  at_ : Nat
  spot : Nat
  blk : Str
  log : List Ev
def passS (c : Nd) (z : Str) (s : Cur) : Cur :=
  if z = MY.rmp z then ⟨s.at_ + 1, s.spot + 1, s.blk, s.log ++ [.jump s.at_ (s.at_ + 1)]⟩
  else ⟨s.at_ + 2 + c.len (MY.rmp z), s.spot + 1, s.blk, s.log ++ [.len s.at_ (c.len (MY.rmp z)), .jump (s.at_ + 2) (s.at_ + 2 + c.len (MY.rmp z))]⟩
def slotAt (c : Nd) (i : Nat) : Str := c.slots.getD i ""
def walkTo (c : Nd) : Nat → Cur → Except (Str × Cur) Cur
  | 0, s => .ok s
  | n + 1, s => if c.opn (slotAt c s.spot) = true then .error (slotAt c s.spot, s) else walkTo c n (passS c (slotAt c s.spot) s)
def goal (c : Nd) (p : Str) : Nat := c.names.idxOf p
def goTo (c : Nd) (p : Str) (s : Cur) : Except (Stk × Cur) Cur :=
  if goal c p < s.spot then .error (⟨true, c.fn, c.mkr, p, ""⟩, s)
  else if s.blk ≠ "" then .error (⟨false, c.fn, c.mkr, p, s.blk⟩, s)
  else match walkTo c (goal c p - s.spot) s with
    | .error x => .error (⟨false, c.fn, c.mkr, p, x.1⟩, x.2)
    | .ok s' => .ok { s' with spot := goal c p + 1 }
/-- what a call gives -/
structure Res where
  out : Except Stk (Int × Bool)
  at_ : Nat
  prints : List Int
  log : List Ev
/-- a node's run so far -/
structure Run where
  cur : Cur
  taken : List Int
  prints : List Int
def natI (d : D) : Nat := (valI d).toNat
def byteS (p : Str) (v : Nat) (s : Cur) : Cur := { s with at_ := s.at_ + 1, log := s.log ++ [.byte s.at_ v] }
/-- the cursor ahead of a callee -/
def atCall (c : Nd) (p : Str) (s : Cur) : Cur := if slotAt c (goal c p) = p then s else { s with at_ := s.at_ + 2, log := s.log ++ [.len s.at_ (c.len p)] }
def afterCall (c : Nd) (p : Str) (s : Cur) (r : Res) : Cur := { s with at_ := r.at_, log := s.log ++ r.log }
def callEnd (c : Nd) (p : Str) (e : Bool) (g : Nat) (s : Cur) : Cur :=
  if e = true then s else if slotAt c (goal c p) = p then { s with blk := p } else { s with at_ := g, log := s.log ++ [.jump s.at_ g] }
def step (c : Nd) (val : Str → D) (callee : Str → D → Nat → Res) (x : Sm ⊕ Str) (s : Run) : Except (Stk × Run) Run := match x with
  | .inl (.say i) => .ok ⟨s.cur, s.taken ++ [i], s.prints ++ [i]⟩
  | .inl (.read p) => match goTo c p s.cur with
    | .error e => .error (e.1, ⟨e.2, s.taken, s.prints⟩)
    | .ok t => .ok ⟨byteS p (natI (val p)) t, s.taken ++ [(natI (val p) : Int)], s.prints ++ [(natI (val p) : Int)]⟩
  | .inr p => match goTo c p s.cur with
    | .error e => .error (e.1, ⟨e.2, s.taken, s.prints⟩)
    | .ok t => .ok ⟨byteS p (natI (val p)) t, s.taken, s.prints⟩
  | .inl (.call g p) => match goTo c p s.cur with
    | .error e => .error (e.1, ⟨e.2, s.taken, s.prints⟩)
    | .ok t =>
      let r := callee g (val p) (atCall c p t).at_
      match r.out with
      | .error k => .error (k, ⟨afterCall c p (atCall c p t) r, s.taken, s.prints ++ r.prints⟩)
      | .ok a => .ok ⟨callEnd c p a.2 ((atCall c p t).at_ + c.len p) (afterCall c p (atCall c p t) r), s.taken ++ [a.1], s.prints ++ r.prints⟩
def runL (c : Nd) (val : Str → D) (callee : Str → D → Nat → Res) : List (Sm ⊕ Str) → Run → Except (Stk × Run) Run
  | [], s => .ok s
  | x :: r, s => match step c val callee x s with
    | .error e => .error e
    | .ok t => runL c val callee r t
def passN (c : Nd) : Nat → Cur → Cur
  | 0, s => s
  | n + 1, s => passN c n (passS c (slotAt c s.spot) s)
def endsB (c : Nd) (s : Cur) : Bool := decide (s.blk = "") && !(c.slots.drop s.spot).any c.opn
def finish (c : Nd) (s : Cur) : Cur := if endsB c s = true then passN c (c.slots.length - s.spot) s else s
def nodeR (c : Nd) (fold : Str) (val : Str → D) (callee : Str → D → Nat → Res) (es : List (Sm ⊕ Str)) (p : Nat) : Res := match runL c val callee es ⟨⟨p + 1, 0, "", [.tag p c.mkr]⟩, [], []⟩ with
  | .error e => ⟨.error e.1, e.2.cur.at_, e.2.prints, e.2.cur.log⟩
  | .ok s => ⟨.ok (foldI fold s.taken, endsB c s.cur), (finish c s.cur).at_, s.prints, (finish c s.cur).log⟩
/-- the slots of a maker that are trees without a length -/
def opnOf (r : MR.Row) (z : Str) : Bool := decide (z = MY.rmp z) && !(MY.innOf r.parts z == MR.byteS)
def ndOf (rows : List MR.Row) (sp : Str → List Str) (n : Nat) (z : Str) (r : MR.Row) (ds : List D) : Nd := ⟨z, r.maker, sp r.maker, opnOf r, fun p => (TR.packT rows sp n (TR.valOf r.parts ds p)).length⟩
def callM (rows : List MR.Row) (sp : Str → List Str) (gs : List Fn) : Nat → Str → D → Nat → Res
  | n + 1, z, .tup (.str m :: ds), p => match findF gs z, TR.findR rows m with
    | some f, some r => match f.bodies.lookup m with
      | some b => nodeR (ndOf rows sp n z r ds) f.fold (TR.valOf r.parts ds) (callM rows sp gs n) (flatE (fun q => valI (TR.valOf r.parts ds q)) b) p
      | none => ⟨.ok (0, true), p, [], []⟩
    | _, _ => ⟨.ok (0, true), p, [], []⟩
  | _, _, _, p => ⟨.ok (0, true), p, [], []⟩
theorem call_mk {rows : List MR.Row} {sp : Str → List Str} {gs : List Fn} {n : Nat} {z m : Str} {ds : List D} {f : Fn} {r : MR.Row} {b : Bd} {p : Nat} (h1 : findF gs z = some f) (h2 : TR.findR rows m = some r) (h3 : f.bodies.lookup m = some b) :
    callM rows sp gs (n + 1) z (.tup (.str m :: ds)) p = nodeR (ndOf rows sp n z r ds) f.fold (TR.valOf r.parts ds) (callM rows sp gs n) (flatE (fun q => valI (TR.valOf r.parts ds q)) b) p := by
  unfold callM
  rw [h1, h2]
  simp only [h3]
theorem pass_log (c : Nd) (z : Str) (s : Cur) : s.log.length ≤ (passS c z s).log.length ∧ (passS c z s).log.length ≤ s.log.length + 2 ∧ (passS c z s).spot = s.spot + 1 ∧ (passS c z s).blk = s.blk := by
  unfold passS
  split <;> simp
theorem walk_log (c : Nd) : ∀ (n : Nat) (s : Cur), match walkTo c n s with
    | .error x => s.log.length ≤ x.2.log.length ∧ x.2.log.length ≤ s.log.length + 2 * n ∧ x.2.blk = s.blk
    | .ok t => s.log.length ≤ t.log.length ∧ t.log.length ≤ s.log.length + 2 * n ∧ t.spot = s.spot + n ∧ t.blk = s.blk
  | 0, s => by
    show _ ∧ _ ∧ _ ∧ _
    exact ⟨Nat.le_refl _, Nat.le_refl _, rfl, rfl⟩
  | n + 1, s => by
    unfold walkTo
    by_cases h : c.opn (slotAt c s.spot) = true
    · rw [if_pos h]
      exact ⟨Nat.le_refl _, Nat.le_add_right _ _, rfl⟩
    · rw [if_neg h]
      have ih := walk_log c n (passS c (slotAt c s.spot) s)
      obtain ⟨h1, h2, h3, h4⟩ := pass_log c (slotAt c s.spot) s
      cases e : walkTo c n (passS c (slotAt c s.spot) s) with
      | error x =>
        rw [e] at ih
        obtain ⟨i1, i2, i3⟩ := ih
        exact ⟨by omega, by omega, by rw [i3, h4]⟩
      | ok t =>
        rw [e] at ih
        obtain ⟨i1, i2, i3, i4⟩ := ih
        exact ⟨by omega, by omega, by omega, by rw [i4, h4]⟩
theorem names_len (c : Nd) : c.names.length = c.slots.length := List.length_map ..
theorem goal_lt {c : Nd} {p : Str} (h : p ∈ c.names) : goal c p < c.slots.length := by
  rw [← names_len]
  exact List.idxOf_lt_length_of_mem h
theorem go_log {c : Nd} {p : Str} {s : Cur} (hp : p ∈ c.names) : match goTo c p s with
    | .error x => s.log.length ≤ x.2.log.length ∧ x.2.log.length ≤ s.log.length + 2 * c.slots.length
    | .ok t => s.log.length ≤ t.log.length ∧ t.log.length ≤ s.log.length + 2 * c.slots.length ∧ s.blk = "" ∧ t.blk = "" ∧ t.spot = goal c p + 1 ∧ s.spot ≤ goal c p := by
  have hg := goal_lt hp
  unfold goTo
  by_cases h1 : goal c p < s.spot
  · rw [if_pos h1]
    exact ⟨Nat.le_refl _, Nat.le_add_right _ _⟩
  · rw [if_neg h1]
    by_cases h2 : s.blk ≠ ""
    · rw [if_pos h2]
      exact ⟨Nat.le_refl _, Nat.le_add_right _ _⟩
    · rw [if_neg h2]
      have h2 : s.blk = "" := Classical.byContradiction h2
      have w := walk_log c (goal c p - s.spot) s
      cases e : walkTo c (goal c p - s.spot) s with
      | error x =>
        rw [e] at w
        exact ⟨w.1, Nat.le_trans w.2.1 (by omega)⟩
      | ok t =>
        rw [e] at w
        obtain ⟨w1, w2, w3, w4⟩ := w
        exact ⟨w1, by show t.log.length ≤ _; omega, h2, by show t.blk = _; rw [w4, h2], rfl, by omega⟩
def asksE : Sm ⊕ Str → List Str
  | .inl s => askS s
  | .inr p => [p]
theorem passN_log (c : Nd) : ∀ (n : Nat) (s : Cur), s.log.length ≤ (passN c n s).log.length ∧ (passN c n s).log.length ≤ s.log.length + 2 * n ∧ (passN c n s).spot = s.spot + n ∧ (passN c n s).blk = s.blk
  | 0, s => ⟨Nat.le_refl _, Nat.le_refl _, rfl, rfl⟩
  | n + 1, s => by
    obtain ⟨h1, h2, h3, h4⟩ := pass_log c (slotAt c s.spot) s
    obtain ⟨i1, i2, i3, i4⟩ := passN_log c n (passS c (slotAt c s.spot) s)
    show _ ≤ (passN c n _).log.length ∧ (passN c n _).log.length ≤ _ ∧ (passN c n _).spot = _ ∧ (passN c n _).blk = _
    exact ⟨by omega, by omega, by omega, by rw [i4, h4]⟩
theorem finish_log (c : Nd) (s : Cur) : s.log.length ≤ (finish c s).log.length ∧ (finish c s).log.length ≤ s.log.length + 2 * c.slots.length := by
  unfold finish
  split
  · obtain ⟨h1, h2, _, _⟩ := passN_log c (c.slots.length - s.spot) s
    exact ⟨h1, by omega⟩
  · exact ⟨Nat.le_refl _, Nat.le_add_right _ _⟩
def Nd.wd (c : Nd) (z : Str) : Nat := if c.opn z = true then c.len z else if z = MY.rmp z then 1 else 2 + c.len (MY.rmp z)
def off (c : Nd) (k : Nat) : Nat := ((c.slots.take k).map c.wd).sum
theorem slotAt_get {c : Nd} {i : Nat} (h : i < c.slots.length) : c.slots[i]? = some (slotAt c i) := by
  unfold slotAt
  rw [List.getD_eq_getElem?_getD, List.getElem?_eq_getElem h]
  rfl
theorem off_succ {c : Nd} {k : Nat} (h : k < c.slots.length) : off c (k + 1) = off c k + c.wd (slotAt c k) := by
  unfold off
  rw [tk (slotAt_get h), List.map_append, List.sum_append]
  simp
theorem slot_goal {c : Nd} {p : Str} (h : p ∈ c.names) : MY.rmp (slotAt c (goal c p)) = p ∧ slotAt c (goal c p) ∈ c.slots := by
  have hl := goal_lt h
  have e1 := slotAt_get hl
  have e2 : c.names[goal c p]? = some (MY.rmp (slotAt c (goal c p))) := by
    unfold Nd.names
    rw [List.getElem?_map, e1]
    rfl
  have e3 : c.names[goal c p]? = some p := by
    unfold goal
    rw [List.getElem?_eq_getElem (List.idxOf_lt_length_of_mem h), List.getElem_idxOf]
  rw [e2] at e3
  exact ⟨Option.some.inj e3, List.mem_of_getElem? e1⟩
theorem pass_at {c : Nd} {s : Cur} (h : c.opn (slotAt c s.spot) = false) : (passS c (slotAt c s.spot) s).at_ = s.at_ + c.wd (slotAt c s.spot) := by
  unfold passS Nd.wd
  rw [h]
  split
  · rw [if_neg (by decide)]
  · rw [if_neg (by decide)]
    show s.at_ + 2 + _ = _
    omega
theorem walk_at {c : Nd} {p0 : Nat} : ∀ (n : Nat) {s t : Cur}, walkTo c n s = .ok t → s.spot + n ≤ c.slots.length → s.at_ = p0 + 1 + off c s.spot → t.at_ = p0 + 1 + off c (s.spot + n)
  | 0, s, t, h, _, ha => by
    cases h
    exact ha
  | n + 1, s, t, h, hl, ha => by
    unfold walkTo at h
    by_cases z : c.opn (slotAt c s.spot) = true
    · rw [if_pos z] at h
      cases h
    · rw [if_neg z] at h
      have z : c.opn (slotAt c s.spot) = false := by simpa using z
      have hsp := (pass_log c (slotAt c s.spot) s).2.2.1
      have := walk_at (p0 := p0) n h (by rw [hsp]; omega) (by rw [pass_at z, hsp, off_succ (by omega), ha]; omega)
      rw [this, hsp]
      congr 2
      omega
/-- where the cursor stands in a node -/
def Pos (c : Nd) (p0 : Nat) (s : Cur) : Prop := s.spot ≤ c.slots.length ∧ (s.blk = "" → s.at_ = p0 + 1 + off c s.spot)
theorem go_at {c : Nd} {p : Str} {s t : Cur} {p0 : Nat} (hp : p ∈ c.names) (h : goTo c p s = .ok t) (hs : Pos c p0 s) : t.at_ = p0 + 1 + off c (goal c p) ∧ t.spot = goal c p + 1 ∧ t.blk = "" := by
  have hg := goal_lt hp
  unfold goTo at h
  by_cases h1 : goal c p < s.spot
  · rw [if_pos h1] at h
    cases h
  · rw [if_neg h1] at h
    by_cases h2 : s.blk ≠ ""
    · rw [if_pos h2] at h
      cases h
    · rw [if_neg h2] at h
      have h2 : s.blk = "" := Classical.byContradiction h2
      have w := walk_log c (goal c p - s.spot) s
      cases e : walkTo c (goal c p - s.spot) s with
      | error x => rw [e] at h; cases h
      | ok u =>
        rw [e] at h w
        cases h
        have := walk_at _ e (by omega) (hs.2 h2)
        rw [show s.spot + (goal c p - s.spot) = goal c p by omega] at this
        exact ⟨this, rfl, by show u.blk = _; rw [w.2.2.2, h2]⟩
structure Good (c : Nd) : Prop where
  nd : c.names.Nodup
  opn : ∀ z, c.opn z = true → z = MY.rmp z
  few : c.slots.length ≤ 4
/-- a step that fits a node -/
def StepOk (c : Nd) (val : Str → D) (callee : Str → D → Nat → Res) : Sm ⊕ Str → Prop
  | .inl (.say _) => True
  | .inl (.read p) => p ∈ c.names ∧ slotAt c (goal c p) = p ∧ c.opn p = false
  | .inr p => p ∈ c.names ∧ slotAt c (goal c p) = p ∧ c.opn p = false
  | .inl (.call g p) => p ∈ c.names ∧ p ≠ "" ∧ (slotAt c (goal c p) = p → c.opn p = true) ∧ ∀ q a, (callee g (val p) q).out = .ok (a, true) → (callee g (val p) q).at_ = q + c.len p
theorem StepOk.asks {c : Nd} {val : Str → D} {callee : Str → D → Nat → Res} {x : Sm ⊕ Str} (h : StepOk c val callee x) : ∀ p ∈ asksE x, p ∈ c.names := fun p m => by
  rcases x with (q | ⟨g, q⟩ | i) | q
  · rw [List.mem_singleton.mp m]; exact h.1
  · rw [List.mem_singleton.mp m]; exact h.1
  · cases m
  · rw [List.mem_singleton.mp m]; exact h.1
theorem byte_pos {c : Nd} {p : Str} {v : Nat} {s t : Cur} {p0 : Nat} (hx : p ∈ c.names ∧ slotAt c (goal c p) = p ∧ c.opn p = false) (h : goTo c p s = .ok t) (hs : Pos c p0 s) : Pos c p0 (byteS p v t) := by
  obtain ⟨h1, h2, h3⟩ := go_at hx.1 h hs
  have hg := goal_lt hx.1
  have hr := (slot_goal hx.1).1
  refine ⟨by show t.spot ≤ _; omega, fun _ => ?_⟩
  show t.at_ + 1 = p0 + 1 + off c t.spot
  rw [h2, off_succ hg, hx.2.1, h1]
  have : c.wd p = 1 := by
    unfold Nd.wd
    rw [if_neg (by rw [hx.2.2]; decide), if_pos (by rw [hx.2.1] at hr; exact hr.symm)]
  omega
theorem step_pos {c : Nd} (hc : Good c) {val : Str → D} {callee : Str → D → Nat → Res} {x : Sm ⊕ Str} (hx : StepOk c val callee x) {s t : Run} {p0 : Nat} (hs : Pos c p0 s.cur) (h : step c val callee x s = .ok t) : Pos c p0 t.cur := by
  rcases x with (p | ⟨g, p⟩ | i) | p
  · cases e : goTo c p s.cur with
    | error y => simp only [step, e] at h; cases h
    | ok u =>
      simp only [step, e] at h
      cases h
      exact byte_pos hx e hs
  · cases e : goTo c p s.cur with
    | error y => simp only [step, e] at h; cases h
    | ok u =>
      simp only [step, e] at h
      obtain ⟨hp, hne, hop, hcal⟩ := hx
      obtain ⟨h1, h2, h3⟩ := go_at hp e hs
      have hg := goal_lt hp
      have hr := (slot_goal hp).1
      cases ho : (callee g (val p) (atCall c p u).at_).out with
      | error k => rw [ho] at h; cases h
      | ok a =>
        rw [ho] at h
        cases h
        obtain ⟨a1, a2⟩ := a
        have hac : (atCall c p u).spot = goal c p + 1 ∧ (atCall c p u).blk = "" ∧ (atCall c p u).at_ + c.len p = p0 + 1 + off c (goal c p + 1) := by
          rw [off_succ hg]
          unfold atCall
          by_cases hz : slotAt c (goal c p) = p
          · rw [if_pos hz, hz]
            refine ⟨h2, h3, ?_⟩
            unfold Nd.wd
            rw [if_pos (hop hz)]
            omega
          · rw [if_neg hz]
            refine ⟨h2, h3, ?_⟩
            have hno : ¬ c.opn (slotAt c (goal c p)) = true := fun q => hz ((hc.opn _ q).trans hr)
            unfold Nd.wd
            rw [if_neg hno, if_neg (by rw [hr]; exact hz), hr]
            show u.at_ + 2 + _ = _
            omega
        obtain ⟨c1, c2, c3⟩ := hac
        show Pos c p0 (callEnd c p a2 _ (afterCall c p (atCall c p u) _))
        unfold callEnd
        cases a2 with
        | true =>
          rw [if_pos rfl]
          refine ⟨by show (atCall c p u).spot ≤ _; omega, fun _ => ?_⟩
          show (callee g (val p) (atCall c p u).at_).at_ = p0 + 1 + off c (atCall c p u).spot
          rw [hcal _ a1 ho, c1, c3]
        | false =>
          rw [if_neg (by decide)]
          by_cases hz : slotAt c (goal c p) = p
          · rw [if_pos hz]
            exact ⟨by show (atCall c p u).spot ≤ _; omega, fun q => absurd q hne⟩
          · rw [if_neg hz]
            refine ⟨by show (atCall c p u).spot ≤ _; omega, fun _ => ?_⟩
            show (atCall c p u).at_ + c.len p = p0 + 1 + off c (atCall c p u).spot
            rw [c1, c3]
  · simp only [step] at h
    cases h
    exact hs
  · cases e : goTo c p s.cur with
    | error y => simp only [step, e] at h; cases h
    | ok u =>
      simp only [step, e] at h
      cases h
      exact byte_pos hx e hs
theorem runL_pos {c : Nd} (hc : Good c) {val : Str → D} {callee : Str → D → Nat → Res} {p0 : Nat} : ∀ (es : List (Sm ⊕ Str)) {s t : Run}, (∀ x ∈ es, StepOk c val callee x) → Pos c p0 s.cur → runL c val callee es s = .ok t → Pos c p0 t.cur
  | [], s, t, _, hs, h => by
    cases h
    exact hs
  | x :: r, s, t, hx, hs, h => by
    cases e : step c val callee x s with
    | error y => simp only [runL, e] at h; cases h
    | ok u =>
      simp only [runL, e] at h
      exact runL_pos hc r (fun y m => hx y (List.mem_cons_of_mem _ m)) (step_pos hc (hx x List.mem_cons_self) hs e) h
theorem passN_at {c : Nd} {p0 : Nat} : ∀ (n : Nat) {s : Cur}, s.spot + n ≤ c.slots.length → (∀ z ∈ c.slots.drop s.spot, c.opn z = false) → s.at_ = p0 + 1 + off c s.spot → (passN c n s).at_ = p0 + 1 + off c (s.spot + n)
  | 0, s, _, _, h => h
  | n + 1, s, hl, ho, h => by
    have hlt : s.spot < c.slots.length := by omega
    have e1 := slotAt_get hlt
    have ed : c.slots.drop s.spot = slotAt c s.spot :: c.slots.drop (s.spot + 1) := by
      rw [List.drop_eq_getElem_cons hlt, (List.getElem?_eq_some_iff.mp e1).2]
    have z := ho (slotAt c s.spot) (by rw [ed]; exact List.mem_cons_self)
    have hsp := (pass_log c (slotAt c s.spot) s).2.2.1
    show (passN c n (passS c (slotAt c s.spot) s)).at_ = _
    rw [passN_at (p0 := p0) n (by rw [hsp]; omega) (fun y m => ho y (by rw [hsp] at m; rw [ed]; exact List.mem_cons_of_mem _ m)) (by rw [pass_at z, hsp, off_succ hlt, h]; omega), hsp]
    congr 2
    omega
theorem finish_at {c : Nd} {p0 : Nat} {s : Cur} (h : Pos c p0 s) (he : endsB c s = true) : (finish c s).at_ = p0 + 1 + off c c.slots.length := by
  have h1 := he
  unfold endsB at h1
  rw [Bool.and_eq_true, decide_eq_true_eq, Bool.not_eq_true', List.any_eq_false] at h1
  unfold finish
  rw [if_pos he, passN_at _ (by have := h.1; omega) (fun z m => by simpa using h1.2 z m) (h.2 h1.1)]
  congr 2
  have := h.1
  omega
def sumP (R : Sm → Int × List Int) (es : List (Sm ⊕ Str)) : List Int := ((leftS es).map R).flatMap (·.2)
def sumA (R : Sm → Int × List Int) (es : List (Sm ⊕ Str)) : List Int := ((leftS es).map R).map (·.1)
theorem sumP_cons (R : Sm → Int × List Int) (x : Sm ⊕ Str) (r : List (Sm ⊕ Str)) : sumP R (x :: r) = sumP R [x] ++ sumP R r := by
  unfold sumP
  rw [show x :: r = [x] ++ r from rfl, left_app, List.map_append, List.flatMap_append]
theorem sumA_cons (R : Sm → Int × List Int) (x : Sm ⊕ Str) (r : List (Sm ⊕ Str)) : sumA R (x :: r) = sumA R [x] ++ sumA R r := by
  unfold sumA
  rw [show x :: r = [x] ++ r from rfl, left_app, List.map_append, List.map_append]
/-- what a step gives, as R has it -/
def ValOk (val : Str → D) (callee : Str → D → Nat → Res) (R : Sm → Int × List Int) : Sm ⊕ Str → Prop
  | .inl (.say i) => R (.say i) = (i, [i])
  | .inl (.read p) => R (.read p) = ((natI (val p) : Int), [(natI (val p) : Int)])
  | .inr _ => True
  | .inl (.call g p) => ∀ q, (callee g (val p) q).prints <+: (R (.call g p)).2 ∧ ∀ a, (callee g (val p) q).out = .ok a → a.1 = (R (.call g p)).1 ∧ (callee g (val p) q).prints = (R (.call g p)).2
theorem step_val {c : Nd} {val : Str → D} {callee : Str → D → Nat → Res} {R : Sm → Int × List Int} {x : Sm ⊕ Str} (hx : ValOk val callee R x) {s : Run} : match step c val callee x s with
    | .error e => e.2.prints <+: s.prints ++ sumP R [x]
    | .ok t => t.taken = s.taken ++ sumA R [x] ∧ t.prints = s.prints ++ sumP R [x] := by
  rcases x with (p | ⟨g, p⟩ | i) | p
  · have hx : R (.read p) = _ := hx
    cases e : goTo c p s.cur <;> simp only [step, e]
    · exact List.prefix_append _ _
    · simp [sumA, sumP, leftS, hx]
  · cases e : goTo c p s.cur <;> simp only [step, e]
    · exact List.prefix_append _ _
    · rename_i u
      obtain ⟨h1, h2⟩ := hx (atCall c p u).at_
      cases ho : (callee g (val p) (atCall c p u).at_).out with
      | error k =>
        simp only [sumP, leftS, List.filterMap_cons, List.filterMap_nil, List.map_cons, List.map_nil, List.flatMap_cons, List.flatMap_nil, List.append_nil]
        exact (List.prefix_append_right_inj _).mpr h1
      | ok a =>
        obtain ⟨h3, h4⟩ := h2 a ho
        simp [sumA, sumP, leftS, h3, h4]
  · have hx : R (.say i) = _ := hx
    simp [step, sumA, sumP, leftS, hx]
  · cases e : goTo c p s.cur <;> simp only [step, e]
    · exact List.prefix_append _ _
    · simp [sumA, sumP, leftS]
theorem runL_val {c : Nd} {val : Str → D} {callee : Str → D → Nat → Res} {R : Sm → Int × List Int} : ∀ (es : List (Sm ⊕ Str)) (s : Run), (∀ x ∈ es, ValOk val callee R x) → match runL c val callee es s with
    | .error e => e.2.prints <+: s.prints ++ sumP R es
    | .ok t => t.taken = s.taken ++ sumA R es ∧ t.prints = s.prints ++ sumP R es
  | [], s, _ => by simp [runL, sumA, sumP, leftS]
  | x :: r, s, h => by
    have w := step_val (c := c) (s := s) (h x List.mem_cons_self)
    rw [sumP_cons, sumA_cons]
    cases e1 : step c val callee x s with
    | error e =>
      rw [e1] at w
      simp only [runL, e1]
      have w : e.2.prints <+: s.prints ++ sumP R [x] := w
      rw [← List.append_assoc]
      exact w.trans (List.prefix_append _ _)
    | ok t =>
      rw [e1] at w
      simp only [runL, e1]
      obtain ⟨w1, w2⟩ := w
      have ih := runL_val (c := c) (R := R) r t fun y m => h y (List.mem_cons_of_mem _ m)
      cases e2 : runL c val callee r t with
      | error e =>
        rw [e2] at ih
        have ih : e.2.prints <+: t.prints ++ sumP R r := ih
        rw [w2, List.append_assoc] at ih
        exact ih
      | ok u =>
        rw [e2] at ih
        obtain ⟨i1, i2⟩ := ih
        exact ⟨by rw [i1, w1, List.append_assoc], by rw [i2, w2, List.append_assoc]⟩
def CostOk (c : Nd) (val : Str → D) (callee : Str → D → Nat → Res) (cost : Str → Nat) : Sm ⊕ Str → Prop
  | .inl (.call g p) => p ∈ c.names ∧ 11 ≤ cost p ∧ ∀ q, (callee g (val p) q).log.length + 11 ≤ cost p
  | .inl (.read p) => p ∈ c.names ∧ 11 ≤ cost p
  | .inr p => p ∈ c.names ∧ 11 ≤ cost p
  | .inl (.say _) => True
theorem step_cost {c : Nd} (hc : c.slots.length ≤ 4) {val : Str → D} {callee : Str → D → Nat → Res} {cost : Str → Nat} {x : Sm ⊕ Str} (hx : CostOk c val callee cost x) {s : Run} : match step c val callee x s with
    | .error e => e.2.cur.log.length ≤ s.cur.log.length + ((asksE x).map cost).sum
    | .ok t => t.cur.log.length ≤ s.cur.log.length + ((asksE x).map cost).sum := by
  have one : ∀ p : Str, ([p].map cost).sum = cost p := fun p => by simp
  rcases x with (p | ⟨g, p⟩ | i) | p
  · obtain ⟨hp, h1⟩ := hx
    have w := go_log (s := s.cur) hp
    rw [show asksE (.inl (.read p)) = [p] from rfl, one]
    cases e : goTo c p s.cur <;> rw [e] at w <;> simp only [step, e]
    · exact Nat.le_trans w.2 (by omega)
    · show (_ ++ [_] : List Ev).length ≤ _
      rw [List.length_append]
      have := w.2.1
      show _ + 1 ≤ _
      omega
  · obtain ⟨hp, h1, h2⟩ := hx
    have w := go_log (s := s.cur) hp
    rw [show asksE (.inl (.call g p)) = [p] from rfl, one]
    cases e : goTo c p s.cur <;> rw [e] at w <;> simp only [step, e]
    · exact Nat.le_trans w.2 (by omega)
    · rename_i u
      have ha : (atCall c p u).log.length ≤ u.log.length + 1 := by
        unfold atCall
        split <;> simp
      have hb := h2 (atCall c p u).at_
      have hd : (afterCall c p (atCall c p u) (callee g (val p) (atCall c p u).at_)).log.length = (atCall c p u).log.length + (callee g (val p) (atCall c p u).at_).log.length := by
        unfold afterCall
        simp
      have hw := w.2.1
      cases ho : (callee g (val p) (atCall c p u).at_).out with
      | error k =>
        show (afterCall c p (atCall c p u) (callee g (val p) (atCall c p u).at_)).log.length ≤ _
        omega
      | ok a =>
        show (callEnd c p a.2 _ (afterCall c p (atCall c p u) (callee g (val p) (atCall c p u).at_))).log.length ≤ _
        have : ∀ q e s, (callEnd c p e q s).log.length ≤ s.log.length + 1 := fun q e s => by
          unfold callEnd
          split
          · omega
          · split <;> simp
        have := this ((atCall c p u).at_ + c.len p) a.2 (afterCall c p (atCall c p u) (callee g (val p) (atCall c p u).at_))
        omega
  · exact Nat.le_add_right _ _
  · obtain ⟨hp, h1⟩ := hx
    have w := go_log (s := s.cur) hp
    rw [show asksE (.inr p) = [p] from rfl, one]
    cases e : goTo c p s.cur <;> rw [e] at w <;> simp only [step, e]
    · exact Nat.le_trans w.2 (by omega)
    · show (_ ++ [_] : List Ev).length ≤ _
      rw [List.length_append]
      have := w.2.1
      show _ + 1 ≤ _
      omega
theorem runL_cost {c : Nd} (hc : c.slots.length ≤ 4) {val : Str → D} {callee : Str → D → Nat → Res} {cost : Str → Nat} : ∀ (es : List (Sm ⊕ Str)) (s : Run), (∀ x ∈ es, CostOk c val callee cost x) → match runL c val callee es s with
    | .error e => e.2.cur.log.length ≤ s.cur.log.length + ((es.flatMap asksE).map cost).sum
    | .ok t => t.cur.log.length ≤ s.cur.log.length + ((es.flatMap asksE).map cost).sum
  | [], s, _ => Nat.le_refl _
  | x :: r, s, h => by
    have w := step_cost hc (s := s) (h x List.mem_cons_self)
    rw [List.flatMap_cons, List.map_append, List.sum_append]
    cases e1 : step c val callee x s with
    | error e =>
      rw [e1] at w
      simp only [runL, e1]
      exact Nat.le_trans w (by omega)
    | ok t =>
      rw [e1] at w
      simp only [runL, e1]
      have w : t.cur.log.length ≤ s.cur.log.length + ((asksE x).map cost).sum := w
      have ih := runL_cost hc r t fun y m => h y (List.mem_cons_of_mem _ m)
      cases e2 : runL c val callee r t with
      | error e => rw [e2] at ih; exact Nat.le_trans ih (by omega)
      | ok u => rw [e2] at ih; exact Nat.le_trans ih (by omega)
theorem part_eq {ps : List MR.Part} (nd : (ps.map (·.nm)).Nodup) {p q : MR.Part} (mp : p ∈ ps) (mq : q ∈ ps) (e : p.nm = q.nm) : p = q := by
  obtain ⟨i, hi⟩ := List.mem_iff_getElem?.mp mp
  obtain ⟨j, hj⟩ := List.mem_iff_getElem?.mp mq
  have h1 : (ps.map (·.nm))[i]? = some p.nm := by rw [List.getElem?_map, hi]; rfl
  have h2 : (ps.map (·.nm))[j]? = some p.nm := by rw [List.getElem?_map, hj, e]; rfl
  have := L2.nd_ix nd h1 h2
  subst this
  rw [hi] at hj
  exact Option.some.inj hj
/-- a step or a test that is right -/
def okE (ps : List MR.Part) (hd : List (Str × Str)) : Sm ⊕ Str → Prop
  | .inl s => okSm ps hd s
  | .inr p => ∃ q ∈ ps, q.nm = p ∧ q.inn = MR.byteS
theorem map_asks (ss : List Sm) : (ss.map Sum.inl).flatMap asksE = asks ss := by
  rw [List.flatMap_map]
  rfl
theorem flatE_ok {ps : List MR.Part} {hd : List (Str × Str)} {v : Str → Int} : ∀ {b : Bd} {a : List Str}, Wf ps hd a b → (∀ x ∈ flatE v b, okE ps hd x) ∧ (a ++ (flatE v b).flatMap asksE).Nodup
  | .fin ss, a, h => by
    refine ⟨fun x m => ?_, ?_⟩
    · obtain ⟨s, ms, rfl⟩ := List.mem_map.mp m
      exact OkSs.ok h s ms
    · show (a ++ (ss.map Sum.inl).flatMap asksE).Nodup
      rw [map_asks]
      exact OkSs.nd h
  | .br ss p c x y, a, h => by
    obtain ⟨h1, hb, _, _, _, hx, hy⟩ := h
    have key : ∀ f : List (Sm ⊕ Str), (∀ x ∈ f, okE ps hd x) ∧ (a ++ asks ss ++ [p] ++ f.flatMap asksE).Nodup → (∀ x ∈ ss.map Sum.inl ++ (Sum.inr p : Sm ⊕ Str) :: f, okE ps hd x) ∧ (a ++ (ss.map Sum.inl ++ (Sum.inr p : Sm ⊕ Str) :: f).flatMap asksE).Nodup := fun f ⟨f1, f2⟩ => by
      refine ⟨fun x m => ?_, ?_⟩
      · rcases List.mem_append.mp m with m | m
        · obtain ⟨s, ms, rfl⟩ := List.mem_map.mp m
          exact h1.ok s ms
        · rcases List.mem_cons.mp m with rfl | m
          · exact hb
          · exact f1 x m
      · rw [List.flatMap_append, List.flatMap_cons, map_asks]
        show (a ++ (asks ss ++ ([p] ++ f.flatMap asksE))).Nodup
        rw [← List.append_assoc, ← List.append_assoc]
        exact f2
    show (∀ z ∈ ss.map Sum.inl ++ (Sum.inr p : Sm ⊕ Str) :: (if v p < c then flatE v x else flatE v y), _) ∧ (a ++ (ss.map Sum.inl ++ (Sum.inr p : Sm ⊕ Str) :: (if v p < c then flatE v x else flatE v y)).flatMap asksE).Nodup
    split
    · exact key _ (flatE_ok hx)
    · exact key _ (flatE_ok hy)
theorem slot_of {ps : List MR.Part} {zs : List Str} (hn : MY.Neat ps) (h : MY.SpecOk ps zs) {z : Str} (m : z ∈ zs) : ∃ pt ∈ ps, pt.nm = MY.rmp z ∧ (z = pt.nm ∨ pt.inn ≠ MR.byteS) := by
  obtain ⟨xs, h1, h2, rfl⟩ := h
  obtain ⟨x, mx, rfl⟩ := List.mem_map.mp m
  have mp := h1.mem_iff.mp (List.mem_map_of_mem (f := fun x : MR.Part × Bool => x.1) mx)
  refine ⟨x.1, mp, (MY.rmp_slot (hn.name x.1 mp).1).symm, ?_⟩
  cases hb : x.2 with
  | true => exact .inr (h2 x mx hb)
  | false => exact .inl rfl
section
variable {rows : List MR.Row} {sp : Str → List Str} (hL : TR.Lay rows sp) {r : MR.Row} (mr : r ∈ rows) {n : Nat} {z : Str} {ds : List D}
include hL mr
theorem nd_names : ∀ p, p ∈ (ndOf rows sp n z r ds).names ↔ p ∈ r.parts.map (·.nm) := fun p => (hL.names mr).mem_iff
theorem nd_good : Good (ndOf rows sp n z r ds) where
  nd := (hL.names mr).nodup_iff.mpr (hL.neat r mr).nd
  opn := fun z h => by
    have h : (decide (z = MY.rmp z) && _) = true := h
    rw [Bool.and_eq_true] at h
    exact of_decide_eq_true h.1
  few := by
    show (sp r.maker).length ≤ 4
    rw [(hL.spec r mr).len]
    exact (hL.neat r mr).len
theorem nd_part {pt : MR.Part} (mp : pt ∈ r.parts) : pt.nm ∈ (ndOf rows sp n z r ds).names ∧ (pt.inn = MR.byteS → slotAt (ndOf rows sp n z r ds) (goal (ndOf rows sp n z r ds) pt.nm) = pt.nm ∧ (ndOf rows sp n z r ds).opn pt.nm = false) ∧ (pt.inn ≠ MR.byteS → slotAt (ndOf rows sp n z r ds) (goal (ndOf rows sp n z r ds) pt.nm) = pt.nm → (ndOf rows sp n z r ds).opn pt.nm = true) := by
  have hin : pt.nm ∈ (ndOf rows sp n z r ds).names := (nd_names hL mr pt.nm).mpr (List.mem_map_of_mem mp)
  obtain ⟨e1, m1⟩ := slot_goal hin
  have hn := hL.neat r mr
  have hi := MY.inn_of hn.nd mp
  refine ⟨hin, fun hb => ?_, fun hb hs => ?_⟩
  · obtain ⟨q, mq, eq, h⟩ := slot_of hn (hL.spec r mr) m1
    rw [e1] at eq
    have : q = pt := part_eq hn.nd mq mp eq
    subst this
    refine ⟨h.resolve_right fun x => x hb, ?_⟩
    show (decide _ && !(MY.innOf r.parts q.nm == MR.byteS)) = false
    rw [hi, hb, beq_self_eq_true, Bool.not_true, Bool.and_false]
  · show (decide _ && !(MY.innOf r.parts pt.nm == MR.byteS)) = true
    rw [hs] at e1
    rw [hi, beq_eq_false_iff_ne.mpr hb, decide_eq_true e1.symm]
    rfl
theorem wd_pack {T : Str → D → Prop} (hv : TR.Vals T r.parts ds) (hT : ∀ k d, T k d → TR.intB d = false) {y : Str} (my : y ∈ sp r.maker) : (TR.slotT (TR.packT rows sp n) y (TR.valOf r.parts ds (MY.rmp y))).length = (ndOf rows sp n z r ds).wd y := by
  have hn := hL.neat r mr
  obtain ⟨pt, mp, ep, h⟩ := slot_of hn (hL.spec r mr) my
  have hi := MY.inn_of hn.nd mp
  unfold Nd.wd
  show _ = if opnOf r y = true then (TR.packT rows sp n (TR.valOf r.parts ds y)).length else if y = MY.rmp y then 1 else 2 + (TR.packT rows sp n (TR.valOf r.parts ds (MY.rmp y))).length
  rw [← ep]
  rcases hv.of hn.nd mp with ⟨hb, b, _, ev⟩ | ⟨hb, ht⟩
  · have hy : y = pt.nm := h.resolve_right fun x => x hb
    have ho : opnOf r y = false := by
      unfold opnOf
      rw [hy, hi, hb, beq_self_eq_true, Bool.not_true, Bool.and_false]
    rw [ev, if_neg (by rw [ho]; decide), if_pos hy]
    rfl
  · rw [TR.slotT_ne (hT _ _ ht)]
    by_cases hy : y = pt.nm
    · have ho : opnOf r y = true := by
        unfold opnOf
        rw [hy, hi, beq_eq_false_iff_ne.mpr hb, decide_eq_true (by rw [← hy]; exact hy.trans ep)]
        rfl
      rw [if_pos ho, if_pos (hy.trans ep), hy]
    · have ho : ¬ opnOf r y = true := fun q => by
        unfold opnOf at q
        rw [Bool.and_eq_true] at q
        exact hy ((of_decide_eq_true q.1).trans ep.symm)
      rw [if_neg ho, if_neg hy, if_neg (fun q => hy (q.trans ep.symm))]
      rw [List.length_cons, List.length_cons]
      omega
end
theorem off_all (c : Nd) : off c c.slots.length = (c.slots.map c.wd).sum := by
  unfold off
  rw [List.take_length]
/-- what a run in a node is about -/
structure NodeCtx (rows : List MR.Row) (sp : Str → List Str) (gs : List Fn) (n : Nat) (z : Str) (f : Fn) (r : MR.Row) (ds : List D) (b : Bd) : Prop where
  hL : TR.Lay rows sp
  hT : Table rows gs
  hf : findF gs z = some f
  mr : r ∈ rows
  hk : r.kind = f.kind
  hr : TR.findR rows r.maker = some r
  hv : TR.Vals (fun k d => TR.fitB rows n d k = true) r.parts ds
  hb : f.bodies.lookup r.maker = some b
  hw : Wf r.parts (sigs gs) [] b
  hz : Sz 3 b
/-- what is known of a call -/
def CallOk (rows : List MR.Row) (sp : Str → List Str) (gs : List Fn) (n : Nat) : Prop := ∀ (z : Str) (f : Fn) (d : D) (p : Nat), findF gs z = some f → TR.fitB rows n d f.kind = true →
  (callM rows sp gs n z d p).prints <+: (runT rows gs n z d).2 ∧ (callM rows sp gs n z d p).log.length ≤ 27 * TR.szT n d ∧
  ∀ a, (callM rows sp gs n z d p).out = .ok a → a.1 = (runT rows gs n z d).1 ∧ (callM rows sp gs n z d p).prints = (runT rows gs n z d).2 ∧ (a.2 = true → (callM rows sp gs n z d p).at_ = p + (TR.packT rows sp n d).length)
section
variable {rows : List MR.Row} {sp : Str → List Str} {gs : List Fn} {n : Nat} {z : Str} {f : Fn} {r : MR.Row} {ds : List D} {b : Bd}
theorem NodeCtx.step (X : NodeCtx rows sp gs n z f r ds b) (ih : CallOk rows sp gs n) {x : Sm ⊕ Str} (hx : okE r.parts (sigs gs) x) : StepOk (ndOf rows sp n z r ds) (TR.valOf r.parts ds) (callM rows sp gs n) x ∧ ValOk (TR.valOf r.parts ds) (callM rows sp gs n) (runS rows gs n (TR.valOf r.parts ds)) x ∧ CostOk (ndOf rows sp n z r ds) (TR.valOf r.parts ds) (callM rows sp gs n) (fun p => 11 + 27 * TR.szT n (TR.valOf r.parts ds p)) x := by
  have hnt := X.hL.neat r X.mr
  have byte : ∀ p, (∃ q ∈ r.parts, q.nm = p ∧ q.inn = MR.byteS) → (p ∈ (ndOf rows sp n z r ds).names ∧ slotAt (ndOf rows sp n z r ds) (goal (ndOf rows sp n z r ds) p) = p ∧ (ndOf rows sp n z r ds).opn p = false) ∧ ∃ c : Nat, TR.valOf r.parts ds p = .int (c : Nat) := fun p ⟨q, mq, eq, hb⟩ => by
    subst eq
    obtain ⟨h1, h2, _⟩ := nd_part (n := n) (z := z) (ds := ds) X.hL X.mr mq
    refine ⟨⟨h1, h2 hb⟩, ?_⟩
    rcases X.hv.of hnt.nd mq with ⟨_, c, _, ev⟩ | ⟨h, _⟩
    · exact ⟨c, ev⟩
    · exact absurd hb h
  rcases x with (p | ⟨g, p⟩ | i) | p
  · obtain ⟨h1, c, ev⟩ := byte p hx
    refine ⟨h1, ?_, h1.1, Nat.le_add_right _ _⟩
    show (valI (TR.valOf r.parts ds p), [valI (TR.valOf r.parts ds p)]) = _
    unfold natI
    rw [ev]
    rfl
  · obtain ⟨q, mq, rfl, hb, hs⟩ := hx
    obtain ⟨h1, _, h3⟩ := nd_part (n := n) (z := z) (ds := ds) X.hL X.mr mq
    obtain ⟨f2, _, _, hk2, hf2⟩ := sigs_mem hs X.hT.nd
    rcases X.hv.of hnt.nd mq with ⟨h, _⟩ | ⟨_, ht⟩
    · exact absurd h hb
    rw [← hk2] at ht
    refine ⟨⟨h1, fun e => ?_, h3 hb, fun q' a ho => ((ih g f2 _ q' hf2 ht).2.2 _ ho).2.2 rfl⟩, fun q' => ⟨(ih g f2 _ q' hf2 ht).1, fun a ho => ⟨((ih g f2 _ q' hf2 ht).2.2 a ho).1, ((ih g f2 _ q' hf2 ht).2.2 a ho).2.1⟩⟩, h1, Nat.le_add_right _ _, fun q' => ?_⟩
    · have := (hnt.name q mq).1
      rw [e] at this
      exact absurd this (by decide)
    · have := (ih g f2 _ q' hf2 ht).2.1
      show _ ≤ 11 + 27 * TR.szT n (TR.valOf r.parts ds q.nm)
      omega
  · exact ⟨trivial, rfl, trivial⟩
  · obtain ⟨h1, _, _⟩ := byte p hx
    exact ⟨h1, trivial, h1.1, Nat.le_add_right _ _⟩
theorem NodeCtx.ok (X : NodeCtx rows sp gs n z f r ds b) (ih : CallOk rows sp gs n) (p : Nat) : (callM rows sp gs (n + 1) z (.tup (.str r.maker :: ds)) p).prints <+: (runT rows gs (n + 1) z (.tup (.str r.maker :: ds))).2 ∧ (callM rows sp gs (n + 1) z (.tup (.str r.maker :: ds)) p).log.length ≤ 27 * TR.szT (n + 1) (.tup (.str r.maker :: ds)) ∧
    ∀ a, (callM rows sp gs (n + 1) z (.tup (.str r.maker :: ds)) p).out = .ok a → a.1 = (runT rows gs (n + 1) z (.tup (.str r.maker :: ds))).1 ∧ (callM rows sp gs (n + 1) z (.tup (.str r.maker :: ds)) p).prints = (runT rows gs (n + 1) z (.tup (.str r.maker :: ds))).2 ∧ (a.2 = true → (callM rows sp gs (n + 1) z (.tup (.str r.maker :: ds)) p).at_ = p + (TR.packT rows sp (n + 1) (.tup (.str r.maker :: ds))).length) := by
  have hnt := X.hL.neat r X.mr
  rw [call_mk X.hf X.hr X.hb, run_mk X.hf X.hr X.hb, TR.pack_mk X.hr]
  generalize hv : (fun q => valI (TR.valOf r.parts ds q)) = v
  obtain ⟨e1, e2⟩ := flatE_ok (v := v) X.hw
  have hst := fun x (mx : x ∈ flatE v b) => X.step ih (e1 x mx)
  have hgd := nd_good (n := n) (z := z) (ds := ds) X.hL X.mr
  have w1 := runL_val (c := ndOf rows sp n z r ds) (R := runS rows gs n (TR.valOf r.parts ds)) (flatE v b) ⟨⟨p + 1, 0, "", [.tag p (ndOf rows sp n z r ds).mkr]⟩, [], []⟩ fun x mx => (hst x mx).2.1
  have w2 := runL_cost hgd.few (flatE v b) ⟨⟨p + 1, 0, "", [.tag p (ndOf rows sp n z r ds).mkr]⟩, [], []⟩ fun x mx => (hst x mx).2.2
  have w3 := fun t => runL_pos hgd (p0 := p) (flatE v b) (s := ⟨⟨p + 1, 0, "", [.tag p (ndOf rows sp n z r ds).mkr]⟩, [], []⟩) (t := t) (fun x mx => (hst x mx).1) ⟨Nat.zero_le _, fun _ => rfl⟩
  have hcost : (((flatE v b).flatMap asksE).map fun p => 11 + 27 * TR.szT n (TR.valOf r.parts ds p)).sum ≤ 44 + 27 * (ds.map fun d => TR.szT n d).sum := by
    have a3 := sum_sub (f := fun p => 11 + 27 * TR.szT n (TR.valOf r.parts ds p)) (l := (flatE v b).flatMap asksE) (m := r.parts.map (·.nm)) (by simpa using e2) fun q mq => by
      obtain ⟨x, mx, mq⟩ := List.mem_flatMap.mp mq
      exact (nd_names (n := n) (z := z) (ds := ds) X.hL X.mr q).mp ((hst x mx).1.asks q mq)
    have a4 : ((r.parts.map (·.nm)).map fun p => 11 + 27 * TR.szT n (TR.valOf r.parts ds p)).sum = (ds.map fun d => 11 + 27 * TR.szT n d).sum := by
      have h4 := congrArg (List.map fun d => 11 + 27 * TR.szT n d) (TR.vals_map hnt.nd X.hv.1)
      rw [← h4]
      simp only [List.map_map]
      rfl
    have a5 : ∀ l : List D, (l.map fun d => 11 + 27 * TR.szT n d).sum = 11 * l.length + 27 * (l.map fun d => TR.szT n d).sum := by
      intro l
      induction l with
      | nil => rfl
      | cons x t ih2 => rw [List.map_cons, List.map_cons, List.sum_cons, List.sum_cons, List.length_cons, ih2]; omega
    have := a5 ds
    have := hnt.len
    have := X.hv.1
    omega
  have hsz : 27 * (ds.map fun d => TR.szT n d).sum + 54 ≤ 27 * TR.szT (n + 1) (.tup (.str r.maker :: ds)) := by
    rw [TR.sz_node]
    have a5 : ∀ l : List D, (l.map fun d => TR.szT n d).sum ≤ (l.map fun d => 2 + TR.szT n d).sum := by
      intro l
      induction l with
      | nil => exact Nat.le_refl _
      | cons x t ih2 => rw [List.map_cons, List.map_cons, List.sum_cons, List.sum_cons]; omega
    have := a5 ds
    omega
  have hpk : (TR.tagOf rows r :: (sp r.maker).flatMap fun y => TR.slotT (TR.packT rows sp n) y (TR.valOf r.parts ds (MY.rmp y))).length = 1 + off (ndOf rows sp n z r ds) (ndOf rows sp n z r ds).slots.length := by
    rw [List.length_cons, TR.flat_len, off_all]
    have : ((sp r.maker).map fun y => (TR.slotT (TR.packT rows sp n) y (TR.valOf r.parts ds (MY.rmp y))).length) = (sp r.maker).map (ndOf rows sp n z r ds).wd := List.map_congr_left fun y my => wd_pack X.hL X.mr X.hv (fun k d h => TR.tree_int h) my
    rw [this]
    show _ = 1 + ((sp r.maker).map _).sum
    omega
  have hsl := hgd.few
  unfold nodeR
  generalize runL (ndOf rows sp n z r ds) (TR.valOf r.parts ds) (callM rows sp gs n) (flatE v b) ⟨⟨p + 1, 0, "", [.tag p (ndOf rows sp n z r ds).mkr]⟩, [], []⟩ = res at w1 w2 w3 ⊢
  have hfl : sumP (runS rows gs n (TR.valOf r.parts ds)) (flatE v b) = ((flat v b).map (runS rows gs n (TR.valOf r.parts ds))).flatMap (·.2) := by
    unfold sumP
    rw [flat_left]
  have hfa : sumA (runS rows gs n (TR.valOf r.parts ds)) (flatE v b) = ((flat v b).map (runS rows gs n (TR.valOf r.parts ds))).map (·.1) := by
    unfold sumA
    rw [flat_left]
  cases res with
  | error e =>
    have w1 : e.2.prints <+: [] ++ sumP _ _ := w1
    have w2 : e.2.cur.log.length ≤ 1 + _ := w2
    rw [List.nil_append, hfl] at w1
    refine ⟨w1, ?_, fun a h => by cases h⟩
    show e.2.cur.log.length ≤ _
    omega
  | ok t =>
    have w2 : t.cur.log.length ≤ 1 + _ := w2
    obtain ⟨w1a, w1b⟩ : t.taken = [] ++ sumA _ _ ∧ t.prints = [] ++ sumP _ _ := w1
    rw [List.nil_append, hfl] at w1b
    rw [List.nil_append, hfa] at w1a
    have hfin := (finish_log (ndOf rows sp n z r ds) t.cur).2
    refine ⟨by show t.prints <+: _; rw [w1b]; exact List.prefix_refl _, ?_, fun a h => ?_⟩
    · show (finish (ndOf rows sp n z r ds) t.cur).log.length ≤ _
      omega
    · cases h
      refine ⟨by show foldI f.fold t.taken = _; rw [w1a], w1b, fun he => ?_⟩
      show (finish (ndOf rows sp n z r ds) t.cur).at_ = _
      rw [finish_at (w3 t rfl) he, hpk]
      omega
theorem ctx_of (hL : TR.Lay rows sp) (hT : Table rows gs) (hf : findF gs z = some f) {d : D} (h : TR.fitB rows (n + 1) d f.kind = true) : ∃ r ds b, d = .tup (.str r.maker :: ds) ∧ NodeCtx rows sp gs n z f r ds b := by
  obtain ⟨n', e, r, mr, ds, rfl, hk, hr, hv⟩ := TR.fit_inv h
  cases e
  obtain ⟨mf, _⟩ := findF_mem hf
  obtain ⟨b, hb, hw, hz⟩ := body_at hT mf mr hk
  exact ⟨r, ds, b, rfl, hL, hT, hf, mr, hk, hr, hv, hb, hw, hz⟩
theorem call_ok (hL : TR.Lay rows sp) (hT : Table rows gs) : ∀ n, CallOk rows sp gs n := by
  intro n
  induction n with
  | zero => intro z f d p _ h; cases h
  | succ n ih =>
    intro z f d p hf h
    obtain ⟨r, ds, b, rfl, X⟩ := ctx_of hL hT hf h
    exact X.ok ih p
end
def gOf (rows : List MR.Row) (sp : Str → List Str) (n : Nat) (r : MR.Row) (ds : List D) (y : Str) : List Nat := TR.slotT (TR.packT rows sp n) y (TR.valOf r.parts ds (MY.rmp y))
theorem drop_off {c : Nd} {g : Str → List Nat} (hg : ∀ y ∈ c.slots, (g y).length = c.wd y) : ∀ (k : Nat) {row w : List Nat} {p : Nat}, k ≤ c.slots.length → row.drop p = c.slots.flatMap g ++ w → row.drop (p + off c k) = (c.slots.drop k).flatMap g ++ w
  | 0, row, w, p, _, h => by
    show row.drop (p + 0) = _
    rw [List.drop_zero]
    exact h
  | k + 1, row, w, p, hk, h => by
    have ih := drop_off hg k (by omega) h
    have hlt : k < c.slots.length := by omega
    have e1 := slotAt_get hlt
    have ed : c.slots.drop k = slotAt c k :: c.slots.drop (k + 1) := by
      rw [List.drop_eq_getElem_cons hlt, (List.getElem?_eq_some_iff.mp e1).2]
    rw [off_succ hlt, ← Nat.add_assoc, ← List.drop_drop, ih, ed, List.flatMap_cons, List.append_assoc, ← hg _ (List.mem_of_getElem? e1), List.drop_left]
section
variable {rows : List MR.Row} {sp : Str → List Str} {gs : List Fn} {n : Nat} {z : Str} {f : Fn} {r : MR.Row} {ds : List D} {b : Bd} {row w : List Nat} {p0 : Nat}
theorem NodeCtx.rest (X : NodeCtx rows sp gs n z f r ds b) (h : row.drop p0 = TR.packT rows sp (n + 1) (.tup (.str r.maker :: ds)) ++ w) {k : Nat} (hk : k < (sp r.maker).length) : ∃ u, row.drop (p0 + 1 + off (ndOf rows sp n z r ds) k) = gOf rows sp n r ds (slotAt (ndOf rows sp n z r ds) k) ++ u := by
  rw [TR.pack_mk X.hr] at h
  have h2 := (TR.drop_cons h).2.1
  have hg : ∀ y ∈ (ndOf rows sp n z r ds).slots, (gOf rows sp n r ds y).length = (ndOf rows sp n z r ds).wd y := fun y my => wd_pack X.hL X.mr X.hv (fun k d h => TR.tree_int h) my
  have h3 := drop_off hg k (Nat.le_of_lt hk) h2
  have e1 := slotAt_get (c := ndOf rows sp n z r ds) hk
  have ed : (ndOf rows sp n z r ds).slots.drop k = slotAt (ndOf rows sp n z r ds) k :: (ndOf rows sp n z r ds).slots.drop (k + 1) := by
    rw [List.drop_eq_getElem_cons (show k < (ndOf rows sp n z r ds).slots.length from hk), (List.getElem?_eq_some_iff.mp e1).2]
  rw [ed, List.flatMap_cons, List.append_assoc] at h3
  exact ⟨_, h3⟩
theorem NodeCtx.tag (X : NodeCtx rows sp gs n z f r ds b) (h : row.drop p0 = TR.packT rows sp (n + 1) (.tup (.str r.maker :: ds)) ++ w) : row[p0]? = some (TR.tagOf rows r) := by
  rw [TR.pack_mk X.hr] at h
  exact (TR.drop_cons h).1
/-- the slot of a byte part -/
theorem NodeCtx.byte (X : NodeCtx rows sp gs n z f r ds b) (h : row.drop p0 = TR.packT rows sp (n + 1) (.tup (.str r.maker :: ds)) ++ w) {pt : MR.Part} (mp : pt ∈ r.parts) (hb : pt.inn = MR.byteS) : row[p0 + 1 + off (ndOf rows sp n z r ds) (goal (ndOf rows sp n z r ds) pt.nm)]? = some (natI (TR.valOf r.parts ds pt.nm)) := by
  obtain ⟨h1, h2, _⟩ := nd_part (n := n) (z := z) (ds := ds) X.hL X.mr mp
  obtain ⟨u, e⟩ := X.rest h (goal_lt h1)
  rw [(h2 hb).1] at e
  have hr := (slot_goal h1).1
  rw [(h2 hb).1] at hr
  unfold gOf at e
  rw [hr] at e
  rcases X.hv.of (X.hL.neat r X.mr).nd mp with ⟨_, c, _, ev⟩ | ⟨hb2, _⟩
  · rw [ev] at e
    have e : row.drop _ = ((c : Int)).toNat :: u := e
    rw [ev]
    exact (TR.drop_cons e).1
  · exact absurd hb hb2
end
end MC
namespace MC
open PySem PySem.Spec PyProof.Rows L2 DL MF MX
theorem step_blk {c : Nd} {val : Str → D} {callee : Str → D → Nat → Res} {x : Sm ⊕ Str} (hx : StepOk c val callee x) {s t : Run} (h : step c val callee x s = .ok t) (hb : s.cur.blk = "" ∨ s.cur.blk ∈ c.names) : t.cur.blk = "" ∨ t.cur.blk ∈ c.names := by
  rcases x with (p | ⟨g, p⟩ | i) | p
  · have w := go_log (s := s.cur) hx.1
    cases e1 : goTo c p s.cur <;> rw [e1] at w <;> simp only [step, e1] at h
    · cases h
    · cases h
      exact .inl w.2.2.2.1
  · have w := go_log (s := s.cur) hx.1
    cases e1 : goTo c p s.cur with
    | error er => simp only [step, e1] at h; cases h
    | ok u =>
      rw [e1] at w
      simp only [step, e1] at h
      have hu : (atCall c p u).blk = "" := by
        unfold atCall
        split
        · exact w.2.2.2.1
        · exact w.2.2.2.1
      cases e2 : (callee g (val p) (atCall c p u).at_).out with
      | error k => rw [e2] at h; cases h
      | ok a =>
        rw [e2] at h
        cases h
        show (callEnd _ _ _ _ _).blk = "" ∨ (callEnd _ _ _ _ _).blk ∈ _
        unfold callEnd
        split
        · exact .inl hu
        · split
          · exact .inr hx.1
          · exact .inl hu
  · cases h
    exact hb
  · have w := go_log (s := s.cur) hx.1
    cases e1 : goTo c p s.cur <;> rw [e1] at w <;> simp only [step, e1] at h
    · cases h
    · cases h
      exact .inl w.2.2.2.1
section
variable {rows : List MR.Row} {sp : Str → List Str} {gs : List Fn} {n : Nat} {z : Str} {f : Fn} {r : MR.Row} {ds : List D} {b : Bd}
theorem NodeCtx.cost (X : NodeCtx rows sp gs n z f r ds b) : (((flatE (fun q => valI (TR.valOf r.parts ds q)) b).flatMap asksE).map fun p => 11 + 27 * TR.szT n (TR.valOf r.parts ds p)).sum + 10 ≤ 27 * TR.szT (n + 1) (.tup (.str r.maker :: ds)) := by
  have hnt := X.hL.neat r X.mr
  generalize hv : (fun q => valI (TR.valOf r.parts ds q)) = v
  obtain ⟨e1, e2⟩ := flatE_ok (v := v) X.hw
  have hst := fun x (mx : x ∈ flatE v b) => X.step (call_ok X.hL X.hT n) (e1 x mx)
  have a3 := sum_sub (f := fun p => 11 + 27 * TR.szT n (TR.valOf r.parts ds p)) (l := (flatE v b).flatMap asksE) (m := r.parts.map (·.nm)) (by simpa using e2) fun q mq => by
    obtain ⟨x, mx, mq⟩ := List.mem_flatMap.mp mq
    exact (nd_names (n := n) (z := z) (ds := ds) X.hL X.mr q).mp ((hst x mx).1.asks q mq)
  have a4 : ((r.parts.map (·.nm)).map fun p => 11 + 27 * TR.szT n (TR.valOf r.parts ds p)).sum = (ds.map fun d => 11 + 27 * TR.szT n d).sum := by
    have h4 := congrArg (List.map fun d => 11 + 27 * TR.szT n d) (TR.vals_map hnt.nd X.hv.1)
    rw [← h4]
    simp only [List.map_map]
    rfl
  have a5 : ∀ l : List D, (l.map fun d => 11 + 27 * TR.szT n d).sum = 11 * l.length + 27 * (l.map fun d => TR.szT n d).sum := by
    intro l
    induction l with
    | nil => rfl
    | cons x t ih2 => rw [List.map_cons, List.map_cons, List.sum_cons, List.sum_cons, List.length_cons, ih2]; omega
  have a6 := a5 ds
  have := hnt.len
  have := X.hv.1
  rw [TR.sz_node]
  have a7 : ∀ l : List D, (l.map fun d => 2 + TR.szT n d).sum = 2 * l.length + (l.map fun d => TR.szT n d).sum := by
    intro l
    induction l with
    | nil => rfl
    | cons x t ih2 => rw [List.map_cons, List.map_cons, List.sum_cons, List.sum_cons, List.length_cons, ih2]; omega
  have a8 := a7 ds
  omega
/-- what holds ahead of the steps es -/
structure Inv (rows : List MR.Row) (sp : Str → List Str) (gs : List Fn) (n : Nat) (z : Str) (r : MR.Row) (ds : List D) (p0 nl np : Nat) (es : List (Sm ⊕ Str)) (s : Run) : Prop where
  ok : ∀ x ∈ es, okE r.parts (sigs gs) x
  pos : Pos (ndOf rows sp n z r ds) p0 s.cur
  blk : s.cur.blk = "" ∨ s.cur.blk ∈ (ndOf rows sp n z r ds).names
  log : s.cur.log.length + ((es.flatMap asksE).map fun p => 11 + 27 * TR.szT n (TR.valOf r.parts ds p)).sum ≤ nl
  prt : s.prints.length + (sumP (runS rows gs n (TR.valOf r.parts ds)) es).length ≤ np
  tkn : s.taken.length + (leftS es).length ≤ 36
theorem Inv.next (X : NodeCtx rows sp gs n z f r ds b) {p0 nl np : Nat} {x : Sm ⊕ Str} {es : List (Sm ⊕ Str)} {s t : Run} (h : Inv rows sp gs n z r ds p0 nl np (x :: es) s) (e : step (ndOf rows sp n z r ds) (TR.valOf r.parts ds) (callM rows sp gs n) x s = .ok t) : Inv rows sp gs n z r ds p0 nl np es t := by
  have hx := X.step (call_ok X.hL X.hT n) (h.ok x List.mem_cons_self)
  have hgd := nd_good (n := n) (z := z) (ds := ds) X.hL X.mr
  have w1 := step_val (c := ndOf rows sp n z r ds) (s := s) hx.2.1
  have w2 := step_cost hgd.few (s := s) hx.2.2
  have w3 := step_pos hgd hx.1 h.pos e
  have w4 := step_blk hx.1 e h.blk
  rw [e] at w1 w2
  obtain ⟨w1, w1b⟩ : t.taken = _ ∧ t.prints = _ := w1
  have w2 : t.cur.log.length ≤ _ := w2
  have h1 := h.log
  have h2 := h.prt
  have h3 := h.tkn
  rw [List.flatMap_cons, List.map_append, List.sum_append] at h1
  rw [sumP_cons, List.length_append] at h2
  rw [show x :: es = [x] ++ es from rfl, left_app, List.length_append] at h3
  refine ⟨fun y m => h.ok y (List.mem_cons_of_mem _ m), w3, w4, by omega, ?_, ?_⟩
  · rw [w1b, List.length_append]
    omega
  · rw [w1, List.length_append]
    unfold sumA
    rw [List.length_map, List.length_map]
    omega
theorem Inv.init (X : NodeCtx rows sp gs n z f r ds b) (p : Nat) : Inv rows sp gs n z r ds p (27 * TR.szT (n + 1) (.tup (.str r.maker :: ds))) (runT rows gs (n + 1) z (.tup (.str r.maker :: ds))).2.length (flatE (fun q => valI (TR.valOf r.parts ds q)) b) ⟨⟨p + 1, 0, "", [.tag p r.maker]⟩, [], []⟩ := by
  have hc := X.cost
  generalize hv : (fun q => valI (TR.valOf r.parts ds q)) = v at hc ⊢
  obtain ⟨e1, e2⟩ := flatE_ok (v := v) X.hw
  refine ⟨e1, ⟨Nat.zero_le _, fun _ => rfl⟩, .inl rfl, ?_, ?_, ?_⟩
  · show 1 + _ ≤ _
    omega
  · rw [run_mk X.hf X.hr X.hb, hv]
    show 0 + _ ≤ (((flat v b).map (runS rows gs n (TR.valOf r.parts ds))).flatMap (·.2)).length
    unfold sumP
    rw [flat_left]
    omega
  · rw [flat_left]
    have := (flat_ok (v := v) X.hw X.hz).2.2
    show 0 + _ ≤ _
    omega
/-- what was taken is not negative -/
theorem NodeCtx.pos (X : NodeCtx rows sp gs n z f r ds b) {s t : Run} (hs : s.taken = []) (h : runL (ndOf rows sp n z r ds) (TR.valOf r.parts ds) (callM rows sp gs n) (flatE (fun q => valI (TR.valOf r.parts ds q)) b) s = .ok t) : ∀ i ∈ t.taken, 0 ≤ i := by
  have w := runL_val (c := ndOf rows sp n z r ds) (val := TR.valOf r.parts ds) (callee := callM rows sp gs n) (R := runS rows gs n (TR.valOf r.parts ds)) (flatE (fun q => valI (TR.valOf r.parts ds q)) b) s fun x mx => (X.step (call_ok X.hL X.hT n) ((flatE_ok X.hw).1 x mx)).2.1
  rw [h] at w
  obtain ⟨w, _⟩ : t.taken = s.taken ++ _ ∧ _ := w
  rw [w, hs, List.nil_append]
  intro i mi
  unfold sumA at mi
  rw [flat_left] at mi
  obtain ⟨y, my, rfl⟩ := List.mem_map.mp mi
  obtain ⟨q, mq, rfl⟩ := List.mem_map.mp my
  exact (step_ok X.hT X.hL.neat X.hf X.hr X.hv X.hb mq X.hk).1
end
end MC
namespace MC
open PySem PySem.Spec PyProof.Rows L2 DL MF MX
section
variable {rows : List MR.Row} {sp : Str → List Str} {gs : List Fn}
/-- what a call in a node's body is -/
theorem NodeCtx.call {n : Nat} {z : Str} {f : Fn} {r : MR.Row} {ds : List D} {b : Bd} (X : NodeCtx rows sp gs n z f r ds b) {v : Str → Int} {g pn : Str} (m : Sum.inl (Sm.call g pn) ∈ flatE v b) : g ≠ "" ∧ ∃ f2, findF gs g = some f2 ∧ TR.fitB rows n (TR.valOf r.parts ds pn) f2.kind = true := by
  obtain ⟨qq, mqq, rfl, hb, hs⟩ : ∃ q ∈ r.parts, q.nm = pn ∧ q.inn ≠ MR.byteS ∧ (g, q.inn) ∈ sigs gs := (flatE_ok (v := v) X.hw).1 _ m
  obtain ⟨f2, mf2, en2, hk2, hf2⟩ := sigs_mem hs X.hT.nd
  refine ⟨fun e => ?_, f2, hf2, ?_⟩
  · have := (X.hT.name f2 mf2).1
    rw [en2, e] at this
    exact absurd this (by decide)
  · rcases X.hv.of (X.hL.neat r X.mr).nd mqq with ⟨h, _⟩ | ⟨_, ht⟩
    · exact absurd h hb
    · rw [hk2]
      exact ht
end
end MC
namespace SE
open PySem PySem.Spec PyProof.Rows L2 DL
def Byt (ns : List Nat) : Prop := ∀ b ∈ ns, b < 256
def val : List Nat → Nat
  | [] => 0
  | x :: r => x * 256 ^ r.length + val r
def rk (ns : List Nat) : Nat := 256 ^ ns.length + val ns
theorem val_lt : ∀ {ns : List Nat}, Byt ns → val ns < 256 ^ ns.length
  | [], _ => by decide
  | x :: r, h => by
    have h1 := val_lt (ns := r) fun b m => h b (List.mem_cons_of_mem _ m)
    have h2 := h x List.mem_cons_self
    have h3 : x * 256 ^ r.length ≤ 255 * 256 ^ r.length := Nat.mul_le_mul_right _ (by omega)
    show x * 256 ^ r.length + val r < 256 ^ (r.length + 1)
    rw [Nat.pow_succ]
    omega
theorem rk_short {a b : List Nat} (h : Byt a) (l : a.length < b.length) : rk a < rk b := by
  have h1 := val_lt h
  have h2 : 256 ^ (a.length + 1) ≤ 256 ^ b.length := Nat.pow_le_pow_right (by decide) l
  unfold rk
  rw [Nat.pow_succ] at h2
  omega
theorem lex_val : ∀ {a b : List Nat}, Byt a → Byt b → a.length = b.length → HT.lexLt (a.map fun (n : Nat) => (n : Int)) (b.map fun (n : Nat) => (n : Int)) = decide (val a < val b)
  | [], [], _, _, _ => rfl
  | [], _ :: _, _, _, l => by cases l
  | _ :: _, [], _, _, l => by cases l
  | x :: r, y :: t, ha, hb, l => by
    have l : r.length = t.length := Nat.succ.inj l
    have ha2 : Byt r := fun b m => ha b (List.mem_cons_of_mem _ m)
    have hb2 : Byt t := fun b m => hb b (List.mem_cons_of_mem _ m)
    have ih := lex_val ha2 hb2 l
    have v1 := val_lt ha2
    have v2 := val_lt hb2
    rw [List.map_cons, List.map_cons, HT.lexLt_cons]
    show _ = decide (x * 256 ^ r.length + val r < y * 256 ^ t.length + val t)
    rw [l] at v1 ⊢
    by_cases e : x = y
    · subst e
      rw [if_pos rfl, ih]
      exact decide_eq_decide.mpr ⟨fun h => by omega, fun h => by omega⟩
    · rw [if_neg (by omega)]
      refine decide_eq_decide.mpr ⟨fun h => ?_, fun h => ?_⟩
      · have h3 : (x + 1) * 256 ^ t.length ≤ y * 256 ^ t.length := Nat.mul_le_mul_right _ (by omega)
        rw [Nat.add_mul, Nat.one_mul] at h3
        omega
      · rcases Nat.lt_or_ge y x with q | q
        · have h3 : (y + 1) * 256 ^ t.length ≤ x * 256 ^ t.length := Nat.mul_le_mul_right _ q
          rw [Nat.add_mul, Nat.one_mul] at h3
          omega
        · omega
/-- <= of pairs of a length and a row -/
theorem le_rk {a b : List Nat} (ha : Byt a) (hb : Byt b) : (!(if (b.length : Int) = (a.length : Int) then HT.lexLt (b.map fun (n : Nat) => (n : Int)) (a.map fun (n : Nat) => (n : Int)) else decide ((b.length : Int) < (a.length : Int)))) = decide (rk a ≤ rk b) := by
  by_cases e : (b.length : Int) = (a.length : Int)
  · have e : b.length = a.length := by omega
    rw [if_pos (by rw [e]), lex_val hb ha e]
    have : rk a ≤ rk b ↔ ¬ val b < val a := by
      unfold rk
      rw [e]
      omega
    by_cases q : val b < val a
    · rw [decide_eq_true q, decide_eq_false fun z => this.mp z q]
      rfl
    · rw [decide_eq_false q, decide_eq_true (this.mpr q)]
      rfl
  · rw [if_neg e]
    rcases Nat.lt_or_ge b.length a.length with q | q
    · have := rk_short hb q
      rw [decide_eq_true (by omega), decide_eq_false (by omega)]
      rfl
    · have := rk_short ha (show a.length < b.length by omega)
      rw [decide_eq_false (by omega), decide_eq_true (by omega)]
      rfl
theorem val_app : ∀ (a b : List Nat), val (a ++ b) = val a * 256 ^ b.length + val b
  | [], b => by show val b = 0 * _ + val b; omega
  | x :: r, b => by
    show x * 256 ^ (r ++ b).length + val (r ++ b) = (x * 256 ^ r.length + val r) * 256 ^ b.length + val b
    rw [val_app r b, List.length_append, Nat.pow_add, Nat.add_mul, Nat.mul_assoc, Nat.add_assoc]
/-- not longer; not greater where as long -/
def Leq (a b : List Nat) : Prop := a.length ≤ b.length ∧ (a.length = b.length → val a ≤ val b)
theorem leq_rk {a b : List Nat} (ha : Byt a) : Leq a b → rk a ≤ rk b := fun h => by
  rcases Nat.lt_or_ge a.length b.length with q | q
  · exact Nat.le_of_lt (rk_short ha q)
  · have e : a.length = b.length := by have := h.1; omega
    have := h.2 e
    unfold rk
    rw [e]
    omega
theorem rk_leq {a b : List Nat} (hb : Byt b) (h : rk a ≤ rk b) : Leq a b := by
  have l : a.length ≤ b.length := Nat.le_of_not_lt fun q => by
    have := rk_short hb q
    omega
  refine ⟨l, fun e => ?_⟩
  unfold rk at h
  rw [e] at h
  omega
theorem Leq.refl (a : List Nat) : Leq a a := ⟨Nat.le_refl _, fun _ => Nat.le_refl _⟩
theorem Leq.app {a b c d : List Nat} (h1 : Leq a b) (h2 : Leq c d) : Leq (a ++ c) (b ++ d) := by
  refine ⟨by rw [List.length_append, List.length_append]; exact Nat.add_le_add h1.1 h2.1, fun e => ?_⟩
  rw [List.length_append, List.length_append] at e
  have l1 := h1.1
  have l2 := h2.1
  have e1 : a.length = b.length := by omega
  have e2 : c.length = d.length := by omega
  rw [val_app, val_app, e2]
  exact Nat.add_le_add (Nat.mul_le_mul_right _ (h1.2 e1)) (h2.2 e2)
theorem Leq.flat {α : Type} {f g : α → List Nat} : ∀ {l : List α}, (∀ x ∈ l, Leq (f x) (g x)) → Leq (l.flatMap f) (l.flatMap g)
  | [], _ => Leq.refl _
  | x :: r, h => by
    rw [List.flatMap_cons, List.flatMap_cons]
    exact (h x List.mem_cons_self).app (Leq.flat fun y m => h y (List.mem_cons_of_mem _ m))
def plS (rows : List MR.Row) (m : Str) : List Str := match TR.findR rows m with
  | some r => r.parts.map (·.nm)
  | none => []
theorem pl_of {rows : List MR.Row} (nd : (rows.map (·.maker)).Nodup) {r : MR.Row} (m : r ∈ rows) : plS rows r.maker = r.parts.map (·.nm) := by
  unfold plS
  rw [TR.findR_of nd m]
theorem pl_lay {rows : List MR.Row} {sp : Str → List Str} (h : TR.Lay rows sp) : TR.Lay rows (plS rows) := by
  refine ⟨h.nd, h.len, h.neat, fun r m => ?_⟩
  rw [pl_of h.nd m]
  refine ⟨r.parts.map fun p => (p, false), ?_, fun x mx e => ?_, ?_⟩
  · rw [List.map_map]
    show (r.parts.map id).Perm _
    rw [List.map_id]
  · obtain ⟨p, _, rfl⟩ := List.mem_map.mp mx
    cases e
  · rw [List.map_map]
    rfl
def prow (rows : List MR.Row) (d : D) : List Nat := TR.packT rows (plS rows) 40 d
abbrev rkT (rows : List MR.Row) (d : D) : Nat := rk (prow rows d)
def nodeT (r : MR.Row) (v : MR.Part → D) : D := .tup (.str r.maker :: r.parts.map v)
def prowP (rows : List MR.Row) (v : MR.Part → D) (p : MR.Part) : List Nat := match v p with
  | .int b => [b.toNat]
  | d => prow rows d
theorem valOf_node {r : MR.Row} (nd : (r.parts.map (·.nm)).Nodup) (v : MR.Part → D) {p : MR.Part} (m : p ∈ r.parts) : TR.valOf r.parts (r.parts.map v) p.nm = v p := by
  obtain ⟨i, hi⟩ := List.mem_iff_getElem?.mp m
  exact TR.valOf_at nd hi (by rw [List.getElem?_map, hi]; rfl)
/-- bytes, and trees of n levels -/
def Vok (rows : List MR.Row) (n : Nat) (r : MR.Row) (v : MR.Part → D) : Prop := ∀ p ∈ r.parts, (p.inn = MR.byteS ∧ ∃ b : Nat, b < 256 ∧ v p = .int (b : Nat)) ∨ (p.inn ≠ MR.byteS ∧ TR.fitB rows n (v p) p.inn = true)
theorem Vok.vals {rows : List MR.Row} {n : Nat} {r : MR.Row} {v : MR.Part → D} (h : Vok rows n r v) : TR.Vals (fun k d => TR.fitB rows n d k = true) r.parts (r.parts.map v) := by
  refine ⟨by rw [List.length_map], fun i p d hp hd => ?_⟩
  rw [List.getElem?_map, hp] at hd
  cases hd
  exact h p (List.mem_of_getElem? hp)
theorem Vok.fit {rows : List MR.Row} {n : Nat} {r : MR.Row} {v : MR.Part → D} (nd : (rows.map (·.maker)).Nodup) (m : r ∈ rows) (h : Vok rows n r v) : TR.fitB rows (n + 1) (nodeT r v) r.kind = true := TR.fit_mk (TR.findR_of nd m) h.vals
theorem Vok.mono {rows : List MR.Row} {n m : Nat} {r : MR.Row} {v : MR.Part → D} (h : Vok rows n r v) (l : n ≤ m) : Vok rows m r v := fun p mp => (h p mp).imp id fun z => ⟨z.1, TR.fit_mono z.2 l⟩
/-- a tree that fits is a node -/
theorem fit_node {rows : List MR.Row} {sp : Str → List Str} (hL : TR.Lay rows sp) {n : Nat} {d : D} {k : Str} (h : TR.fitB rows (n + 1) d k = true) : ∃ r ∈ rows, ∃ v, d = nodeT r v ∧ r.kind = k ∧ Vok rows n r v := by
  obtain ⟨m, e, r, mr, ds, rfl, hk, hr, hv⟩ := TR.fit_inv h
  cases e
  have nd := (hL.neat r mr).nd
  refine ⟨r, mr, fun p => TR.valOf r.parts ds p.nm, ?_, hk, fun p mp => hv.of nd mp⟩
  unfold nodeT
  have := TR.vals_map nd hv.1
  rw [List.map_map] at this
  exact congrArg (fun l => D.tup (.str r.maker :: l)) this.symm
theorem prow_node {rows : List MR.Row} {sp : Str → List Str} (hL : TR.Lay rows sp) {r : MR.Row} (m : r ∈ rows) {v : MR.Part → D} (h : Vok rows 39 r v) : prow rows (nodeT r v) = TR.tagOf rows r :: r.parts.flatMap (prowP rows v) := by
  have hP := pl_lay hL
  unfold prow nodeT
  rw [TR.pack_mk (TR.findR_of hL.nd m), pl_of hL.nd m, List.flatMap_map]
  congr 1
  have nd := (hL.neat r m).nd
  rw [List.flatMap_def, List.flatMap_def]
  congr 1
  refine List.map_congr_left fun p mp => ?_
  have e0 : MY.rmp p.nm = p.nm := MY.rmp_slot (b := false) ((hL.neat r m).name p mp).1
  show TR.slotT (TR.packT rows (plS rows) 39) p.nm (TR.valOf r.parts (r.parts.map v) (MY.rmp p.nm)) = _
  rw [e0, valOf_node nd v mp]
  rcases h p mp with ⟨_, b, _, hb⟩ | ⟨_, hf⟩
  · unfold prowP
    rw [hb]
    rfl
  · have hi := TR.tree_int hf
    rw [TR.slotT_ne hi, if_pos e0.symm]
    unfold prowP
    cases hv : v p with
    | int i => rw [hv] at hi; cases hi
    | _ => rw [hv] at hf; exact (TR.pack_stable hP hf (by decide)).symm
theorem prowP_tree {rows : List MR.Row} {n : Nat} {k : Str} {v : MR.Part → D} {p : MR.Part} (h : TR.fitB rows n (v p) k = true) : prowP rows v p = prow rows (v p) := by
  have hi := TR.tree_int h
  unfold prowP
  cases hv : v p with
  | int i => rw [hv] at hi; cases hi
  | _ => rfl
theorem prowP_byte {rows : List MR.Row} {v : MR.Part → D} {p : MR.Part} {b : Nat} (h : v p = .int (b : Nat)) : prowP rows v p = [b] := by
  unfold prowP
  rw [h]
  rfl
theorem tag_lt {rows : List MR.Row} {sp : Str → List Str} (hL : TR.Lay rows sp) {r : MR.Row} (m : r ∈ rows) : TR.tagOf rows r < 10 := by
  have := (List.getElem?_eq_some_iff.mp (TR.tag_get hL.nd m)).1
  have := MI.makers_len r.kind rows
  have := hL.len
  omega
theorem prow_byt {rows : List MR.Row} {sp : Str → List Str} (hL : TR.Lay rows sp) : ∀ {n : Nat} {d : D} {k : Str}, n ≤ 40 → TR.fitB rows n d k = true → Byt (prow rows d)
  | 0, d, k, _, h => by cases h
  | n + 1, d, k, hn, h => by
    obtain ⟨r, mr, v, rfl, hk, hv⟩ := fit_node hL h
    rw [prow_node hL mr (hv.mono (by omega))]
    intro b mb
    rcases List.mem_cons.mp mb with rfl | mb
    · have := tag_lt hL mr
      omega
    · obtain ⟨p, mp, hb⟩ := List.mem_flatMap.mp mb
      rcases hv p mp with ⟨_, c, hc, e⟩ | ⟨_, hf⟩
      · rw [prowP_byte e] at hb
        rw [List.mem_singleton.mp hb]
        exact hc
      · rw [prowP_tree hf] at hb
        exact prow_byt hL (by omega) hf b hb
theorem sz_prow {rows : List MR.Row} {sp : Str → List Str} (hL : TR.Lay rows sp) : ∀ {n : Nat} {d : D} {k : Str}, n ≤ 40 → TR.fitB rows n d k = true → TR.szT n d + 2 ≤ 4 * (prow rows d).length
  | 0, d, k, _, h => by cases h
  | n + 1, d, k, hn, h => by
    obtain ⟨r, mr, v, rfl, hk, hv⟩ := fit_node hL h
    rw [prow_node hL mr (hv.mono (by omega))]
    unfold nodeT
    rw [TR.sz_node, List.length_cons, TR.flat_len, List.map_map]
    have key : ∀ l : List MR.Part, (∀ p ∈ l, p ∈ r.parts) → (l.map ((fun d => 2 + TR.szT n d) ∘ v)).sum ≤ 4 * (l.map fun p => (prowP rows v p).length).sum := fun l => by
      induction l with
      | nil => intro _; exact Nat.le_refl _
      | cons p t ih =>
        intro hl
        have := ih fun q m => hl q (List.mem_cons_of_mem _ m)
        rw [List.map_cons, List.map_cons, List.sum_cons, List.sum_cons]
        have hp : 2 + TR.szT n (v p) ≤ 4 * (prowP rows v p).length := by
          rcases hv p (hl p List.mem_cons_self) with ⟨_, c, hc, e⟩ | ⟨_, hf⟩
          · rw [prowP_byte e, e]
            have : TR.szT n (.int (c : Nat)) = 0 := by cases n <;> rfl
            rw [this]
            show 2 + 0 ≤ 4 * 1
            omega
          · rw [prowP_tree hf]
            have := sz_prow hL (by omega) hf
            omega
        show 2 + TR.szT n (v p) + _ ≤ _
        omega
    have := key r.parts fun _ m => m
    omega
/-- parts that are not greater make a node that is not greater -/
theorem node_leq {rows : List MR.Row} {sp : Str → List Str} (hL : TR.Lay rows sp) {r : MR.Row} (m : r ∈ rows) {v u : MR.Part → D} (hv : Vok rows 39 r v) (hu : Vok rows 39 r u) (h : ∀ p ∈ r.parts, Leq (prowP rows v p) (prowP rows u p)) : rkT rows (nodeT r v) ≤ rkT rows (nodeT r u) := by
  have hb := prow_byt hL (Nat.le_refl 40) (hv.fit hL.nd m)
  refine leq_rk hb ?_
  rw [prow_node hL m hv, prow_node hL m hu]
  exact (Leq.refl [TR.tagOf rows r]).app (Leq.flat h)
end SE
namespace SE
open PySem PySem.Spec PyProof.Rows L2 DL
abbrev toI (ns : List Nat) : List Int := ns.map fun (n : Nat) => (n : Int)
theorem toI_app (a b : List Nat) : toI (a ++ b) = toI a ++ toI b := List.map_append
theorem toI_flat {α : Type} {f : α → List Nat} : ∀ (l : List α), toI (l.flatMap f) = l.flatMap fun x => toI (f x)
  | [] => rfl
  | x :: r => by rw [List.flatMap_cons, List.flatMap_cons, toI_app, toI_flat]
theorem flat_cg {α β : Type} {f g : α → List β} {l : List α} (h : ∀ x ∈ l, f x = g x) : l.flatMap f = l.flatMap g := by
  rw [List.flatMap_def, List.flatMap_def, List.map_congr_left h]
theorem kinds_row {rows : List MR.Row} {k : Str} (m : k ∈ MI.kindsOf rows) : ∃ r ∈ rows, r.kind = k := by
  obtain ⟨r, mr, e⟩ := List.mem_map.mp ((MI.dist_mem _).mp m)
  exact ⟨r, mr, e⟩
theorem kinds_mem {rows : List MR.Row} {r : MR.Row} (m : r ∈ rows) : r.kind ∈ MI.kindsOf rows := (MI.dist_mem _).mpr (List.mem_map_of_mem m)
structure LstOk (rows : List MR.Row) (lst : Str → D) : Prop where
  fit : ∀ k ∈ MI.kindsOf rows, TR.fitB rows 3 (lst k) k = true
  len : ∀ k ∈ MI.kindsOf rows, (prow rows (lst k)).length ≤ 85
  min : ∀ (n : Nat) (d : D) (k : Str), k ∈ MI.kindsOf rows → n ≤ 40 → TR.fitB rows n d k = true → Leq (prow rows (lst k)) (prow rows d)
def lstF (sds : List (Key × D)) (k : Str) : D := (valD sds (.inr k)).getD .non
theorem ents_ix : ∀ (pre rs : List MR.Row) (i : Nat), (MI.entsFrom pre rs)[i]? = rs[i]?.map fun r => (Sum.inr r.maker, MT.dEnt r.kind (MI.makersOf r.kind (pre ++ rs.take i)).length r.parts)
  | _, [], i => by rfl
  | pre, r :: t, 0 => by
    show some _ = some _
    rw [List.take_zero, List.append_nil]
  | pre, r :: t, i + 1 => by
    show (MI.entsFrom (pre ++ [r]) t)[i]? = t[i]?.map _
    rw [ents_ix (pre ++ [r]) t i]
    congr 1
    funext x
    rw [List.take_succ_cons, List.append_assoc]
    rfl
theorem ent_row {rows : List MR.Row} {es : List ML.Ent} (nd : (rows.map (·.maker)).Nodup) (h : es.map ML.entD = MI.entsFrom [] rows) : (∀ e ∈ es, ∃ r ∈ rows, e = ⟨r.maker, r.kind, TR.tagOf rows r, r.parts⟩) ∧ ∀ r ∈ rows, (⟨r.maker, r.kind, TR.tagOf rows r, r.parts⟩ : ML.Ent) ∈ es := by
  have key : ∀ i : Nat, es[i]? = rows[i]?.map fun r => ⟨r.maker, r.kind, TR.tagOf rows r, r.parts⟩ := fun i => by
    have e := congrArg (fun l => l[i]?) h
    simp only [List.getElem?_map, ents_ix] at e
    cases hr : rows[i]? with
    | none =>
      rw [hr] at e
      cases he : es[i]? with
      | none => rfl
      | some x => rw [he] at e; cases e
    | some r =>
      rw [hr] at e
      cases he : es[i]? with
      | none => rw [he] at e; cases e
      | some x =>
        rw [he] at e
        obtain ⟨mk, kd, tg, ps⟩ := x
        have e := Option.some.inj e
        have e1 : (Sum.inr mk : Key) = .inr r.maker := congrArg Prod.fst e
        have e2 : MT.dEnt kd tg ps = MT.dEnt r.kind (MI.makersOf r.kind ([] ++ rows.take i)).length r.parts := congrArg Prod.snd e
        obtain ⟨rfl, rfl, rfl⟩ := MI.dEnt_inj e2
        cases e1
        rw [List.nil_append, TR.tag_at nd hr]
        rfl
  refine ⟨fun e m => ?_, fun r m => ?_⟩
  · obtain ⟨i, hi⟩ := List.mem_iff_getElem?.mp m
    rw [key] at hi
    obtain ⟨r, hr, er⟩ := Option.map_eq_some_iff.mp hi
    exact ⟨r, List.mem_of_getElem? hr, er.symm⟩
  · obtain ⟨i, hi⟩ := List.mem_iff_getElem?.mp m
    exact List.mem_of_getElem? (by rw [key, hi]; rfl)
theorem lt_fit {rows : List MR.Row} {sp : Str → List Str} (hL : TR.Lay rows sp) {es : List ML.Ent} (h : es.map ML.entD = MI.entsFrom [] rows) : ∀ (n : Nat) (k : Str) (d : D) (ns : List Int), n ≤ 40 → ML.LT es n k d ns → TR.fitB rows n d k = true ∧ toI (prow rows d) = ns
  | 0, _, _, _, _, h => h.elim
  | n + 1, k, d, ns, hn, hlt => by
    obtain ⟨e, me, vd, vr, rfl, rfl, rfl, hp⟩ := hlt
    obtain ⟨r, mr, rfl⟩ := (ent_row hL.nd h).1 e me
    have hp : ∀ p ∈ r.parts, (p.inn = MR.byteS ∧ vd p = .int 0 ∧ vr p = [0]) ∨ (p.inn ≠ MR.byteS ∧ ML.LT es n p.inn (vd p) (vr p)) := hp
    have ih := fun k d ns => lt_fit hL h n k d ns (by omega)
    have hv : Vok rows n r vd := fun p mp => by
      rcases hp p mp with ⟨h1, h2, _⟩ | ⟨h1, h2⟩
      · exact .inl ⟨h1, 0, by decide, h2⟩
      · exact .inr ⟨h1, (ih _ _ _ h2).1⟩
    refine ⟨hv.fit hL.nd mr, ?_⟩
    show toI (prow rows (nodeT r vd)) = _
    rw [prow_node hL mr (hv.mono (by omega))]
    show ((TR.tagOf rows r : Nat) : Int) :: toI (r.parts.flatMap (prowP rows vd)) = ((TR.tagOf rows r : Nat) : Int) :: r.parts.flatMap vr
    congr 1
    rw [toI_flat]
    refine flat_cg fun p mp => ?_
    rcases hp p mp with ⟨h1, h2, h3⟩ | ⟨h1, h2⟩
    · rw [prowP_byte (b := 0) h2, h3]
      rfl
    · obtain ⟨g1, g2⟩ := ih _ _ _ h2
      rw [prowP_tree g1]
      exact g2
theorem lst_ok {rows : List MR.Row} {sp : Str → List Str} {sds : List (Key × D)} (hL : TR.Lay rows sp) (hkin : ∀ r ∈ rows, ∀ p ∈ r.parts, p.inn ≠ MR.byteS → p.inn ∈ MI.kindsOf rows) (h : MI.LeastOk rows sds) : LstOk rows (lstF sds) := by
  obtain ⟨nms, es, g, he, h3, hes, hd, hall⟩ := h
  obtain ⟨ea, eb⟩ := ent_row hL.nd he
  have hk : ∀ k ∈ MI.kindsOf rows, k ∈ nms := fun k m => by
    obtain ⟨r, mr, rfl⟩ : ∃ r ∈ rows, r.kind = k := kinds_row m
    exact (hes _ (eb r mr)).kind
  have look : ∀ k ∈ MI.kindsOf rows, ∃ ns, g k = some ns ∧ TR.fitB rows 3 (lstF sds k) k = true ∧ toI (prow rows (lstF sds k)) = ns := fun k m => by
    obtain ⟨ns, hg⟩ := Option.isSome_iff_exists.mp (hall k (hk k m))
    obtain ⟨d, h1, h2⟩ := hd.fin.tr k ns hg
    have h4 := h2.mono (m := 3) (Nat.le_trans ML.cl_le h3)
    have e : lstF sds k = d := by
      unfold lstF
      rw [h1]
      rfl
    rw [e]
    obtain ⟨g1, g2⟩ := lt_fit hL he 3 k d ns (by decide) h4
    exact ⟨ns, hg, g1, g2⟩
  have len_of : ∀ {d : D} {ns : List Int}, toI (prow rows d) = ns → (prow rows d).length = ns.length := fun {d ns} e => by rw [← e, List.length_map]
  refine ⟨fun k m => ?_, fun k m => ?_, ?_⟩
  · obtain ⟨ns, _, h1, _⟩ := look k m
    exact h1
  · obtain ⟨ns, h0, _, h2⟩ := look k m
    rw [len_of h2]
    exact (hd.dig k ns h0).2
  · intro n
    induction n with
    | zero => intro d k _ _ h; cases h
    | succ n ih =>
      intro d k m hn hf
      obtain ⟨r, mr, v, rfl, rfl, hv⟩ := fit_node hL hf
      obtain ⟨ns, h0, h1, h2⟩ := look _ m
      have hok : ∀ p ∈ r.parts, ML.okP g p = true := fun p mp => by
        unfold ML.okP
        by_cases hb : p.inn = MR.byteS
        · rw [hb]
          rfl
        · rw [hall _ (hk _ (hkin r mr p mp hb)), Bool.or_true]
      obtain ⟨old, ho, hless⟩ := hd.closed _ (eb r mr) hok
      have ho : g r.kind = some old := ho
      rw [h0] at ho
      cases ho
      have hu : Vok rows 3 r fun p => if p.inn = MR.byteS then .int (0 : Nat) else lstF sds p.inn := fun p mp => by
        by_cases hb : p.inn = MR.byteS
        · exact .inl ⟨hb, 0, by decide, if_pos hb⟩
        · obtain ⟨_, _, q, _⟩ := look _ (hkin r mr p mp hb)
          refine .inr ⟨hb, ?_⟩
          show TR.fitB rows 3 (if p.inn = MR.byteS then D.int (0 : Nat) else lstF sds p.inn) p.inn = true
          rw [if_neg hb]
          exact q
      generalize hu0 : (fun p : MR.Part => if p.inn = MR.byteS then D.int (0 : Nat) else lstF sds p.inn) = u at hu
      have hup : ∀ p, u p = if p.inn = MR.byteS then D.int (0 : Nat) else lstF sds p.inn := fun p => by rw [← hu0]
      have em : toI (prow rows (nodeT r u)) = ML.made g ⟨r.maker, r.kind, TR.tagOf rows r, r.parts⟩ := by
        rw [prow_node hL mr (hu.mono (by decide))]
        show ((TR.tagOf rows r : Nat) : Int) :: toI (r.parts.flatMap (prowP rows u)) = ((TR.tagOf rows r : Nat) : Int) :: r.parts.flatMap (ML.rowP g)
        congr 1
        rw [toI_flat]
        refine flat_cg fun p mp => ?_
        unfold ML.rowP
        by_cases hb : p.inn = MR.byteS
        · rw [if_pos hb, prowP_byte (b := 0) (by rw [hup, if_pos hb])]
          rfl
        · obtain ⟨ms, q0, q1, q2⟩ := look _ (hkin r mr p mp hb)
          have eu : u p = lstF sds p.inn := by rw [hup, if_neg hb]
          rw [if_neg hb, prowP_tree (n := 3) (k := p.inn) (by rw [eu]; exact q1), eu, q0]
          exact q2
      have b1 := prow_byt hL (by decide) h1
      have b2 := prow_byt hL (by decide) (hu.fit hL.nd mr)
      have le1 : rkT rows (lstF sds r.kind) ≤ rkT rows (nodeT r u) := by
        have e := le_rk b1 b2
        rw [len_of em, len_of h2] at e
        unfold toI at em h2
        rw [em, h2] at e
        have hless : (if ((ML.made g ⟨r.maker, r.kind, TR.tagOf rows r, r.parts⟩).length : Int) = (ns.length : Int) then HT.lexLt (ML.made g ⟨r.maker, r.kind, TR.tagOf rows r, r.parts⟩) ns else decide (((ML.made g ⟨r.maker, r.kind, TR.tagOf rows r, r.parts⟩).length : Int) < (ns.length : Int))) = false := hless
        rw [hless] at e
        exact of_decide_eq_true e.symm
      have le2 : rkT rows (nodeT r u) ≤ rkT rows (nodeT r v) := node_leq hL mr (hu.mono (by decide)) (hv.mono (by omega)) fun p mp => by
        rcases hv p mp with ⟨hb, c, _, e⟩ | ⟨hb, hf2⟩
        · rw [prowP_byte (b := 0) (by rw [hup, if_pos hb]), prowP_byte e]
          refine ⟨Nat.le_refl _, fun _ => ?_⟩
          show 0 * 1 + 0 ≤ c * 1 + 0
          omega
        · obtain ⟨_, _, q1, _⟩ := look _ (hkin r mr p mp hb)
          have eu : u p = lstF sds p.inn := by rw [hup, if_neg hb]
          rw [prowP_tree (n := 3) (k := p.inn) (by rw [eu]; exact q1), prowP_tree hf2, eu]
          exact ih _ _ (hkin r mr p mp hb) (by omega) hf2
      exact rk_leq (prow_byt hL hn hf) (Nat.le_trans le1 le2)
theorem lst_get {rows : List MR.Row} {sp : Str → List Str} {sds : List (Key × D)} (hL : TR.Lay rows sp) (h : MI.LeastOk rows sds) {k : Str} (m : k ∈ MI.kindsOf rows) : valD sds (.inr k) = some (lstF sds k) := by
  obtain ⟨nms, es, g, he, h3, hes, hd, hall⟩ := h
  obtain ⟨r, mr, rfl⟩ := kinds_row m
  have h1 := hall _ (hes _ ((ent_row hL.nd he).2 r mr)).kind
  rw [← hd.small] at h1
  unfold lstF
  cases e : valD sds (.inr r.kind) with
  | none => rw [e] at h1; cases h1
  | some d => rfl
end SE
namespace SE
open PySem PySem.Spec PyProof.Rows L2 DL
theorem val_inj : ∀ {a b : List Nat}, Byt a → Byt b → a.length = b.length → val a = val b → a = b
  | [], [], _, _, _, _ => rfl
  | [], _ :: _, _, _, l, _ => by cases l
  | _ :: _, [], _, _, l, _ => by cases l
  | x :: a, y :: b, ha, hb, l, h => by
    have l2 : a.length = b.length := Nat.succ.inj l
    have h : x * 256 ^ a.length + val a = y * 256 ^ b.length + val b := h
    have ha2 : Byt a := fun b m => ha b (List.mem_cons_of_mem _ m)
    have hb2 : Byt b := fun c m => hb c (List.mem_cons_of_mem _ m)
    have h1 := val_lt ha2
    have h2 := val_lt hb2
    rw [l2] at h h1
    have hp : 0 < 256 ^ b.length := Nat.pow_pos (by decide)
    generalize 256 ^ b.length = q at h h1 h2 hp
    have e1 : (x * q + val a) / q = x := by
      rw [Nat.mul_comm, Nat.mul_add_div hp, Nat.div_eq_of_lt h1, Nat.add_zero]
    have e2 : (y * q + val b) / q = y := by
      rw [Nat.mul_comm, Nat.mul_add_div hp, Nat.div_eq_of_lt h2, Nat.add_zero]
    have e : x = y := by rw [← e1, h, e2]
    subst e
    rw [val_inj ha2 hb2 l2 (by omega)]
theorem rk_inj {a b : List Nat} (ha : Byt a) (hb : Byt b) (h : rk a = rk b) : a = b := by
  have l1 : ¬ a.length < b.length := fun q => by have := rk_short ha q; omega
  have l2 : ¬ b.length < a.length := fun q => by have := rk_short hb q; omega
  have l : a.length = b.length := by omega
  refine val_inj ha hb l ?_
  unfold rk at h
  rw [l] at h
  omega
/-- bytes 0 and least trees -/
def lowV (lst : Str → D) (p : MR.Part) : D := if p.inn = MR.byteS then .int (0 : Nat) else lst p.inn
theorem low_vok {rows : List MR.Row} {lst : Str → D} (hl : LstOk rows lst) (hkin : ∀ r ∈ rows, ∀ p ∈ r.parts, p.inn ≠ MR.byteS → p.inn ∈ MI.kindsOf rows) {r : MR.Row} (mr : r ∈ rows) : Vok rows 3 r (lowV lst) := fun p mp => by
  by_cases hb : p.inn = MR.byteS
  · exact .inl ⟨hb, 0, by decide, if_pos hb⟩
  · refine .inr ⟨hb, ?_⟩
    unfold lowV
    rw [if_neg hb]
    exact hl.fit _ (hkin r mr p mp hb)
theorem lst_made {rows : List MR.Row} {sp : Str → List Str} {lst : Str → D} (hL : TR.Lay rows sp) (hl : LstOk rows lst) (hkin : ∀ r ∈ rows, ∀ p ∈ r.parts, p.inn ≠ MR.byteS → p.inn ∈ MI.kindsOf rows) {k : Str} (m : k ∈ MI.kindsOf rows) : ∃ r ∈ rows, r.kind = k ∧ lst k = nodeT r (lowV lst) := by
  have hf := hl.fit k m
  obtain ⟨r, mr, v, hd, rfl, hv⟩ := fit_node (n := 2) hL hf
  refine ⟨r, mr, rfl, ?_⟩
  have hu := low_vok hl hkin mr
  have hfu := hu.fit hL.nd mr
  have h40 := TR.fit_mono hf (show 3 ≤ 40 by decide)
  have h40u := TR.fit_mono hfu (show 3 + 1 ≤ 40 by decide)
  have b1 := prow_byt hL (Nat.le_refl 40) h40
  have b2 := prow_byt hL (Nat.le_refl 40) h40u
  have m1 := hl.min 40 _ _ m (Nat.le_refl 40) h40u
  have le1 : rkT rows (lst r.kind) ≤ rkT rows (nodeT r (lowV lst)) := by
    refine Nat.le_of_not_lt fun q => ?_
    have g1 := m1.1
    by_cases e : (prow rows (lst r.kind)).length = (prow rows (nodeT r (lowV lst))).length
    · have g2 := m1.2 e
      have q : rk (prow rows (nodeT r (lowV lst))) < rk (prow rows (lst r.kind)) := q
      unfold rk at q
      rw [e] at q
      omega
    · have := rk_short b1 (b := prow rows (nodeT r (lowV lst))) (by omega)
      have q : rk (prow rows (nodeT r (lowV lst))) < rk (prow rows (lst r.kind)) := q
      omega
  have le2 : rkT rows (nodeT r (lowV lst)) ≤ rkT rows (nodeT r v) := node_leq hL mr (hu.mono (by decide)) (hv.mono (by decide)) fun p mp => by
    rcases hv p mp with ⟨hb, c, _, e⟩ | ⟨hb, hf2⟩
    · rw [prowP_byte (b := 0) (show lowV lst p = .int (0 : Nat) from if_pos hb), prowP_byte e]
      refine ⟨Nat.le_refl _, fun _ => ?_⟩
      show 0 * 1 + 0 ≤ c * 1 + 0
      omega
    · have eu : lowV lst p = lst p.inn := if_neg hb
      have q1 := hl.fit _ (hkin r mr p mp hb)
      rw [prowP_tree (n := 3) (k := p.inn) (by rw [eu]; exact q1), prowP_tree hf2, eu]
      exact hl.min 2 _ _ (hkin r mr p mp hb) (by decide) hf2
  rw [← hd] at le2
  have e := rk_inj b1 b2 (by have : rk (prow rows (lst r.kind)) ≤ rk (prow rows (nodeT r (lowV lst))) := le1; have : rk (prow rows (nodeT r (lowV lst))) ≤ rk (prow rows (lst r.kind)) := le2; omega)
  have hP := pl_lay hL
  have s1 := sz_prow hL (Nat.le_refl 40) h40
  have s2 := sz_prow hL (Nat.le_refl 40) h40u
  have hlen := hl.len _ m
  have u1 := TR.unpack_back hP h40 (by omega)
  have u2 := TR.unpack_back hP h40u (by rw [← e] at s2; omega)
  have e : TR.packT rows (plS rows) 40 (lst r.kind) = TR.packT rows (plS rows) 40 (nodeT r (lowV lst)) := e
  rw [e, u2] at u1
  exact (Except.ok.inj u1).symm
end SE
set_option pp.maxSteps 700
namespace G
open PySem PySem.Spec PyProof.Rows L2 DL DLS NdefX
local macro_rules | `(tactic| k_subL) => `(tactic| repeat (first
  | with_reducible refine s_seq ?_
  | with_reducible refine s_set ?_
  | with_reducible refine w_op ?_
  | ((with_reducible refine w_var (d := ?_) ?_ ?_); rotate_left; exact rfl)
  | with_reducible refine w_int ?_
  | with_reducible refine rv_i0 ?_
  | with_reducible refine rv_b0 ?_
  | with_reducible refine w_cb ?_
  | with_reducible refine w_cons ?_
  | with_reducible refine w_nil ?_
  | with_reducible refine rc_int ?_
  | with_reducible refine w_str ?_
  | with_reducible refine w_bl ?_
  | with_reducible refine w_non ?_
  | with_reducible refine g_name ?_
  | with_reducible refine s_ret ?_
  | with_reducible refine s_drop ?_
  | with_reducible refine s_if ?_
  | with_reducible refine w_test ?_
  | with_reducible refine w_tB ?_))
local macro_rules | `(tactic| k_clsL) => `(tactic| repeat (first
  | with_reducible refine s_seq ?_
  | with_reducible refine s_set ?_
  | with_reducible refine w_op ?_
  | ((with_reducible refine w_var (d := ?_) ?_ ?_); rotate_left; exact rfl)
  | with_reducible refine w_int ?_
  | with_reducible refine rv_i0 ?_
  | with_reducible refine rv_b0 ?_
  | with_reducible refine w_cb ?_
  | with_reducible refine w_cons ?_
  | with_reducible refine w_nil ?_
  | with_reducible refine rc_int ?_
  | with_reducible refine w_str ?_
  | with_reducible refine w_bl ?_
  | with_reducible refine w_non ?_
  | with_reducible refine g_name ?_
  | with_reducible refine s_ret ?_
  | with_reducible refine s_drop ?_
  | with_reducible refine s_if ?_
  | with_reducible refine w_test ?_
  | with_reducible refine w_tB ?_
  | with_reducible refine w_not ?_
  | with_reducible refine w_and ?_
  | with_reducible refine w_or ?_
  | with_reducible refine w_notV ?_
  | with_reducible refine w_andV ?_
  | with_reducible refine w_orV ?_
  | with_reducible refine w_if ?_
  | with_reducible refine w_chain ?_
  | with_reducible refine ex_bl ?_
  | with_reducible refine ex_int ?_
  | with_reducible refine ex_str ?_
  | with_reducible refine ex_lst ?_
  | with_reducible refine ex_tup ?_
  | with_reducible refine rc_lenM ?_
  | with_reducible refine rc_lenU ?_
  | with_reducible refine i_list ?_
  | with_reducible refine i_tup ?_
  | with_reducible refine i_range ?_
  | with_reducible refine i_str ?_
  | with_reducible refine s_for ?_
  | ((with_reducible refine rv_eq ?_ ?_); exact rfl)
  | ((with_reducible refine rv_ne ?_ ?_); exact rfl)
  | with_reducible refine MI.row0 _ ?_
  | with_reducible refine MI.row1 _ ?_
  | with_reducible refine MI.row2 _ ?_
  | with_reducible refine MI.par0 _ ?_
  | with_reducible refine MI.par1 _ ?_
  | ((with_reducible refine rv_ixT (d := ?_) ?_ ?_); rotate_left; exact rfl)))
structure Tx (P : Program) (w : World) (K : PySem.W.Frag) (mg : Str → Option Value) : Prop where
  ex : ∃ h : Heap, K.In h ∧ h.Ns mainGlobals mg
  cy : obsY fa fn xa sd wn ts K = valY fn sd wn ts w
  pf : PFile P
section
variable {P : Program} {w : World} {K : PySem.W.Frag} {mg : Str → Option Value} (Z : Tx P w K mg)
include Z
theorem Tx.c : obsX fa fn xa sd wn K = valX fn sd wn := obsY_x Z.cy
theorem Tx.says : He.SaysD fa fn K := obsX_says (Tx.c Z)
theorem Tx.glo (i : Nat) {x : Str} (h : fa[i]? = some (.glo x)) : mg x = some (.ref (He.ga K x)) := by
  obtain ⟨h0, X, G⟩ := Z.ex
  exact He.glo_ok X G (Z.says.fact i h)
theorem Tx.free (i : Nat) {x : Str} (h : fa[i]? = some (.free x)) : mg x = none := by
  obtain ⟨h0, X, G⟩ := Z.ex
  exact He.free_ok X G (Z.says.fact i h)
theorem Tx.int (i : Nat) {x : Str} {n : Int} (h : fa[i]? = some (.int x n)) : ∃ t, mg x = some (.int n t) := by
  obtain ⟨h0, X, G⟩ := Z.ex
  exact He.int_ok X G (Z.says.fact i h)
theorem Tx.str (i : Nat) {x z : Str} (h : fa[i]? = some (.str x z)) : ∃ t, mg x = some (.str z t) := by
  obtain ⟨h0, X, G⟩ := Z.ex
  exact He.str_ok X G (Z.says.fact i h)
theorem Tx.cls (i : Nat) {x : Str} (h : fa[i]? = some (.cls x)) : Cls K (He.ga K x) := He.cls_ok (Z.says.fact i h)
theorem Tx.noat (i : Nat) {x f : Str} (h : fa[i]? = some (.noat x f)) : NoAttr K (He.ga K x) f := He.noat_ok (Z.says.fact i h)
theorem Tx.meth (i : Nat) {x m : Str} (h : fa[i]? = some (.meth x m)) : Meth K (He.ga K x) m (He.ma K (He.ga K x) m) := He.meth_ok (Z.says.fact i h)
theorem Tx.mkr (i : Nat) {x : Str} (h : fa[i]? = some (.mkr x)) : Mk K (He.ga K x) (He.ma K (He.ga K x) "__init__") := He.mkr_ok (Z.says.fact i h)
theorem Tx.exc (i : Nat) {x : Str} (h : xa[i]? = some (.exc x)) : OexC K (He.ga K x) ∧ ExcC K (He.ga K x) ∧ XfC K (He.ga K x) := excB_ok (obsX_fact (Tx.c Z) i h)
theorem Tx.own (i : Nat) {x : Str} (h : xa[i]? = some (.own x)) : PySem.W.excIn K (He.ga K x) He.veBase "ValueError.__new__" = true := obsX_fact (Tx.c Z) i h
theorem Tx.sup (i : Nat) {x y : Str} (h : xa[i]? = some (.sup x y)) : SupC K (He.ga K x) (He.ga K y) := supCB_ok (obsX_fact (Tx.c Z) i h)
theorem Tx.kit (i : Nat) {x y : Str} {b : Bool} (h : xa[i]? = some (.kit x y b)) : PySem.W.kitOne K (.ref (He.ga K x)) (.ref (He.ga K y)) = some b := of_decide_eq_true (obsX_fact (Tx.c Z) i h)
theorem Tx.kitT (i : Nat) {x : Str} {n : String} {b : Bool} (h : xa[i]? = some (.kitT x n b)) : PySem.W.kitOne K (.ref (He.ga K x)) (.type n) = some b := of_decide_eq_true (obsX_fact (Tx.c Z) i h)
theorem Tx.exm (i : Nat) {x y : Str} {b : Bool} (h : xa[i]? = some (.exm x y b)) : PySem.W.exmOne K (.ref (He.ga K x)) (.ref (He.ga K y)) = some b := of_decide_eq_true (obsX_fact (Tx.c Z) i h)
theorem Tx.stat (i : Nat) {x m : Str} (h : xa[i]? = some (.stat x m)) : StatOf K (He.ga K x) m (He.ma K (He.ga K x) m) (He5.wf K (He.ga K x) "staticmethod" m) := statB_ok (obsX_fact (Tx.c Z) i h)
theorem Tx.cm (i : Nat) {x m : Str} (h : xa[i]? = some (.cm x m)) : ClX.CRead K (He.ga K x) (.type "type") ∧ ClX.CMet K (He.ga K x) (.type "type") m (He.ma K (He.ga K x) m) (He5.wf K (He.ga K x) "classmethod" m) := cmB_ok (obsX_fact (Tx.c Z) i h)
theorem Tx.item (i : Nat) {x m : Str} (h : xa[i]? = some (.item x m)) : ItemOf K (He.ga K x) m (He.ma K (He.ga K x) m) ∧ PySem.W.fnIn K (He.ma K (He.ga K x) m) = true := itemB_ok (obsX_fact (Tx.c Z) i h)
theorem Tx.prop (i : Nat) {x m : Str} (h : xa[i]? = some (.prop x m)) : PropOf K (He.ga K x) m (He.ma K (He.ga K x) m) (He5.wf K (He.ga K x) "property" m) := propB_ok (obsX_fact (Tx.c Z) i h)
theorem Tx.inh (i : Nat) {x y : Str} (h : xa[i]? = some (.inh x y)) : PySem.W.findIn K (.ref (He.ga K x)) "__init__" = some (some (.ref (He.ma K (He.ga K y) "__init__"))) := of_decide_eq_true (obsX_fact (Tx.c Z) i h)
theorem Tx.fun (i : Nat) {d : He.DefD} (h : fn[i]? = some d) : FunD K d.name d.qual d.params d.body d.scope (d.dvs K) (d.kws K) (He.fAd K d.at_) (fdAt K d.at_) := by
  obtain ⟨fd, F⟩ := Z.says.def_ i h
  have e : fdAt K d.at_ = fd := by
    obtain ⟨oc, od, dV, kV, doc, pm, an, cdv, ct, osl, _, e, _⟩ := F.ex
    unfold fdAt
    rw [e]
  rw [e]
  exact F
theorem Tx.kp (i : Nat) {d : He.DefD} (h : fn[i]? = some d) : PySem.W.keepIn K (.ref (He.fAd K d.at_)) = true := (Z.fun i h).kp
end
theorem na_Kinds_table {P : Program} {w : World} {K : PySem.W.Frag} {mg : Str → Option Value} (Z : Tx P w K mg) : Cls K (He.ga K "Kinds") ∧ NoAttr K (He.ga K "Kinds") "table" := ⟨Z.cls 4 rfl, Z.noat 18 rfl⟩
theorem na_Kinds_family {P : Program} {w : World} {K : PySem.W.Frag} {mg : Str → Option Value} (Z : Tx P w K mg) : Cls K (He.ga K "Kinds") ∧ NoAttr K (He.ga K "Kinds") "family" := ⟨Z.cls 4 rfl, Z.noat 19 rfl⟩
theorem na_Kinds_names {P : Program} {w : World} {K : PySem.W.Frag} {mg : Str → Option Value} (Z : Tx P w K mg) : Cls K (He.ga K "Kinds") ∧ NoAttr K (He.ga K "Kinds") "names" := ⟨Z.cls 4 rfl, Z.noat 24 rfl⟩
theorem na_Kinds_order {P : Program} {w : World} {K : PySem.W.Frag} {mg : Str → Option Value} (Z : Tx P w K mg) : Cls K (He.ga K "Kinds") ∧ NoAttr K (He.ga K "Kinds") "order" := ⟨Z.cls 4 rfl, Z.noat 25 rfl⟩
theorem na_Kinds_smallest {P : Program} {w : World} {K : PySem.W.Frag} {mg : Str → Option Value} (Z : Tx P w K mg) : Cls K (He.ga K "Kinds") ∧ NoAttr K (He.ga K "Kinds") "smallest" := ⟨Z.cls 4 rfl, Z.noat 26 rfl⟩
theorem F__law_pool {P : Program} {w : World} {K : PySem.W.Frag} {mg : Str → Option Value} (Z : Tx P w K mg) : FunD K "_law_pool" "_law_pool" (defArgs s__law_pool) (defBody s__law_pool) (defScope s__law_pool) [] [] (He.ga K "_law_pool") (fdAt K ("_law_pool", none)) := Z.fun 0 rfl
theorem b__law_pool {P : Program} {w : World} {K : PySem.W.Frag} {mg : Str → Option Value} (Z : Tx P w K mg) : Binds K (fdAt K ("_law_pool", none)) ["_law_script"] [] := FunD.bindsN (F__law_pool Z) fun _ _ _ _ _ _ us hl => match us, hl with | [_], _ => rfl
theorem F__law_rows {P : Program} {w : World} {K : PySem.W.Frag} {mg : Str → Option Value} (Z : Tx P w K mg) : FunD K "_law_rows" "_law_rows" (defArgs s__law_rows) (defBody s__law_rows) (defScope s__law_rows) [] [] (He.ga K "_law_rows") (fdAt K ("_law_rows", none)) := Z.fun 1 rfl
theorem b__law_rows {P : Program} {w : World} {K : PySem.W.Frag} {mg : Str → Option Value} (Z : Tx P w K mg) : Binds K (fdAt K ("_law_rows", none)) ["_law_pool_here"] [] := FunD.bindsN (F__law_rows Z) fun _ _ _ _ _ _ us hl => match us, hl with | [_], _ => rfl
theorem F_Kinds___init__ {P : Program} {w : World} {K : PySem.W.Frag} {mg : Str → Option Value} (Z : Tx P w K mg) : FunD K "__init__" "Kinds.__init__" (defArgs s_Kinds___init__) (defBody s_Kinds___init__) (defScope s_Kinds___init__) [] [] (He.ma K (He.ga K "Kinds") "__init__") (fdAt K ("Kinds", some "__init__")) := Z.fun 2 rfl
theorem b_Kinds___init__ {P : Program} {w : World} {K : PySem.W.Frag} {mg : Str → Option Value} (Z : Tx P w K mg) : Binds K (fdAt K ("Kinds", some "__init__")) ["self", "rows"] [] := FunD.bindsN (F_Kinds___init__ Z) fun _ _ _ _ _ _ us hl => match us, hl with | [_, _], _ => rfl
theorem F_Kinds_least {P : Program} {w : World} {K : PySem.W.Frag} {mg : Str → Option Value} (Z : Tx P w K mg) : FunD K "least" "Kinds.least" (defArgs s_Kinds_least) (defBody s_Kinds_least) (defScope s_Kinds_least) [] [] (He.ma K (He.ga K "Kinds") "least") (fdAt K ("Kinds", some "least")) := Z.fun 3 rfl
theorem b_Kinds_least {P : Program} {w : World} {K : PySem.W.Frag} {mg : Str → Option Value} (Z : Tx P w K mg) : Binds K (fdAt K ("Kinds", some "least")) ["self", "kind"] [] := FunD.bindsN (F_Kinds_least Z) fun _ _ _ _ _ _ us hl => match us, hl with | [_, _], _ => rfl
theorem F__law_fits {P : Program} {w : World} {K : PySem.W.Frag} {mg : Str → Option Value} (Z : Tx P w K mg) : FunD K "_law_fits" "_law_fits" (defArgs s__law_fits) (defBody s__law_fits) (defScope s__law_fits) [] [] (He.ga K "_law_fits") (fdAt K ("_law_fits", none)) := Z.fun 4 rfl
theorem b__law_fits {P : Program} {w : World} {K : PySem.W.Frag} {mg : Str → Option Value} (Z : Tx P w K mg) : Binds K (fdAt K ("_law_fits", none)) ["_law_rows_here", "_law_tree_here", "_law_kind"] [] := FunD.bindsN (F__law_fits Z) fun _ _ _ _ _ _ us hl => match us, hl with | [_, _, _], _ => rfl
theorem F__law_tree {P : Program} {w : World} {K : PySem.W.Frag} {mg : Str → Option Value} (Z : Tx P w K mg) : FunD K "_law_tree" "_law_tree" (defArgs s__law_tree) (defBody s__law_tree) (defScope s__law_tree) [] [] (He.ga K "_law_tree") (fdAt K ("_law_tree", none)) := Z.fun 5 rfl
theorem b__law_tree {P : Program} {w : World} {K : PySem.W.Frag} {mg : Str → Option Value} (Z : Tx P w K mg) : Binds K (fdAt K ("_law_tree", none)) ["_law_pool_here", "_law_rows_here", "_law_base_here", "_law_kind", "_law_cut", "_law_fuel"] [] := FunD.bindsN (F__law_tree Z) fun _ _ _ _ _ _ us hl => match us, hl with | [_, _, _, _, _, _], _ => rfl
theorem F__law_take {P : Program} {w : World} {K : PySem.W.Frag} {mg : Str → Option Value} (Z : Tx P w K mg) : FunD K "_law_take" "_law_take" (defArgs s__law_take) (defBody s__law_take) (defScope s__law_take) [] [] (He.ga K "_law_take") (fdAt K ("_law_take", none)) := Z.fun 6 rfl
theorem b__law_take {P : Program} {w : World} {K : PySem.W.Frag} {mg : Str → Option Value} (Z : Tx P w K mg) : Binds K (fdAt K ("_law_take", none)) ["_law_pool_here", "_law_many"] [] := FunD.bindsN (F__law_take Z) fun _ _ _ _ _ _ us hl => match us, hl with | [_, _], _ => rfl
theorem F__law_base {P : Program} {w : World} {K : PySem.W.Frag} {mg : Str → Option Value} (Z : Tx P w K mg) : FunD K "_law_base" "_law_base" (defArgs s__law_base) (defBody s__law_base) (defScope s__law_base) [] [] (He.ga K "_law_base") (fdAt K ("_law_base", none)) := Z.fun 7 rfl
theorem b__law_base {P : Program} {w : World} {K : PySem.W.Frag} {mg : Str → Option Value} (Z : Tx P w K mg) : Binds K (fdAt K ("_law_base", none)) ["_law_rows_here"] [] := FunD.bindsN (F__law_base Z) fun _ _ _ _ _ _ us hl => match us, hl with | [_], _ => rfl
theorem F__law_less {P : Program} {w : World} {K : PySem.W.Frag} {mg : Str → Option Value} (Z : Tx P w K mg) : FunD K "_law_less" "_law_less" (defArgs s__law_less) (defBody s__law_less) (defScope s__law_less) [] [] (He.ga K "_law_less") (fdAt K ("_law_less", none)) := Z.fun 8 rfl
theorem b__law_less {P : Program} {w : World} {K : PySem.W.Frag} {mg : Str → Option Value} (Z : Tx P w K mg) : Binds K (fdAt K ("_law_less", none)) ["_law_rows_here", "_law_one", "_law_other"] [] := FunD.bindsN (F__law_less Z) fun _ _ _ _ _ _ us hl => match us, hl with | [_, _, _], _ => rfl
theorem F__law_name {P : Program} {w : World} {K : PySem.W.Frag} {mg : Str → Option Value} (Z : Tx P w K mg) : FunD K "_law_name" "_law_name" (defArgs s__law_name) (defBody s__law_name) (defScope s__law_name) [] [] (He.ga K "_law_name") (fdAt K ("_law_name", none)) := Z.fun 9 rfl
theorem b__law_name {P : Program} {w : World} {K : PySem.W.Frag} {mg : Str → Option Value} (Z : Tx P w K mg) : Binds K (fdAt K ("_law_name", none)) ["_law_seed", "_law_k", "_law_taken"] [] := FunD.bindsN (F__law_name Z) fun _ _ _ _ _ _ us hl => match us, hl with | [_, _, _], _ => rfl
theorem F__law_parts {P : Program} {w : World} {K : PySem.W.Frag} {mg : Str → Option Value} (Z : Tx P w K mg) : FunD K "_law_parts" "_law_parts" (defArgs s__law_parts) (defBody s__law_parts) (defScope s__law_parts) [] [] (He.ga K "_law_parts") (fdAt K ("_law_parts", none)) := Z.fun 10 rfl
theorem b__law_parts {P : Program} {w : World} {K : PySem.W.Frag} {mg : Str → Option Value} (Z : Tx P w K mg) : Binds K (fdAt K ("_law_parts", none)) ["_law_pool_here", "_law_seed", "_law_names", "_law_base_here"] [] := FunD.bindsN (F__law_parts Z) fun _ _ _ _ _ _ us hl => match us, hl with | [_, _, _, _], _ => rfl
theorem F_Kinds_is_new {P : Program} {w : World} {K : PySem.W.Frag} {mg : Str → Option Value} (Z : Tx P w K mg) : FunD K "is_new" "Kinds.is_new" (defArgs s_Kinds_is_new) (defBody s_Kinds_is_new) (defScope s_Kinds_is_new) [] [] (He.ma K (He.ga K "Kinds") "is_new") (fdAt K ("Kinds", some "is_new")) := Z.fun 11 rfl
theorem b_Kinds_is_new {P : Program} {w : World} {K : PySem.W.Frag} {mg : Str → Option Value} (Z : Tx P w K mg) : Binds K (fdAt K ("Kinds", some "is_new")) ["self", "row"] [] := FunD.bindsN (F_Kinds_is_new Z) fun _ _ _ _ _ _ us hl => match us, hl with | [_, _], _ => rfl
theorem F_Kinds_find_least {P : Program} {w : World} {K : PySem.W.Frag} {mg : Str → Option Value} (Z : Tx P w K mg) : FunD K "find_least" "Kinds.find_least" (defArgs s_Kinds_find_least) (defBody s_Kinds_find_least) (defScope s_Kinds_find_least) [] [] (He.ma K (He.ga K "Kinds") "find_least") (fdAt K ("Kinds", some "find_least")) := Z.fun 12 rfl
theorem b_Kinds_find_least {P : Program} {w : World} {K : PySem.W.Frag} {mg : Str → Option Value} (Z : Tx P w K mg) : Binds K (fdAt K ("Kinds", some "find_least")) ["self"] [] := FunD.bindsN (F_Kinds_find_least Z) fun _ _ _ _ _ _ us hl => match us, hl with | [_], _ => rfl
theorem F_is_name {P : Program} {w : World} {K : PySem.W.Frag} {mg : Str → Option Value} (Z : Tx P w K mg) : FunD K "is_name" "is_name" (defArgs s_is_name) (defBody s_is_name) (defScope s_is_name) [] [] (He.ga K "is_name") (fdAt K ("is_name", none)) := Z.fun 13 rfl
theorem b_is_name {P : Program} {w : World} {K : PySem.W.Frag} {mg : Str → Option Value} (Z : Tx P w K mg) : Binds K (fdAt K ("is_name", none)) ["text"] [] := FunD.bindsN (F_is_name Z) fun _ _ _ _ _ _ us hl => match us, hl with | [_], _ => rfl
theorem F_is_part {P : Program} {w : World} {K : PySem.W.Frag} {mg : Str → Option Value} (Z : Tx P w K mg) : FunD K "is_part" "is_part" (defArgs s_is_part) (defBody s_is_part) (defScope s_is_part) [] [] (He.ga K "is_part") (fdAt K ("is_part", none)) := Z.fun 14 rfl
theorem b_is_part {P : Program} {w : World} {K : PySem.W.Frag} {mg : Str → Option Value} (Z : Tx P w K mg) : Binds K (fdAt K ("is_part", none)) ["part"] [] := FunD.bindsN (F_is_part Z) fun _ _ _ _ _ _ us hl => match us, hl with | [_], _ => rfl
theorem F__law_int {P : Program} {w : World} {K : PySem.W.Frag} {mg : Str → Option Value} (Z : Tx P w K mg) : FunD K "_law_int" "_law_int" (defArgs s__law_int) (defBody s__law_int) (defScope s__law_int) [] [] (He.ga K "_law_int") (fdAt K ("_law_int", none)) := Z.fun 15 rfl
theorem b__law_int {P : Program} {w : World} {K : PySem.W.Frag} {mg : Str → Option Value} (Z : Tx P w K mg) : Binds K (fdAt K ("_law_int", none)) ["_law_value"] [] := FunD.bindsN (F__law_int Z) fun _ _ _ _ _ _ us hl => match us, hl with | [_], _ => rfl
theorem F__law_pack {P : Program} {w : World} {K : PySem.W.Frag} {mg : Str → Option Value} (Z : Tx P w K mg) : FunD K "_law_pack" "_law_pack" (defArgs s__law_pack) (defBody s__law_pack) (defScope s__law_pack) [] [] (He.ga K "_law_pack") (fdAt K ("_law_pack", none)) := Z.fun 16 rfl
theorem b__law_pack {P : Program} {w : World} {K : PySem.W.Frag} {mg : Str → Option Value} (Z : Tx P w K mg) : Binds K (fdAt K ("_law_pack", none)) ["_law_rows_here", "_law_specs", "_law_tree_here"] [] := FunD.bindsN (F__law_pack Z) fun _ _ _ _ _ _ us hl => match us, hl with | [_, _, _], _ => rfl
theorem F__law_plain {P : Program} {w : World} {K : PySem.W.Frag} {mg : Str → Option Value} (Z : Tx P w K mg) : FunD K "_law_plain" "_law_plain" (defArgs s__law_plain) (defBody s__law_plain) (defScope s__law_plain) [] [] (He.ga K "_law_plain") (fdAt K ("_law_plain", none)) := Z.fun 17 rfl
theorem b__law_plain {P : Program} {w : World} {K : PySem.W.Frag} {mg : Str → Option Value} (Z : Tx P w K mg) : Binds K (fdAt K ("_law_plain", none)) ["_law_rows_here"] [] := FunD.bindsN (F__law_plain Z) fun _ _ _ _ _ _ us hl => match us, hl with | [_], _ => rfl
theorem F_law {P : Program} {w : World} {K : PySem.W.Frag} {mg : Str → Option Value} (Z : Tx P w K mg) : FunD K "law" "law" (defArgs s_law) (defBody s_law) (defScope s_law) [] [] (He.ga K "law") (fdAt K ("law", none)) := Z.fun 18 rfl
theorem I_NotThere {P : Program} {w : World} {K : PySem.W.Frag} {mg : Str → Option Value} {base : Heap} (Z : Tx P w K mg) : ∃ fd, FnOk P w K mg base (L2.CX P w) 1 (He.ma K (He.ga K "NotThere") "__init__") fd ["self", "name"] (spI K (He.ga K "NotThere") ["name"] condS) ∧ Binds K fd ["self", "name"] [] ∧
    PySem.W.findIn K (.ref (He.ga K "NotThere")) "__init__" = some (some (.ref (He.ma K (He.ga K "NotThere") "__init__"))) ∧ PySem.W.typeIn K (.ref (He.ma K (He.ga K "NotThere") "__init__")) = some (.type "function") := by
  obtain ⟨cc, cda, fd, dV, hdv, F, hfd, iC, tI⟩ := obsX_sup Z.pf (Tx.c Z) 0 (d := sd_NotThere) rfl
  refine ⟨fd, ?_, binds_supN hdv hfd fun _ _ _ _ _ us hl => match us, hl with | [_, _], _ => rfl, iC, tI⟩
  refine fn_super (N := N_NotThere) (k := 0) F sc_NotThere ⟨_, rfl, rfl⟩ (by decide +kernel) (Z.free 38 rfl) (fun vs H Q E h => ?_) (fun _ => rfl) (fun _ => rfl) (fun _ => rfl) (fun _ => rfl) fun A outer s H vs Q E hr h => ⟨_, _, (pa_cons (pe_op op_add_str pe_str (pv 1)) pa_nil), (pss_one (ps_ost (pv 0) (pv 1))), init1S h rfl⟩
  obtain ⟨a, C, ws, rfl, hl, _⟩ := h
  simpa using hl
theorem pr_NotThere {X : Cx} {W : WX} {e : Expr} {es : List Expr} {ta : TA} {p pos pos' : Pos} (Z : Tx X.prog X.w X.K X.mg) (hc : X.calm = true) (hr : Room 2 X.A) (tk : Takes X W) (hg : Gl X "NotThere") (ha : PA X (e :: es) ta)
    (he : starEach (e :: es) X.env = (false, eval e X.env) :: starEach es X.env := by rfl) (hpl : (backTo pos (starEach es X.env)).any (·.1) = false := by rfl) : PS X (.Raise (some (.Call (.Name "NotThere" p) (e :: es) [] pos)) none pos') (fun _ σ H => tMkO (He.ga X.K "NotThere") (spI X.K (He.ga X.K "NotThere") ["name"] condS) [] ta σ H fun cls d H' => W cls d σ H') := by
  obtain ⟨fd, F, b, iC, tI⟩ := I_NotThere (w := X.w) (base := X.base) Z
  exact ps_raise hc tk (pmk_oex (Z.exc 0 rfl).1 iC tI F hr b .nil passN hg (Z.glo 37 rfl) ha (by decide) he hpl)
theorem xo_NotThere {P : Program} {w : World} {K : PySem.W.Frag} {mg : Str → Option Value} (Z : Tx P w K mg) : OexC K (He.ga K "NotThere") ∧ SupC K (He.ga K "NotThere") (He.ga K "NotThere") ∧ ∀ f ∈ (["name"] : List Str), PySem.W.findIn K (.ref (He.ga K "NotThere")) f = some none := by
  refine ⟨(Z.exc 0 rfl).1, Z.sup 1 rfl, fun f m => ?_⟩
  simp only [List.mem_cons, List.not_mem_nil, or_false] at m
  rcases m with rfl
  · exact Z.noat 39 rfl
/-- a new list of ints -/
def c__law_pool (K : PySem.W.Frag) : Ct := fun L as ds O k e => ∃ (d : D) (ns : List Int), as = [] ∧ ds = [d] ∧ O = [] ∧ lstR [] [] K d (ns.map D.int) ∧ ns.length ≤ 63 ∧
  ∀ (p : Addr) (ns' : List Int), k [p] (.adr p) [.lst (ns'.map D.int)]
theorem l__law_pool {K : PySem.W.Frag} : ∀ L as ds O k e, c__law_pool K L as ds O k e → ds.length = 1 := fun L as ds O k e h => by
  obtain ⟨a, ns, _, rfl, _⟩ := h
  rfl
set_option maxHeartbeats 4000000 in
theorem ok__law_pool {P : Program} {w : World} {K : PySem.W.Frag} {mg : Str → Option Value} {base : Heap} (Z : Tx P w K mg) : FnOk P w K mg base (L2.CX P w) 1 (He.ga K "_law_pool") (fdAt K ("_law_pool", none)) ["_law_script"] (spC (c__law_pool K)) := by
  refine FunD.ok (k := 0) (F__law_pool Z) sc__law_pool (sp_len (n := 1) l__law_pool) (fun cdv A outer s H vs Q E hr h => ⟨_, PSs.nox ((pss_cons (ps_set (i := 1) sc__law_pool.nd rfl (Or.inl rfl) (pe_lst pa_nil))
  (pss_cons (ps_for PassesOwn.never rfl (pi_list (pe_slice sl_list (pv 0) po_none (po_some pe_int))) (pg_name (i := 2) sc__law_pool.nd rfl (Or.inl rfl))
  (pss_cons (ps_set (i := 3) sc__law_pool.nd rfl (Or.inl rfl) (pe_callTy call_int1 (by rfl) (Z.free 12 rfl) PyProof.Rows.boot_int (pa_cons (pv 2) pa_nil)))
  (pss_one (ps_if (pt_cmpR op_ge (pv 3) (pe_op op_pow pe_int pe_int) (nomark _))
  (pss_one (ps_for PassesOwn.never rfl (pi_range1 (by rfl) (Z.free 13 rfl) (pa_cons pe_int pa_nil)) (pg_name (i := 4) sc__law_pool.nd rfl (Or.inl rfl))
  (pss_one (ps_if (pt_cmpR op_gt (pv 3) pe_int (nomark _))
  (pss_cons (ps_expr (pe_bm PySem.F.plainAttrs_list PySem.F.slot_list_append PySem.F.type_list_append mt_append (pv 1) (pa_cons (pe_op op_mod (pv 3) pe_int) pa_nil)))
  (pss_one (ps_set (i := 3) sc__law_pool.nd rfl (Or.inl rfl) (pe_op op_fdiv (pv 3) pe_int))))
  pss_nil))))
  (pss_cons (ps_set (i := 5) sc__law_pool.nd rfl (Or.inl rfl) (pe_op op_mod (pe_callTy call_int1 (by rfl) (Z.free 12 rfl) PyProof.Rows.boot_int (pa_cons (pe_op op_add (pe_op op_mul (pv 3) pe_int) pe_int) pa_nil)) pe_int))
  (pss_one (ps_for PassesOwn.never rfl (pi_range1 (by rfl) (Z.free 13 rfl) (pa_cons pe_int pa_nil)) (pg_name (i := 4) sc__law_pool.nd rfl (Or.inl rfl))
  (pss_cons (ps_set (i := 5) sc__law_pool.nd rfl (Or.inl rfl) (pe_op op_mod (pe_callTy call_int1 (by rfl) (Z.free 12 rfl) PyProof.Rows.boot_int (pa_cons (pe_op op_add (pe_op op_add (pe_op op_mul (pv 5) pe_int) (pe_op op_mul pe_int (pv 4))) pe_int) pa_nil)) pe_int))
  (pss_one (ps_expr (pe_bm PySem.F.plainAttrs_list PySem.F.slot_list_append PySem.F.type_list_append mt_append (pv 1) (pa_cons (pe_op op_mod (pe_callTy call_int1 (by rfl) (Z.free 12 rfl) PyProof.Rows.boot_int (pa_cons (pe_op op_fdiv (pe_op op_mul (pv 5) (pv 5)) pe_int) pa_nil)) pe_int) pa_nil))))))))))))
  (pss_one (ps_ret (pe_revL (pv 1))))))), enter h fun L as ds O k e c => ?_⟩)
  obtain ⟨d, ns, rfl, rfl, rfl, hR, hlen, hk⟩ := c
  refine s_seq (s_set (w_lst (w_nil ⟨Nat.zero_le _, fun p => ?_⟩)))
  refine s_seq (s_for (i_list (w_known (w_sl (w_var rfl (o_none (o_some (w_int ⟨_, rfl, rs_list (KK := K) (ds := ns.map D.int) hR.more fun q => ⟨q, _, _, _, rfl, rfl, rfl, _, rfl,
    fun i as ρ O => ∃ (ms : List Int) (x2 x3 x4 x5 : Option D), as = [p] ∧ ρ = [some d, some (.adr p), x2, x3, x4, x5] ∧ O = [.lst (ms.map D.int)] ∧ ms.length ≤ 60 * i, ⟨[], none, none, none, none, rfl, rfl, rfl, Nat.le_refl _⟩, ?_, ?_⟩⟩))))))))
  · rintro i as ρ O c hc ⟨ms, x2, x3, x4, x5, rfl, rfl, rfl, hl⟩
    obtain ⟨n, _, rfl⟩ := List.mem_map.mp (cut_mem hc)
    have hi : i < 63 := by
      have h1 := (List.getElem?_eq_some_iff.mp hc).1
      have h2 := cut_len (ns.map D.int) none (some 63)
      rw [List.length_map] at h2
      omega
    k_subL
    refine rv_i ⟨by decide, by decide, by decide⟩ ?_
    k_subL
    refine b_dec (fun h1 => ?_) fun h1 => ?_
    · refine s_for (i_range ?_)
      k_subL
      refine ⟨_, rfl, by decide, by decide, fun j as ρ O => ∃ (ms : List Int) (m : Int) (x4 : Option D), as = [p] ∧ ρ = [some d, some (.adr p), some (.int n), some (.int m), x4, x5] ∧ O = [.lst (ms.map D.int)] ∧ ms.length ≤ 60 * i + j, ⟨ms, n, x4, rfl, rfl, rfl, hl⟩, ?_, ?_⟩
      · rintro j as ρ O c hc ⟨ms, m, x4, rfl, rfl, rfl, hl⟩
        obtain ⟨hj, rfl⟩ := upto_at hc
        have hj : j < 60 := hj
        k_subL
        refine b_dec (fun h2 => ?_) fun h2 => ?_
        · refine s_seq (s_append 0 rfl rfl rfl ?_)
          k_subL
          refine rv_i (by decide) ⟨_, rfl, rfl, smallt (by rw [List.length_map]; omega), ?_⟩
          k_subL
          refine rv_i ⟨by decide, by decide⟩ ⟨ms ++ [m % 1000000], m / 1000000, _, rfl, rfl, ?_, ?_⟩
          · show [D.lst (ms.map D.int ++ [.int (m % 1000000)])] = _
            rw [List.map_append]
            rfl
          · rw [List.length_append]
            show ms.length + 1 ≤ _
            omega
        · exact s_next ⟨ms, m, _, rfl, rfl, rfl, by omega⟩
      · rintro as ρ O ⟨ms, m, x4, rfl, rfl, rfl, hl⟩
        exact ⟨ms, _, _, _, _, rfl, rfl, rfl, by rw [upto_len] at hl; show _ ≤ 60 * (i + 1); have : (60 : Int).toNat = 60 := rfl; omega⟩
    · k_subL
      refine rv_i (.inr ⟨by decide, by decide⟩) ?_
      k_subL
      refine rv_i (by decide) ?_
      have hx : 0 ≤ (n * 48271 + 12345) % 2147483647 ∧ (n * 48271 + 12345) % 2147483647 < 2147483647 := ⟨Int.emod_nonneg _ (by decide), Int.emod_lt_of_pos _ (by decide)⟩
      generalize (n * 48271 + 12345) % 2147483647 = x at hx
      refine s_for (i_range ?_)
      k_subL
      refine ⟨_, rfl, by decide, by decide, fun j as ρ O => ∃ (ms : List Int) (m : Int) (x4 : Option D), as = [p] ∧ ρ = [some d, some (.adr p), some (.int n), some (.int n), x4, some (.int m)] ∧ O = [.lst (ms.map D.int)] ∧ ms.length ≤ 60 * i + j ∧ 0 ≤ m ∧ m < 2147483647, ⟨ms, x, x4, rfl, rfl, rfl, hl, hx⟩, ?_, ?_⟩
      · rintro j as ρ O c hc ⟨ms, m, x4, rfl, rfl, rfl, hl, hm⟩
        obtain ⟨hj, rfl⟩ := upto_at hc
        have hj : j < 12 := hj
        k_subL
        refine rv_i (.inr ⟨by decide, by decide⟩) ?_
        k_subL
        refine rv_i (.inl ⟨by decide, by decide⟩) ?_
        k_subL
        refine rv_i (by decide) ?_
        have hy : 0 ≤ (m * 69621 + 7 * (j : Int) + 1) % 2147483629 ∧ (m * 69621 + 7 * (j : Int) + 1) % 2147483629 < 2147483629 := ⟨Int.emod_nonneg _ (by decide), Int.emod_lt_of_pos _ (by decide)⟩
        generalize (m * 69621 + 7 * (j : Int) + 1) % 2147483629 = y at hy
        refine s_append 0 rfl rfl rfl ?_
        k_subL
        refine rv_i (.inl ⟨by omega, by omega⟩) ?_
        k_subL
        refine rv_i ⟨by decide, by decide⟩ ?_
        k_subL
        refine rv_i (by decide) ⟨_, rfl, rfl, smallt (by rw [List.length_map]; omega), ms ++ [y * y / 4096 % 1000000], y, _, rfl, rfl, ?_, ?_, by omega, by omega⟩
        · show [D.lst (ms.map D.int ++ [.int (y * y / 4096 % 1000000)])] = _
          rw [List.map_append]
          rfl
        · rw [List.length_append]
          show ms.length + 1 ≤ _
          omega
      · rintro as ρ O ⟨ms, m, x4, rfl, rfl, rfl, hl, _⟩
        exact ⟨ms, _, _, _, _, rfl, rfl, rfl, by rw [upto_len] at hl; show _ ≤ 60 * (i + 1); have : (12 : Int).toNat = 12 := rfl; omega⟩
  · rintro as ρ O ⟨ms, x2, x3, x4, x5, rfl, rfl, rfl, hl⟩
    refine s_ret (w_let 0 (w_rev (w_var rfl ⟨_, .inl (lo_o 0 rfl rfl), fun q => ?_⟩)))
    show k [q] (.adr q) [.lst (ms.map D.int).reverse]
    rw [← List.map_reverse]
    exact hk q _
/-- an int below m is drawn from the pool -/
def c__law_take (K : PySem.W.Frag) : Ct := fun L as ds O k e => ∃ (a : Addr) (m : Int) (ns : List Int), as = [a] ∧ ds = [.adr a, .int m] ∧ O = [.lst (ns.map D.int)] ∧ 0 < m ∧
  ∀ (r : Int) (ns' : List Int), 0 ≤ r → r < m → k [a] (.int r) [.lst (ns'.map D.int)]
theorem l__law_take {K : PySem.W.Frag} : ∀ L as ds O k e, c__law_take K L as ds O k e → ds.length = 2 := fun L as ds O k e h => by
  obtain ⟨a, m, ns, _, rfl, _⟩ := h
  rfl
set_option maxHeartbeats 4000000 in
theorem ok__law_take {P : Program} {w : World} {K : PySem.W.Frag} {mg : Str → Option Value} {base : Heap} (Z : Tx P w K mg) : FnOk P w K mg base (L2.CX P w) 1 (He.ga K "_law_take") (fdAt K ("_law_take", none)) ["_law_pool_here", "_law_many"] (spC (c__law_take K)) := by
  refine FunD.ok (k := 0) (F__law_take Z) sc__law_take (sp_len (n := 2) l__law_take) (fun cdv A outer s H vs Q E hr h => ⟨_, PSs.nox ((pss_cons (ps_if (pt_cmpR (op_eqD hr.units) (pv 0) (pe_lst pa_nil) (nomark _))
  (pss_one (ps_ret pe_int))
  pss_nil)
  (pss_one (ps_ret (pe_op op_mod (pe_callTy call_int1 (by rfl) (Z.free 12 rfl) PyProof.Rows.boot_int (pa_cons (pe_bm0 PySem.F.plainAttrs_list PySem.F.slot_list_pop PySem.F.type_list_pop mt_pop (pv 0)) pa_nil)) (pv 1)))))), enter h fun L as ds O k e c => ?_⟩)
  obtain ⟨a, m, ns, rfl, rfl, rfl, hm, hk⟩ := c
  refine s_seq (s_if (w_test (w_op (w_var rfl (w_lstF (w_nil ⟨Nat.zero_le _, rv_isNil 0 rfl rfl ⟨_, rfl, ?_⟩⟩))))))
  cases ns with
  | nil => exact s_ret (w_int (hk 0 [] (by omega) hm))
  | cons n r =>
    obtain ⟨v, hv⟩ : ∃ v, (((n :: r).map D.int))[((n :: r).map D.int).length - 1]? = some (.int v) := by
      rw [List.getElem?_map, List.length_map, List.getElem?_eq_getElem (by simp)]
      exact ⟨_, rfl⟩
    refine s_next (s_ret (w_op (w_cb (w_cons (w_bm0 a (w_var rfl ⟨rfl, ⟨0, _, rfl, rfl⟩, rfl, rc_pop 0 rfl rfl hv (w_nil (rc_int (w_var rfl (rv_i hm ?_))))⟩))))))
    have e : ((n :: r).map D.int).dropLast = (n :: r).dropLast.map D.int := (List.map_dropLast ..).symm
    show k [a] (.int (v % m)) [.lst ((n :: r).map D.int).dropLast]
    rw [e]
    exact hk _ _ (Int.emod_nonneg _ (by omega)) (Int.emod_lt_of_pos _ hm)
theorem call_take {K : PySem.W.Frag} {χ : Xk} {L as : List Addr} {ρ : DSt} {O : List D} {k : List Addr → D → List D → Prop} {j : Nat} {a : Addr} {ns : List Int} {m : Int} (ha : as[j]? = some a) (ho : O[j]? = some (.lst (ns.map D.int))) (hm : 0 < m)
    (hk : ∀ (r : Int) (ns' : List Int), 0 ≤ r → r < m → k as (.int r) (O.set j (.lst (ns'.map D.int)))) : cc (c__law_take K) χ ρ [j] L as [.adr a, .int m] O k := by
  obtain ⟨s1, s2, s3, s4, s5⟩ := sel1 ha ho
  refine ⟨s1, s2, ?_⟩
  rw [s3, s4]
  exact ⟨a, m, ns, rfl, rfl, rfl, hm, fun r ns' h1 h2 => by
    have := ck1 (O := O) s5 (hk r ns' h1 h2)
    rw [s3] at this
    exact this⟩
/-- a name that is not among the taken ones -/
def c__law_name (K : PySem.W.Frag) : Ct := fun L as ds O k e => ∃ (s m : Int) (d : D) (zs : List Str), ds = [.int s, .int m, d] ∧ lstOf as O d (zs.map D.str) ∧ zs.length ≤ 100 ∧ -1000 ≤ m ∧ m ≤ 1000 ∧
  ∀ nm : Str, MN.nameL (MN.tl nm) = true → nm.length ≤ 4 + zs.length → nm ∉ zs → k as (.str nm) O
theorem l__law_name {K : PySem.W.Frag} : ∀ L as ds O k e, c__law_name K L as ds O k e → ds.length = 3 := fun L as ds O k e h => by
  obtain ⟨s, m, d, zs, rfl, _⟩ := h
  rfl
set_option maxHeartbeats 4000000 in
theorem ok__law_name {P : Program} {w : World} {K : PySem.W.Frag} {mg : Str → Option Value} {base : Heap} (Z : Tx P w K mg) : FnOk P w K mg base (L2.CX P w) 1 (He.ga K "_law_name") (fdAt K ("_law_name", none)) ["_law_seed", "_law_k", "_law_taken"] (spC (c__law_name K)) := by
  refine FunD.ok (k := 0) (F__law_name Z) sc__law_name (sp_len (n := 3) l__law_name) (fun cdv A outer s H vs Q E hr h => ⟨_, PSs.nox ((pss_cons (ps_set (i := 3) sc__law_name.nd rfl (Or.inl rfl) pe_str)
  (pss_cons (ps_set (i := 4) sc__law_name.nd rfl (Or.inl rfl) (pe_op op_mod (pe_callTy call_int1 (by rfl) (Z.free 12 rfl) PyProof.Rows.boot_int (pa_cons (pe_op op_mul (pe_op op_mul (pe_op op_add (pv 0) pe_int) (pe_op op_add (pv 1) pe_int)) pe_int) pa_nil)) pe_int))
  (pss_cons (ps_set (i := 5) sc__law_name.nd rfl (Or.inl rfl) (pe_ix (r := rIxS) ix_str (pv 3) (pe_op op_mod (pv 4) pe_int) (fun _ _ => rfl)))
  (pss_cons (ps_for PassesOwn.never rfl (pi_range1 (by rfl) (Z.free 13 rfl) (pa_cons (pe_op op_mod (pe_op op_fdiv (pv 4) pe_int) pe_int) pa_nil)) (pg_name (i := 6) sc__law_name.nd rfl (Or.inl rfl))
  (pss_cons (ps_set (i := 4) sc__law_name.nd rfl (Or.inl rfl) (pe_op op_mod (pe_callTy call_int1 (by rfl) (Z.free 12 rfl) PyProof.Rows.boot_int (pa_cons (pe_op op_add (pe_op op_mul (pv 4) pe_int) pe_int) pa_nil)) pe_int))
  (pss_one (ps_set (i := 5) sc__law_name.nd rfl (Or.inl rfl) (pe_op op_add_str (pv 5) (pe_ix (r := rIxS) ix_str (pv 3) (pe_op op_mod (pe_op op_fdiv (pv 4) pe_int) pe_int) (fun _ _ => rfl)))))))
  (pss_cons (ps_for PassesOwn.never rfl (pi_range1 (by rfl) (Z.free 13 rfl) (pa_cons (pe_callB (r := fun xs H Q => ∃ x n, xs = [x] ∧ LenV K x H n ∧ Q (.int n) H) call_len (by rfl) (Z.free 15 rfl) PySem.boot_len (pa_cons (pv 2) pa_nil)) pa_nil)) (pg_name (i := 6) sc__law_name.nd rfl (Or.inl rfl))
  (pss_one (ps_if (pt_cmpR (r := rIn K false) op_in_seq (pv 5) (pv 2) (by rfl))
  (pss_one (ps_set (i := 5) sc__law_name.nd rfl (Or.inl rfl) (pe_op op_add_str (pv 5) pe_str)))
  pss_nil)))
  (pss_one (ps_ret (pv 5))))))))), enter h fun L as ds O k e c => ?_⟩)
  obtain ⟨sd, m, d, zs, rfl, hR, hz, hm1, hm2, hk⟩ := c
  k_subL
  refine rv_i (.inr ⟨by omega, by omega⟩) ?_
  k_subL
  refine rv_i (.inr ⟨by decide, by decide⟩) ?_
  k_subL
  refine rv_i (by decide) ?_
  have hx : 0 ≤ ((sd + 1) * (m + 5) * 48271) % 2147483647 ∧ ((sd + 1) * (m + 5) * 48271) % 2147483647 < 2147483647 := ⟨Int.emod_nonneg _ (by decide), Int.emod_lt_of_pos _ (by decide)⟩
  generalize ((sd + 1) * (m + 5) * 48271) % 2147483647 = x at hx
  k_subL
  refine rv_i (by decide) ?_
  obtain ⟨c0, h0, h1, h2⟩ := MN.let_at (n := x)
  refine rv_ixS (z := MN.alnS) (by decide +kernel) h0 ?_
  -- up to three signs more
  refine s_seq (s_for (i_range ?_))
  k_subL
  refine rv_i ⟨by decide, by decide⟩ ?_
  k_subL
  refine rv_i (by decide) ?_
  k_subL
  have hr : 0 ≤ x / 52 % 4 ∧ x / 52 % 4 < 4 := ⟨Int.emod_nonneg _ (by decide), Int.emod_lt_of_pos _ (by decide)⟩
  refine ⟨_, rfl, by omega, by omega, fun i as' ρ O' => ∃ (y : Int) (nm : Str) (x6 : Option D), as' = as ∧ O' = O ∧ ρ = [some (.int sd), some (.int m), some d, some (.str MN.alnS), some (.int y), some (.str nm), x6] ∧
    MN.nameL (MN.tl nm) = true ∧ nm.length = i + 1 ∧ 0 ≤ y ∧ y < 2147483647, ⟨x, _, none, rfl, rfl, rfl, ?_, rfl, hx⟩, ?_, ?_⟩
  · show (decide (c0 ∈ MN.tl MN.letS) && true) = true
    rw [h1]
    rfl
  · rintro i as' ρ O' c hc ⟨y, nm, x6, rfl, rfl, rfl, hn, hl, hy⟩
    obtain ⟨hi, rfl⟩ := upto_at hc
    k_subL
    refine rv_i (.inr ⟨by decide, by decide⟩) ?_
    k_subL
    refine rv_i (by decide) ?_
    have hv : 0 ≤ (y * 69621 + 1) % 2147483629 ∧ (y * 69621 + 1) % 2147483629 < 2147483629 := ⟨Int.emod_nonneg _ (by decide), Int.emod_lt_of_pos _ (by decide)⟩
    generalize (y * 69621 + 1) % 2147483629 = v at hv
    k_subL
    refine rv_i ⟨by decide, by decide⟩ ?_
    k_subL
    refine rv_i (by decide) ?_
    obtain ⟨c1, h3, h4, h5⟩ := MN.aln_at (n := v / 64) (m := 62) (by decide) (by decide)
    have hlen : (nm ++ (⟨#[c1]⟩ : Str)).length = i + 1 + 1 := by
      rw [MN.len_tl, MN.tl_app, List.length_append, ← MN.len_tl, hl]
      rfl
    refine rv_ixS (z := MN.alnS) (by decide +kernel) h3 (rv_addS (small ?_) ⟨v, _, _, rfl, rfl, rfl, ?_, hlen, by omega, by omega⟩)
    · show nm.length + 1 ≤ _
      omega
    · rw [MN.tl_app]
      refine MN.nameL_app hn ?_
      show (MN.okc c1 && true) = true
      rw [h4]
      rfl
  · rintro as' ρ O' ⟨y, nm, x6, rfl, rfl, rfl, hn, hl, hy⟩
    rw [upto_len] at hl
    -- longer while it is taken
    refine s_seq (s_for (i_range ?_))
    k_subL
    refine rc_len (n := zs.length) ?_ ?_
    · rcases hR with rfl | ⟨j, a, rfl, e1, e2⟩
      · exact (List.length_map ..).symm
      · exact ⟨j, _, e1, e2, (List.length_map ..).symm⟩
    k_subL
    refine ⟨_, rfl, by omega, by omega, fun i as2 ρ O2 => ∃ (n : Nat) (x6 : Option D), as2 = as' ∧ O2 = O' ∧ ρ = [some (.int sd), some (.int m), some d, some (.str MN.alnS), some (.int y), some (.str (nm ++ MN.exs n)), x6] ∧
      n ≤ i ∧ (nm ++ MN.exs n ∈ zs → n = i ∧ ∀ j, j ≤ i → nm ++ MN.exs j ∈ zs), ⟨0, x6, rfl, rfl, ?_, Nat.le_refl _, fun h => ⟨rfl, fun j hj => by rw [show j = 0 by omega]; exact h⟩⟩, ?_, ?_⟩
    · rw [MN.exs_zero]
    · rintro i as2 ρ O2 c hc ⟨n, x6, rfl, rfl, rfl, hni, hin⟩
      obtain ⟨hi, rfl⟩ := upto_at hc
      have hi : i < zs.length := by simpa using hi
      have len : ∀ q, (nm ++ MN.exs q).length = nm.length + q := fun q => by
        rw [MN.len_tl, MN.tl_app, List.length_append, ← MN.len_tl, MN.tl_exs, List.length_replicate]
      k_subL
      refine rv_inL (KK := K) (.inl hR) (b_dec (fun h => ?_) fun h => ?_)
      · obtain ⟨rfl, hall⟩ := hin h
        refine s_set (w_op (w_var rfl (w_str (rv_addS (small ?_) ?_))))
        · rw [len]
          show _ + 1 ≤ _
          omega
        rw [MN.exs_succ]
        refine ⟨n + 1, _, rfl, rfl, rfl, Nat.le_refl _, fun h' => ⟨rfl, fun j hj => ?_⟩⟩
        rcases Nat.lt_or_ge n j with z | z
        · rw [show j = n + 1 by omega]; exact h'
        · exact hall j z
      · exact s_next ⟨n, _, rfl, rfl, rfl, by omega, fun h' => absurd h' h⟩
    · rintro as2 ρ O2 ⟨n, x6, rfl, rfl, rfl, hni, hin⟩
      rw [upto_len] at hni hin
      have en : (zs.length : Int).toNat = zs.length := by omega
      rw [en] at hni hin
      refine s_ret (w_var rfl (hk _ ?_ ?_ fun h => ?_))
      · rw [MN.tl_app, MN.tl_exs]
        refine MN.nameL_app hn ?_
        rw [List.all_eq_true]
        intro c hc
        rw [(List.mem_replicate.mp hc).2]
        decide +kernel
      · rw [MN.len_tl, MN.tl_app, List.length_append, ← MN.len_tl, MN.tl_exs, List.length_replicate]
        omega
      · obtain ⟨_, hall⟩ := hin h
        have := MN.pigeon (f := fun j => nm ++ MN.exs j) (fun i j => MN.exs_inj nm) (zs.length + 1) zs fun j hj => hall j (by omega)
        omega
theorem call_name {K : PySem.W.Frag} {χ : Xk} {L as : List Addr} {ρ : DSt} {O : List D} {k : List Addr → D → List D → Prop} {s m : Int} {d : D} {zs : List Str} (hR : lstOf as O d (zs.map D.str)) (hz : zs.length ≤ 100) (h1 : -1000 ≤ m) (h2 : m ≤ 1000)
    (hk : ∀ nm : Str, MN.nameL (MN.tl nm) = true → nm.length ≤ 4 + zs.length → nm ∉ zs → k as (.str nm) O) : ∃ js, cc (c__law_name K) χ ρ js L as [.int s, .int m, d] O k := by
  rcases hR with rfl | ⟨j, a, rfl, ha, ho⟩
  · exact ⟨[], (no_js (as := as)).1, (no_js (as := as)).2, s, m, _, zs, rfl, .inl rfl, hz, h1, h2, fun nm g1 g2 g3 => ck0 (hk nm g1 g2 g3)⟩
  · obtain ⟨s1, s2, s3, s4, s5⟩ := sel1 ha ho
    refine ⟨[j], s1, s2, s, m, _, zs, rfl, ?_, hz, h1, h2, fun nm g1 g2 g3 => ?_⟩
    · rw [s3, s4]
      exact lo_o 0 rfl rfl
    · have e : O.set j (.lst (zs.map D.str)) = O := by
        apply List.ext_getElem?
        intro i
        by_cases z : j = i
        · subst z
          rw [List.getElem?_set_self (List.getElem?_eq_some_iff.mp ho).1, ho]
        · rw [List.getElem?_set_ne z]
      have := ck1 (O := O) s5 (c := .lst (zs.map D.str)) (by rw [e]; exact hk nm g1 g2 g3)
      rw [s3, s4]
      rw [s3] at this
      exact this
def c__law_parts (K : PySem.W.Frag) : Ct := fun L as ds O k e => ∃ (a : Addr) (s : Int) (nms : List Str) (b : Bool) (ns : List Int), as = [a] ∧ ds = [.adr a, .int s, .lst (nms.map D.str), .bl b] ∧ O = [.lst (ns.map D.int)] ∧ nms.length ≤ 50 ∧
  ∀ (ps : List MR.Part) (ns' : List Int), MR.Drawn nms b ps → k [a] (.tup (ps.map MR.dPart)) [.lst (ns'.map D.int)]
theorem l__law_parts {K : PySem.W.Frag} : ∀ L as ds O k e, c__law_parts K L as ds O k e → ds.length = 4 := fun L as ds O k e h => by
  obtain ⟨a, s, nms, b, ns, _, rfl, _⟩ := h
  rfl
set_option maxHeartbeats 4000000 in
theorem ok__law_parts {P : Program} {w : World} {K : PySem.W.Frag} {mg : Str → Option Value} {base : Heap} (Z : Tx P w K mg) : FnOk P w K mg base (L2.CX P w) 2 (He.ga K "_law_parts") (fdAt K ("_law_parts", none)) ["_law_pool_here", "_law_seed", "_law_names", "_law_base_here"] (spC (c__law_parts K)) := by
  refine FunD.ok (k := 1) (F__law_parts Z) sc__law_parts (sp_len (n := 4) l__law_parts) (fun cdv A outer s H vs Q E hr h => ⟨_, PSs.nox ((pss_cons (ps_set (i := 4) sc__law_parts.nd rfl (Or.inl rfl) (pe_lst pa_nil))
  (pss_cons (ps_set (i := 5) sc__law_parts.nd rfl (Or.inl rfl) (pe_lst pa_nil))
  (pss_cons (ps_set (i := 6) sc__law_parts.nd rfl (Or.inl rfl) pe_int)
  (pss_cons (ps_for PassesOwn.never rfl (pi_range1 (by rfl) (Z.free 13 rfl) (pa_cons (pe_op op_mod (pe_callTy call_int1 (by rfl) (Z.free 12 rfl) PyProof.Rows.boot_int (pa_cons (pe_op op_add pe_int (pe_call (ok__law_take Z) (hr.mono (by decide)) (by rfl) (Z.glo 9 rfl) (Z.kp 6 rfl) (b__law_take Z) .nil passN (pa_cons (pv 0) (pa_cons pe_int pa_nil)))) pa_nil)) pe_int) pa_nil)) (pg_name (i := 7) sc__law_parts.nd rfl (Or.inl rfl))
  (pss_cons (ps_expr (pe_bm PySem.F.plainAttrs_list PySem.F.slot_list_append PySem.F.type_list_append mt_append (pv 5) (pa_cons (pe_call (ok__law_name Z) (hr.mono (by decide)) (by rfl) (Z.glo 14 rfl) (Z.kp 9 rfl) (b__law_name Z) .nil passN (pa_cons (pv 1) (pa_cons (pv 7) (pa_cons (pv 5) pa_nil)))) pa_nil)))
  (pss_cons (ps_set (i := 8) sc__law_parts.nd rfl (Or.inl rfl) (pe_call (ok__law_take Z) (hr.mono (by decide)) (by rfl) (Z.glo 9 rfl) (Z.kp 6 rfl) (b__law_take Z) .nil passN (pa_cons (pv 0) (pa_cons (pe_op op_add (pe_callB (r := fun xs H Q => ∃ x n, xs = [x] ∧ LenV K x H n ∧ Q (.int n) H) call_len (by rfl) (Z.free 15 rfl) PySem.boot_len (pa_cons (pv 2) pa_nil)) pe_int) pa_nil))))
  (pss_cons (ps_set (i := 9) sc__law_parts.nd rfl (Or.inl rfl) (pe_op op_add pe_int (pe_call (ok__law_take Z) (hr.mono (by decide)) (by rfl) (Z.glo 9 rfl) (Z.kp 6 rfl) (b__law_take Z) .nil passN (pa_cons (pv 0) (pa_cons (pe_ix (r := rIxL K) ix_list (pe_lst (pa_cons pe_int (pa_cons pe_int pa_nil))) (pe_call (ok__law_take Z) (hr.mono (by decide)) (by rfl) (Z.glo 9 rfl) (Z.kp 6 rfl) (b__law_take Z) .nil passN (pa_cons (pv 0) (pa_cons pe_int pa_nil))) (fun _ _ => rfl)) pa_nil)))))
  (pss_one (ps_if (PW.pt (pw_or (pt_cmpR op_eq (pv 8) (pe_callB (r := fun xs H Q => ∃ x n, xs = [x] ∧ LenV K x H n ∧ Q (.int n) H) call_len (by rfl) (Z.free 15 rfl) PySem.boot_len (pa_cons (pv 2) pa_nil)) (nomark _)) (pw_or1 (PW.pt (pw_and (pt_val (pv 3)) (pw_and1 (pt_cmpR op_eq (pv 6) pe_int (nomark _))))))))
  (pss_one (ps_expr (pe_bm PySem.F.plainAttrs_list PySem.F.slot_list_append PySem.F.type_list_append mt_append (pv 4) (pa_cons (pe_tup (pa_cons (pe_ix (r := rIxL K) ix_list (pv 5) (pv 7) (fun _ _ => rfl)) (pa_cons pe_str pa_nil))) pa_nil))))
  (pss_cons (ps_set (i := 6) sc__law_parts.nd rfl (Or.inl rfl) (pe_op op_add (pv 6) pe_int))
  (pss_one (ps_expr (pe_bm PySem.F.plainAttrs_list PySem.F.slot_list_append PySem.F.type_list_append mt_append (pv 4) (pa_cons (pe_tup (pa_cons (pe_ix (r := rIxL K) ix_list (pv 5) (pv 7) (fun _ _ => rfl)) (pa_cons (pe_ix (r := rIxL K) ix_list (pv 2) (pv 8) (fun _ _ => rfl)) (pa_cons (pv 9) pa_nil)))) pa_nil)))))))))))
  (pss_one (ps_ret (pe_callTy call_tuple_of (by rfl) (Z.free 17 rfl) PyProof.Rows.boot_tuple (pa_cons (pv 4) pa_nil))))))))), enter h fun L as ds O k e c => ?_⟩)
  obtain ⟨a, sd, nms, b, ns, rfl, rfl, rfl, hn, hk⟩ := c
  refine s_seq (s_set (w_lst (w_nil ⟨Nat.zero_le _, fun pp => ?_⟩)))
  refine s_seq (s_set (w_lst (w_nil ⟨Nat.zero_le _, fun tt => ?_⟩)))
  k_subL
  refine s_for (i_range ?_)
  k_subL
  refine d_call [0] ?_
  k_subL
  refine call_take rfl rfl (by decide) fun r ns1 h1 h2 => ?_
  k_subL
  refine rv_i (by decide) ?_
  k_subL
  have hr : 0 ≤ (2 + r) % 5 ∧ (2 + r) % 5 < 5 := ⟨Int.emod_nonneg _ (by decide), Int.emod_lt_of_pos _ (by decide)⟩
  refine ⟨_, rfl, by omega, by omega, fun i as ρ O => ∃ (ns : List Int) (ps : List MR.Part) (x7 x8 x9 : Option D), as = [a, pp, tt] ∧
    ρ = [some (.adr a), some (.int sd), some (.lst (nms.map D.str)), some (.bl b), some (.adr pp), some (.adr tt), some (.int (MR.trees ps : Nat)), x7, x8, x9] ∧
    O = [.lst (ns.map D.int), .lst (ps.map MR.dPart), .lst ((ps.map (·.nm)).map D.str)] ∧ ps.length = i ∧ MR.Drawn nms b ps, ⟨ns1, [], none, none, none, rfl, rfl, rfl, rfl, MR.Drawn.nil⟩, ?_, ?_⟩
  · rintro i as ρ O c hc ⟨ns, ps, x7, x8, x9, rfl, rfl, rfl, hl, hd⟩
    obtain ⟨hi, rfl⟩ := upto_at hc
    have hi : i < 4 := by omega
    k_subL
    -- a name
    refine w_append 2 rfl rfl rfl ?_
    refine d_callE ?_
    k_subL
    refine call_name (zs := ps.map (·.nm)) (lo_o 2 rfl rfl) (by rw [List.length_map]; omega) (by omega) (by omega) fun nm g1 g2 g3 => ?_
    refine ⟨_, rfl, rfl, smallt (by simp; omega), ?_⟩
    -- which kind
    k_subL
    refine d_call [0] ?_
    k_subL
    refine rc_len (n := nms.length) (List.length_map ..).symm ?_
    k_subL
    refine call_take rfl rfl (by omega) fun pick ns2 p1 p2 => ?_
    k_subL
    refine d_call [0] ?_
    k_subL
    refine w_lstF ?_
    k_subL
    refine ⟨by decide, ?_⟩
    refine d_call [0] ?_
    k_subL
    refine call_take rfl rfl (by decide) fun q ns3 q1 q2 => ?_
    have hq : ∃ m : Int, atI [D.int 4, D.int 1000] q = some (.int m) ∧ 0 < m ∧ m ≤ 1000 := by
      have : q = 0 ∨ q = 1 := by omega
      rcases this with rfl | rfl
      · exact ⟨4, rfl, by decide, by decide⟩
      · exact ⟨1000, rfl, by decide, by decide⟩
    obtain ⟨mm, em, m1, m2⟩ := hq
    refine rv_ixL em ?_
    k_subL
    refine call_take rfl rfl m1 fun pr ns4 r1 r2 => ?_
    k_subL
    -- a byte part or a tree part
    have hnm : nm.length ≤ 8 := by have := g2; rw [List.length_map] at this; omega
    have hat : ((ps.map (·.nm)).map D.str ++ [D.str nm])[i]? = some (D.str nm) := by
      rw [List.getElem?_append_right (by simp; omega)]
      simp [hl]
    have hat' : atI ((ps.map (·.nm)).map D.str ++ [D.str nm]) (i : Nat) = some (D.str nm) := atI_nat hat
    refine dW.imp (k := fun as' b' O' => as' = [a, pp, tt] ∧ O' = [D.lst (ns4.map D.int), D.lst (ps.map MR.dPart), D.lst ((ps.map (·.nm)).map D.str ++ [D.str nm])] ∧ b' = (decide (pick = nms.length) || (b && decide (MR.trees ps = 2)))) ?_ ?_
    · refine w_or ?_
      k_subL
      refine rc_len (n := nms.length) (List.length_map ..).symm ?_
      refine rv_eq rfl ?_
      refine ⟨_, rfl, ?_⟩
      show if (pick == (nms.length : Int)) = true then _ else _
      rw [show (pick == (nms.length : Int)) = decide (pick = nms.length) from rfl]
      refine i_dec (fun e => ⟨rfl, rfl, by rw [decide_eq_true e]; rfl⟩) fun e => ?_
      refine w_and ?_
      k_subL
      refine ⟨_, rfl, ?_⟩
      cases b with
      | false => exact ⟨rfl, rfl, by rw [decide_eq_false e]; rfl⟩
      | true =>
        rw [if_pos rfl]
        k_subL
        refine rv_eq rfl ?_
        refine ⟨_, rfl, rfl, rfl, ?_⟩
        rw [decide_eq_false e]
        show ((MR.trees ps : Int) == 2) = decide (MR.trees ps = 2)
        rw [Bool.eq_iff_iff, beq_iff_eq, decide_eq_true_eq]
        omega
    · rintro _ c _ ⟨rfl, rfl, rfl⟩
      refine i_bl (fun hb => ?_) fun hb => ?_
      · k_subL
        refine w_append 1 rfl rfl rfl ?_
        refine w_tup ?_
        k_subL
        refine rv_ixO 2 rfl rfl hat' ?_
        k_subL
        refine ⟨small (n := 2) (by decide), _, rfl, rfl, smallt (by rw [List.length_map]; omega), ?_⟩
        refine ⟨ns4, ps ++ [⟨nm, MR.byteS, none⟩], _, _, _, rfl, by rw [MR.trees_app]; rfl, by simp [MR.dPart]; rfl, by simp [hl], hd.snoc (by omega) g1 hnm g3 (.inl ⟨rfl, rfl⟩) fun _ z => by cases z⟩
      · simp only [Bool.or_eq_false_iff, decide_eq_false_iff_not, Bool.and_eq_false_iff] at hb
        obtain ⟨n, en⟩ : ∃ n : Nat, pick = n := ⟨pick.toNat, by omega⟩
        subst en
        have hlt : n < nms.length := by have := hb.1; omega
        have hin : atI (nms.map D.str) (n : Int) = some (.str nms[n]) := atI_nat (by rw [List.getElem?_map, List.getElem?_eq_getElem hlt]; rfl)
        k_subL
        refine w_append 1 rfl rfl rfl ?_
        refine w_tup ?_
        k_subL
        refine rv_ixO 2 rfl rfl hat' ?_
        k_subL
        refine rv_ixL hin ?_
        k_subL
        refine ⟨small (n := 3) (by decide), _, rfl, rfl, smallt (by rw [List.length_map]; omega), ?_⟩
        have few : b = true → (some (1 + pr)).isSome = true → MR.trees ps < 2 := fun e _ => by
          have h2 := hd.few e
          rcases hb.2 with z | z
          · rw [e] at z; cases z
          · omega
        refine ⟨ns4, ps ++ [⟨nm, nms[n], some (1 + pr)⟩], _, _, _, rfl, by rw [MR.trees_app]; rfl, by simp [MR.dPart], by simp [hl], hd.snoc (by omega) g1 hnm g3 (.inr ⟨List.getElem_mem hlt, _, rfl, by omega, by omega⟩) few⟩
  · rintro as ρ O ⟨ns, ps, x7, x8, x9, rfl, rfl, rfl, hl, hd⟩
    refine s_ret (w_let 1 (w_let 1 ?_))
    k_subL
    refine rc_tupL (ds := ps.map MR.dPart) (.inl (lo_o 1 rfl rfl)) ?_
    exact hk ps ns hd
theorem call_parts {K : PySem.W.Frag} {χ : Xk} {L as : List Addr} {ρ : DSt} {O : List D} {k : List Addr → D → List D → Prop} {j : Nat} {a : Addr} {ns : List Int} {s : Int} {nms : List Str} {b : Bool} (ha : as[j]? = some a) (ho : O[j]? = some (.lst (ns.map D.int))) (hn : nms.length ≤ 50)
    (hk : ∀ (ps : List MR.Part) (ns' : List Int), MR.Drawn nms b ps → k as (.tup (ps.map MR.dPart)) (O.set j (.lst (ns'.map D.int)))) : cc (c__law_parts K) χ ρ [j] L as [.adr a, .int s, .lst (nms.map D.str), .bl b] O k := by
  obtain ⟨s1, s2, s3, s4, s5⟩ := sel1 ha ho
  refine ⟨s1, s2, ?_⟩
  rw [s3, s4]
  exact ⟨a, s, nms, b, ns, rfl, rfl, rfl, hn, fun ps ns' h => by
    have := ck1 (O := O) s5 (hk ps ns' h)
    rw [s3] at this
    exact this⟩
def c__law_rows (K : PySem.W.Frag) : Ct := fun L as ds O k e => ∃ (a : Addr) (ns : List Int), as = [a] ∧ ds = [.adr a] ∧ O = [.lst (ns.map D.int)] ∧
  ∀ (nms : List Str) (rows : List MR.Row) (ns' : List Int), MR.Table nms rows → (rows.length ≤ 9 ∧ ∀ r ∈ rows, r.maker.length ≤ 14) → k [a] (.lst (rows.map MR.dRow)) [.lst (ns'.map D.int)]
theorem l__law_rows {K : PySem.W.Frag} : ∀ L as ds O k e, c__law_rows K L as ds O k e → ds.length = 1 := fun L as ds O k e h => by
  obtain ⟨a, ns, _, rfl, _⟩ := h
  rfl
set_option maxHeartbeats 4000000 in
theorem ok__law_rows {P : Program} {w : World} {K : PySem.W.Frag} {mg : Str → Option Value} {base : Heap} (Z : Tx P w K mg) : FnOk P w K mg base (L2.CX P w) 3 (He.ga K "_law_rows") (fdAt K ("_law_rows", none)) ["_law_pool_here"] (spC (c__law_rows K)) := by
  refine FunD.ok (k := 2) (F__law_rows Z) sc__law_rows (sp_len (n := 1) l__law_rows) (fun cdv A outer s H vs Q E hr h => ⟨_, PSs.nox ((pss_cons (ps_set (i := 1) sc__law_rows.nd rfl (Or.inl rfl) (pe_call (ok__law_take Z) (hr.mono (by decide)) (by rfl) (Z.glo 9 rfl) (Z.kp 6 rfl) (b__law_take Z) .nil passN (pa_cons (pv 0) (pa_cons pe_int pa_nil))))
  (pss_cons (ps_set (i := 2) sc__law_rows.nd rfl (Or.inl rfl) (pe_lst pa_nil))
  (pss_cons (ps_for PassesOwn.never rfl (pi_range1 (by rfl) (Z.free 13 rfl) (pa_cons (pe_op op_add pe_int (pe_call (ok__law_take Z) (hr.mono (by decide)) (by rfl) (Z.glo 9 rfl) (Z.kp 6 rfl) (b__law_take Z) .nil passN (pa_cons (pv 0) (pa_cons pe_int pa_nil)))) pa_nil)) (pg_name (i := 3) sc__law_rows.nd rfl (Or.inl rfl))
  (pss_one (ps_expr (pe_bm PySem.F.plainAttrs_list PySem.F.slot_list_append PySem.F.type_list_append mt_append (pv 2) (pa_cons (pe_call (ok__law_name Z) (hr.mono (by decide)) (by rfl) (Z.glo 14 rfl) (Z.kp 9 rfl) (b__law_name Z) .nil passN (pa_cons (pv 1) (pa_cons (pv 3) (pa_cons (pe_op op_cat (pe_lst (pa_cons pe_str pa_nil)) (pv 2)) pa_nil)))) pa_nil)))))
  (pss_cons (ps_set (i := 4) sc__law_rows.nd rfl (Or.inl rfl) (pe_lst pa_nil))
  (pss_cons (ps_for PassesOwn.never rfl (pi_range1 (by rfl) (Z.free 13 rfl) (pa_cons (pe_callB (r := fun xs H Q => ∃ x n, xs = [x] ∧ LenV K x H n ∧ Q (.int n) H) call_len (by rfl) (Z.free 15 rfl) PySem.boot_len (pa_cons (pv 2) pa_nil)) pa_nil)) (pg_name (i := 3) sc__law_rows.nd rfl (Or.inl rfl))
  (pss_cons (ps_set (i := 6) sc__law_rows.nd rfl (Or.inl rfl) (pe_op op_add pe_int (pe_op op_mod (pe_callTy call_int1 (by rfl) (Z.free 12 rfl) PyProof.Rows.boot_int (pa_cons (pe_op op_add pe_int (pe_call (ok__law_take Z) (hr.mono (by decide)) (by rfl) (Z.glo 9 rfl) (Z.kp 6 rfl) (b__law_take Z) .nil passN (pa_cons (pv 0) (pa_cons pe_int pa_nil)))) pa_nil)) pe_int)))
  (pss_cons (ps_set (i := 7) sc__law_rows.nd rfl (Or.inl rfl) (pe_call (ok__law_take Z) (hr.mono (by decide)) (by rfl) (Z.glo 9 rfl) (Z.kp 6 rfl) (b__law_take Z) .nil passN (pa_cons (pv 0) (pa_cons (pv 6) pa_nil))))
  (pss_one (ps_for PassesOwn.never rfl (pi_range1 (by rfl) (Z.free 13 rfl) (pa_cons (pv 6) pa_nil)) (pg_name (i := 8) sc__law_rows.nd rfl (Or.inl rfl))
  (pss_cons (ps_set (i := 9) sc__law_rows.nd rfl (Or.inl rfl) (pe_call (ok__law_name Z) (hr.mono (by decide)) (by rfl) (Z.glo 14 rfl) (Z.kp 9 rfl) (b__law_name Z) .nil passN (pa_cons (pe_op op_fdiv (pv 1) pe_int) (pa_cons (pe_callB (r := fun xs H Q => ∃ x n, xs = [x] ∧ LenV K x H n ∧ Q (.int n) H) call_len (by rfl) (Z.free 15 rfl) PySem.boot_len (pa_cons (pv 4) pa_nil)) (pa_cons (pe_lc rfl sc__law_rows.nd (pi_list (pv 4)) (blkOk_by (own := [("_law_row", 11)]) (N := N__law_rows) (sc := defScope s__law_rows) (by decide +kernel)) (fun _ _ _ _ _ => (pg_name (i := 11) sc__law_rows.nd rfl (by first | exact Or.inl rfl | exact Or.inr rfl))) (fun _ _ _ _ _ => pts_nil) (fun _ _ _ _ _ => (pe_ix (r := rIxT K) ix_tup (pv 11) pe_int (fun _ _ => rfl)))) pa_nil)))))
  (pss_cons (ps_set (i := 10) sc__law_rows.nd rfl (Or.inl rfl) (pv 2))
  (pss_cons (ps_if (pt_cmpR op_eq (pv 8) (pv 7) (nomark _))
  (pss_one (ps_set (i := 10) sc__law_rows.nd rfl (Or.inl rfl) (pe_slice sl_list (pv 2) (po_some (pe_op op_add (pv 3) pe_int)) po_none)))
  pss_nil)
  (pss_one (ps_expr (pe_bm PySem.F.plainAttrs_list PySem.F.slot_list_append PySem.F.type_list_append mt_append (pv 4) (pa_cons (pe_tup (pa_cons (pe_ix (r := rIxL K) ix_list (pv 2) (pv 3) (fun _ _ => rfl)) (pa_cons (pv 9) (pa_cons (pe_call (ok__law_parts Z) (hr.mono (by decide)) (by rfl) (Z.glo 16 rfl) (Z.kp 10 rfl) (b__law_parts Z) .nil passN (pa_cons (pv 0) (pa_cons (pe_op op_add (pe_op op_fdiv (pv 1) pe_int) (pe_op op_fdiv (pe_callB (r := fun xs H Q => ∃ x n, xs = [x] ∧ LenV K x H n ∧ Q (.int n) H) call_len (by rfl) (Z.free 15 rfl) PySem.boot_len (pa_cons (pv 4) pa_nil)) pe_int)) (pa_cons (pv 10) (pa_cons (pe_cmpR op_eq (pv 8) (pv 7) (nomark _)) pa_nil))))) pa_nil)))) pa_nil))))))))))))
  (pss_cons (ps_set (i := 5) sc__law_rows.nd rfl (Or.inl rfl) (pe_call (ok__law_take Z) (hr.mono (by decide)) (by rfl) (Z.glo 9 rfl) (Z.kp 6 rfl) (b__law_take Z) .nil passN (pa_cons (pv 0) (pa_cons (pe_callB (r := fun xs H Q => ∃ x n, xs = [x] ∧ LenV K x H n ∧ Q (.int n) H) call_len (by rfl) (Z.free 15 rfl) PySem.boot_len (pa_cons (pv 4) pa_nil)) pa_nil))))
  (pss_one (ps_ret (pe_op op_cat (pe_slice sl_list (pv 4) (po_some (pv 5)) po_none) (pe_slice sl_list (pv 4) po_none (po_some (pv 5))))))))))))), enter h fun L as ds O k e c => ?_⟩)
  obtain ⟨a, ns, rfl, rfl, rfl, hk⟩ := c
  k_subL
  refine d_call [0] ?_
  k_subL
  refine call_take rfl rfl (by decide) fun sd ns1 s1 s2 => ?_
  refine s_seq (s_set (w_lst (w_nil ⟨Nat.zero_le _, fun nn => ?_⟩)))
  k_subL
  -- the names of kinds
  refine s_for (i_range ?_)
  k_subL
  refine d_call [0] ?_
  k_subL
  refine call_take rfl rfl (by decide) fun r ns2 r1 r2 => ?_
  k_subL
  refine ⟨_, rfl, by omega, by omega, fun i as ρ O => ∃ (ns : List Int) (nms : List Str) (x3 : Option D), as = [a, nn] ∧
    ρ = [some (.adr a), some (.int sd), some (.adr nn), x3, none, none, none, none, none, none, none, none] ∧
    O = [.lst (ns.map D.int), .lst (nms.map D.str)] ∧ nms.length = i ∧ MR.Names nms, ⟨ns2, [], none, rfl, rfl, rfl, rfl, ⟨by simp, by simp, by simp⟩⟩, ?_, ?_⟩
  · rintro i as ρ O c hc ⟨ns, nms, x3, rfl, rfl, rfl, hl, hN⟩
    obtain ⟨hi, rfl⟩ := upto_at hc
    have hi : i < 3 := by omega
    k_subL
    refine w_let 2 (w_append 1 rfl rfl rfl ?_)
    refine d_callE ?_
    k_subL
    refine w_lstF ?_
    k_subL
    refine ⟨small (n := 1) (by decide), ?_⟩
    k_subL
    refine rv_cat (ds := [.str MR.byteS]) (es := nms.map D.str) lo_f (lo_o 1 rfl rfl) (small (by simp; omega)) fun p => ?_
    k_subL
    refine call_name (zs := MR.byteS :: nms) (lo_o 2 rfl rfl) (by simp; omega) (by omega) (by omega) fun nm g1 g2 g3 => ?_
    refine ⟨_, rfl, rfl, smallt (by simp; omega), ?_⟩
    have g2 : nm.length ≤ 4 + (nms.length + 1) := g2
    refine ⟨ns, nms ++ [nm], _, rfl, rfl, by simp, by simp [hl], ?_, ?_, ?_⟩
    · rw [List.nodup_append]
      refine ⟨hN.nd, by simp, fun x m y m' z => ?_⟩
      simp at m'
      subst m'; subst z
      exact g3 (List.mem_cons_of_mem _ m)
    · intro z m
      rcases List.mem_append.mp m with m | m
      · exact hN.name z m
      · simp at m; subst m; exact ⟨g1, by omega⟩
    · intro m
      rcases List.mem_append.mp m with m | m
      · exact hN.byte m
      · simp at m; exact g3 (m ▸ List.mem_cons_self)
  · rintro as ρ O ⟨ns, nms, x3, rfl, rfl, rfl, hl, hN⟩
    rw [upto_len] at hl
    have hl1 : 1 ≤ nms.length := by omega
    have hl3 : nms.length ≤ 3 := by omega
    refine s_freeze 1 nn (.lst (nms.map D.str)) 2 rfl rfl rfl ?_
    refine s_seq (s_set (w_lst (w_nil ⟨Nat.zero_le _, fun rr => ?_⟩)))
    k_subL
    refine s_for (i_range ?_)
    k_subL
    refine rc_len (n := nms.length) (List.length_map ..).symm ?_
    k_subL
    refine ⟨_, rfl, by omega, by omega, fun i as ρ O => ∃ (ns : List Int) (rows : List MR.Row) (x3 x6 x7 x8 x9 x10 x11 : Option D), as = [a, rr] ∧
      ρ = [some (.adr a), some (.int sd), some (.lst (nms.map D.str)), x3, some (.adr rr), none, x6, x7, x8, x9, x10, x11] ∧
      O = [.lst (ns.map D.int), .lst (rows.map MR.dRow)] ∧ MR.Some_ nms (3 * i) rows ∧ (∀ k, k < i → MR.Base nms rows k) ∧ (1 ≤ i → rows ≠ []), ⟨ns, [], x3, none, none, none, none, none, none, rfl, rfl, rfl, MR.Some_.nil, fun k z => by omega, fun z => by omega⟩, ?_, ?_⟩
    · rintro i as ρ O c hc ⟨ns, rows, x3, x6, x7, x8, x9, x10, x11, rfl, rfl, rfl, hS, hB, hne⟩
      obtain ⟨hi, rfl⟩ := upto_at hc
      have hi : i < nms.length := by omega
      k_subL
      refine d_call [0] ?_
      k_subL
      refine call_take rfl rfl (by decide) fun r ns1 r1 r2 => ?_
      k_subL
      refine rv_i (by decide) ?_
      have hc : 1 ≤ 1 + (1 + r) % 3 ∧ 1 + (1 + r) % 3 ≤ 3 := by
        have := Int.emod_nonneg (1 + r) (show (3 : Int) ≠ 0 by decide)
        have := Int.emod_lt_of_pos (1 + r) (show (0 : Int) < 3 by decide)
        omega
      generalize hcc : 1 + (1 + r) % 3 = cnt at hc
      k_subL
      rw [hcc]
      refine d_call [0] ?_
      k_subL
      refine call_take rfl rfl (by omega) fun bs ns2 b1 b2 => ?_
      k_subL
      refine s_for (i_range ?_)
      k_subL
      refine ⟨_, rfl, by omega, by omega, fun j as ρ O => ∃ (ns : List Int) (rows : List MR.Row) (x8 x9 x10 x11 : Option D), as = [a, rr] ∧
        ρ = [some (.adr a), some (.int sd), some (.lst (nms.map D.str)), some (.int (i : Nat)), some (.adr rr), none, some (.int cnt), some (.int bs), x8, x9, x10, x11] ∧
        O = [.lst (ns.map D.int), .lst (rows.map MR.dRow)] ∧ MR.Some_ nms (3 * i + j) rows ∧ (∀ k, k < i → MR.Base nms rows k) ∧ (bs < (j : Nat) → MR.Base nms rows i) ∧ (1 ≤ j → rows ≠ []), ⟨ns2, rows, x8, x9, x10, x11, rfl, rfl, rfl, hS, hB, fun z => by omega, fun z => by omega⟩, ?_, ?_⟩
      · rintro j as ρ O c hc' ⟨ns, rows, x8, x9, x10, x11, rfl, rfl, rfl, hS, hB, hb, hne⟩
        obtain ⟨hj, rfl⟩ := upto_at hc'
        have hj : j < cnt.toNat := by simpa using hj
        have hr9 : rows.length ≤ 8 := by have := hS.len; omega
        k_subL
        refine d_callE ?_
        k_subL
        refine rv_i ⟨by decide, by decide⟩ ?_
        k_subL
        refine rc_len (n := rows.length) ⟨1, _, rfl, rfl, (List.length_map ..).symm⟩ ?_
        k_subL
        refine w_lend 1 4 rr (rows.map MR.dRow) rfl rfl rfl (w_known (w_map (wg_name (by decide)) (i_listF (w_var rfl ⟨_, .inr (.inl rfl), rows, MR.dRow, fun r => .str r.maker, rfl, smallt (by omega), fun r m => ?_, fun q => ?_⟩))))
        · exact g_name ⟨rfl, rfl, w_op (w_var rfl (w_int (rv_ixT rfl ⟨rfl, rfl, rfl⟩)))⟩
        refine ⟨q, _, _, _, rfl, rfl, rfl, .lst (czs_of fun d m => ?_), fun c m => ?_, ?_⟩
        · obtain ⟨r, _, rfl⟩ := List.mem_map.mp m
          exact .str _
        · simp at m
          subst m
          exact .lst (czs_of fun d m => by obtain ⟨r, _, rfl⟩ := List.mem_map.mp m; exact .int _)
        k_subL
        refine call_name (zs := rows.map (·.maker)) (.inl (by rw [List.map_map]; rfl)) (by rw [List.length_map]; omega) (by omega) (by omega) fun mk g1 g2 g3 => ?_
        rw [List.length_map] at g2
        refine s_seq (s_set (w_var rfl ?_))
        -- the kinds within
        refine s_mid (N := fun as ρ O => ∃ inn : List Str, as = [a, rr] ∧ ρ = [some (.adr a), some (.int sd), some (.lst (nms.map D.str)), some (.int (i : Nat)), some (.adr rr), none, some (.int cnt), some (.int bs), some (.int (j : Nat)), some (.str mk), some (.lst (inn.map D.str)), x11] ∧
          O = [.lst (ns.map D.int), .lst (rows.map MR.dRow)] ∧ inn.length ≤ 50 ∧ (∀ x ∈ inn, x ∈ nms) ∧ ((j : Int) = bs → inn = nms.drop (i + 1))) ?_ ?_
        · k_subL
          refine rv_eq rfl ?_
          refine ⟨_, rfl, ?_⟩
          show if ((j : Int) == bs) = true then _ else _
          rw [show ((j : Int) == bs) = decide ((j : Int) = bs) from rfl]
          refine i_dec (fun e => ?_) fun e => ?_
          · refine s_set (w_known (w_sl ?_))
            k_subL
            refine o_some ?_
            k_subL
            refine ⟨_, rfl, ?_⟩
            refine o_none (rs_list (ds := nms.map D.str) (.inl lo_f) fun q => ?_)
            refine ⟨q, [a, rr], _, _, rfl, rfl, rfl, ?_⟩
            have ec : DL.cutD (nms.map D.str) (some ((i : Nat) + 1)) none = (nms.drop (i + 1)).map D.str := by
              have e1 : HT.sIx (nms.map D.str).length 0 (some (((i : Nat) : Int) + 1)) = i + 1 := by
                rw [show (((i : Nat) : Int) + 1) = ((i + 1 : Nat) : Int) by omega, HT.sIx_nat, List.length_map]
                omega
              unfold DL.cutD
              rw [e1, HT.sIx_none, ← List.map_drop, List.take_of_length_le (by rw [List.length_map, List.length_drop, List.length_map]; omega)]
            refine ⟨nms.drop (i + 1), rfl, by rw [ec]; rfl, rfl, by rw [List.length_drop]; omega, fun x m => List.mem_of_mem_drop m, fun _ => rfl⟩
          · exact s_next ⟨nms, rfl, rfl, rfl, by omega, fun x m => m, fun z => absurd z e⟩
        · rintro as ρ O ⟨inn, rfl, rfl, rfl, hin, hsub, hbs⟩
          k_subL
          refine w_append 1 rfl rfl rfl ?_
          refine w_tup ?_
          k_subL
          refine rv_ixL (d := .str nms[i]) (atI_nat (by rw [List.getElem?_map, List.getElem?_eq_getElem hi]; rfl)) ?_
          k_subL
          refine d_call [0] ?_
          k_subL
          refine rv_i ⟨by decide, by decide⟩ ?_
          k_subL
          refine rc_len (n := rows.length) ⟨1, _, rfl, rfl, (List.length_map ..).symm⟩ ?_
          k_subL
          refine rv_i ⟨by decide, by decide⟩ ?_
          k_subL
          refine rv_eq rfl ?_
          k_subL
          refine call_parts rfl rfl hin fun ps ns3 hd => ?_
          k_subL
          refine ⟨small (n := 3) (by decide), _, rfl, rfl, smallt (by rw [List.length_map]; omega), ?_⟩
          have nw : MR.Some_ nms (3 * i + j + 1) (rows ++ [⟨nms[i], mk, ps⟩]) := hS.snoc ⟨g1, by show mk.length ≤ 14; omega⟩ g3 (List.getElem_mem hi) ⟨_, hd.wide hsub⟩
          refine ⟨ns3, rows ++ [⟨nms[i], mk, ps⟩], _, _, _, _, rfl, rfl, by simp [MR.dRow], nw, fun k hk => (hB k hk).more _, fun z => ?_, fun _ => by simp⟩
          by_cases e : bs < (j : Nat)
          · exact (hb e).more _
          · refine ⟨_, List.mem_append_right _ (List.mem_singleton_self _), List.getElem?_eq_getElem hi, fun p m => ?_⟩
            rcases hd.ok p m with ⟨e1, _⟩ | ⟨e1, _⟩
            · exact .inl e1
            · exact .inr (hbs (by omega) ▸ e1)
      · rintro as ρ O ⟨ns, rows, x8, x9, x10, x11, rfl, rfl, rfl, hS, hB, hb, hne⟩
        rw [upto_len] at hS hb hne
        refine ⟨ns, rows, _, _, _, _, _, _, _, rfl, rfl, rfl, hS.le (by omega), fun k hk => ?_, fun _ => hne (by omega)⟩
        by_cases e : k < i
        · exact hB k e
        · have : k = i := by omega
          subst this
          exact hb (by omega)
    · rintro as ρ O ⟨ns, rows, x3, x6, x7, x8, x9, x10, x11, rfl, rfl, rfl, hS, hB, hne⟩
      rw [upto_len] at hS hB hne
      have en : ((nms.length : Nat) : Int).toNat = nms.length := by omega
      rw [en] at hS hB hne
      have hr : 1 ≤ rows.length := by
        have := hne hl1
        cases rows with
        | nil => exact absurd rfl this
        | cons x y => show 1 ≤ y.length + 1; omega
      have hr9 : rows.length ≤ 9 := by have := hS.len; omega
      refine s_freeze 1 rr (.lst (rows.map MR.dRow)) 4 rfl rfl rfl ?_
      k_subL
      refine d_call [0] ?_
      k_subL
      refine rc_len (n := rows.length) (List.length_map ..).symm ?_
      k_subL
      refine call_take rfl rfl (by omega) fun tn ns1 t1 t2 => ?_
      obtain ⟨n, en⟩ : ∃ n : Nat, tn = n := ⟨tn.toNat, by omega⟩
      subst en
      refine s_ret (w_let 1 (w_let 1 (w_known (w_op (w_sl ?_)))))
      refine w_var rfl (o_some (w_var rfl ⟨_, rfl, o_none ?_⟩))
      refine rs_list (ds := rows.map MR.dRow) (.inl lo_f) fun p => w_sl ?_
      refine w_var rfl (o_none (o_some (w_var rfl ⟨_, rfl, ?_⟩)))
      refine rs_list (ds := rows.map MR.dRow) (.inl lo_f) fun q => ?_
      refine rv_cat (lo_o 1 rfl rfl) (lo_o 2 rfl rfl) (small ?_) fun s => ⟨s, [a, p, q], _, _, rfl, rfl, rfl, ?_⟩
      · have := cut_len (rows.map MR.dRow) (some ((n : Nat) : Int)) none
        have := cut_len (rows.map MR.dRow) none (some ((n : Nat) : Int))
        simp at *
        omega
      have e1 : DL.cutD (rows.map MR.dRow) (some ((n : Nat) : Int)) none ++ DL.cutD (rows.map MR.dRow) none (some ((n : Nat) : Int)) = (rows.drop n ++ rows.take n).map MR.dRow := by
        have hn : n ≤ rows.length := by omega
        unfold DL.cutD
        rw [HT.sIx_nat, HT.sIx_nat, HT.sIx_none, HT.sIx_none, List.length_map, Nat.min_eq_left hn, List.map_append, ← List.map_drop, List.take_of_length_le (by rw [List.length_map, List.length_drop]; omega), List.drop_zero, Nat.sub_zero, ← List.map_take]
      rw [e1]
      have hpm : (rows.drop n ++ rows.take n).Perm rows := (List.perm_append_comm).trans (by rw [List.take_append_drop])
      exact hk nms _ ns1 (MR.Table.perm (rows := rows) ⟨hN, hl3, hne hl1, hS.x (by omega), hB⟩ hpm) ⟨by rw [hpm.length_eq]; omega, fun r m => (hS.maker r (hpm.mem_iff.mp m)).2⟩
/-- a letter, then letters and digits, at most 24 -/
def c_is_name (K : PySem.W.Frag) : Ct := fun L as ds O k e => ∃ (z : Str), as = [] ∧ ds = [.str z] ∧ O = [] ∧ z.length ≤ 10000 ∧ k [] (.bl (MN.isName z)) []
theorem l_is_name {K : PySem.W.Frag} : ∀ L as ds O k e, c_is_name K L as ds O k e → ds.length = 1 := fun L as ds O k e h => by
  obtain ⟨i, _, rfl, _⟩ := h
  rfl
set_option maxHeartbeats 4000000 in
theorem ok_is_name {P : Program} {w : World} {K : PySem.W.Frag} {mg : Str → Option Value} {base : Heap} (Z : Tx P w K mg) : FnOk P w K mg base (L2.CX P w) 1 (He.ga K "is_name") (fdAt K ("is_name", none)) ["text"] (spC (c_is_name K)) := by
  refine FunD.ok (k := 0) (F_is_name Z) sc_is_name (sp_len (n := 1) l_is_name) (fun cdv A outer s H vs Q E hr h => ⟨_, PSs.nox ((pss_cons (ps_if (PW.pt (pw_or (pt_cmpR op_eq (pv 0) pe_str (nomark _)) (pw_or (pt_cmpR op_gt (pe_callB (r := fun xs H Q => ∃ x n, xs = [x] ∧ LenV K x H n ∧ Q (.int n) H) call_len (by rfl) (Z.free 15 rfl) PySem.boot_len (pa_cons (pv 0) pa_nil)) (pe_gi (by rfl) (Z.int 33 rfl)) (nomark _)) (pw_or1 (pt_cmpR op_notIn_sign (pe_ix (r := rIxS) ix_str (pv 0) pe_int (fun _ _ => rfl)) (pe_gs (by rfl) (Z.str 34 rfl)) (by rfl))))))
  (pss_one (ps_ret pe_bl))
  pss_nil)
  (pss_one (ps_ret (pe_callB (r := rAll K) (cr_all rfl) (by rfl) (Z.free 31 rfl) (by decide +kernel) (pa_cons (pe_lc rfl sc_is_name.nd (pi_str (pv 0)) (blkOk_by (own := [("char", 1)]) (N := N_is_name) (sc := defScope s_is_name) (by decide +kernel)) (fun _ _ _ _ _ => (pg_name (i := 1) sc_is_name.nd rfl (by first | exact Or.inl rfl | exact Or.inr rfl))) (fun _ _ _ _ _ => pts_nil) (fun _ _ _ _ _ => (pe_or (pe_cmpR op_in_sign (pv 1) (pe_gs (by rfl) (Z.str 34 rfl)) (by rfl)) (pe_one (pe_cmpR op_in_sign (pv 1) (pe_gs (by rfl) (Z.str 35 rfl)) (by rfl)))))) pa_nil)))))), enter h fun L as ds O k e c => ?_⟩)
  obtain ⟨z, rfl, rfl, rfl, hz, hk⟩ := c
  refine s_seq (s_if (w_or ?_))
  k_subL
  refine rv_eq rfl ⟨_, rfl, ?_⟩
  show if (z == ("" : Str)) = true then _ else _
  refine i_bl (fun e => ?_) fun e => ?_
  · have : z = "" := eq_of_beq e
    subst this
    exact s_ret (w_bl hk)
  have ne : MN.tl z ≠ [] := fun y => by
    have : z = "" := TL.ext_tl y
    subst this
    cases e
  refine w_or ?_
  k_subL
  refine rc_len (n := z.length) ⟨small (by omega), rfl⟩ ?_
  k_subL
  refine ⟨_, rfl, ?_⟩
  refine i_dec (fun h => ?_) fun h => ?_
  · have : MN.isName z = false := by
      unfold MN.isName
      rw [decide_eq_false (by omega), Bool.and_false]
    rw [this] at hk
    exact s_ret (w_bl hk)
  obtain ⟨c, r, ez⟩ : ∃ c r, MN.tl z = c :: r := by
    cases y : MN.tl z with
    | nil => exact absurd y ne
    | cons c r => exact ⟨c, r, rfl⟩
  k_subL
  refine rv_ixS (c := c) (small (by omega)) (by show atI (MN.tl z) 0 = _; rw [ez]; exact atI_nat (xs := c :: r) (j := 0) rfl) ?_
  k_subL
  refine rv_ninS ?_
  refine ⟨_, rfl, ?_⟩
  have en : MN.isName z = (decide (c ∈ MN.tl MN.letS) && r.all MN.okc) := by
    unfold MN.isName
    rw [ez, decide_eq_true (by omega), Bool.and_true]
    rfl
  refine i_bl (fun h => ?_) fun h => ?_
  · have h' : decide (c ∈ MN.tl MN.letS) = false := by rwa [Bool.not_eq_true'] at h
    rw [en, h'] at hk
    exact s_ret (w_bl hk)
  have h' : decide (c ∈ MN.tl MN.letS) = true := by rwa [Bool.not_eq_false'] at h
  refine s_next ?_
  refine s_ret (w_cb (w_cons (w_known (w_map (wg_name (by decide)) (i_str (w_var rfl ⟨z, rfl, MN.tl z, fun c => .str ⟨#[c]⟩, fun c => .bl (MN.okc c), rfl, smallt (by rw [← MN.len_tl]; omega), fun d m => ?_, fun q => ⟨q, _, _, _, rfl, rfl, rfl, w_nil ?_⟩⟩))))))
  · refine g_name ⟨rfl, rfl, w_orV (w_op (w_var rfl (w_str (rv_inS ⟨_, rfl, ?_⟩))))⟩
    refine i_bl (fun h => ⟨rfl, rfl, ?_⟩) fun h => ?_
    · show D.bl true = D.bl (MN.okc d)
      rw [MN.let_okc h]
    · refine w_op (w_var rfl (w_str (rv_inS ⟨rfl, rfl, ?_⟩)))
      show D.bl (decide (d ∈ MN.tl MN.digS)) = D.bl (decide (d ∈ MN.tl MN.letS) || decide (d ∈ MN.tl MN.digS))
      rw [show decide (d ∈ MN.tl MN.letS) = false from h, Bool.false_or]
  · refine rc_all (bs := (MN.tl z).map MN.okc) (.inl (by rw [List.map_map]; rfl)) ?_
    have : ((MN.tl z).map MN.okc).all id = MN.isName z := by
      rw [en, ez, h', List.map_cons, List.all_cons, List.all_map]
      show (MN.okc c && _) = _
      rw [MN.let_okc h', Bool.true_and, Bool.true_and]
      rfl
    rw [this]
    exact hk
theorem call_is_name {K : PySem.W.Frag} {χ : Xk} {L as : List Addr} {ρ : DSt} {O : List D} {k : List Addr → D → List D → Prop} {z : Str} (hz : z.length ≤ 10000) (hk : k as (.bl (MN.isName z)) O) : cc (c_is_name K) χ ρ [] L as [.str z] O k :=
  ⟨(no_js (as := as)).1, (no_js (as := as)).2, z, rfl, rfl, rfl, hz, ck0 hk⟩
/-- a part as it is drawn is a part -/
def c_is_part (K : PySem.W.Frag) : Ct := fun L as ds O k e => ∃ (p : MR.Part), as = [] ∧ ds = [MR.dPart p] ∧ O = [] ∧ MN.isName p.nm = true ∧ p.nm.length ≤ 100 ∧
  ((p.inn = MR.byteS ∧ p.pr = none) ∨ (MN.isName p.inn = true ∧ p.inn.length ≤ 100 ∧ p.inn ≠ MR.byteS ∧ ∃ i : Int, p.pr = some i ∧ 1 ≤ i ∧ i ≤ 1000)) ∧ k [] (.bl true) []
theorem l_is_part {K : PySem.W.Frag} : ∀ L as ds O k e, c_is_part K L as ds O k e → ds.length = 1 := fun L as ds O k e h => by
  obtain ⟨i, _, rfl, _⟩ := h
  rfl
set_option maxHeartbeats 4000000 in
theorem ok_is_part {P : Program} {w : World} {K : PySem.W.Frag} {mg : Str → Option Value} {base : Heap} (Z : Tx P w K mg) : FnOk P w K mg base (L2.CX P w) 2 (He.ga K "is_part") (fdAt K ("is_part", none)) ["part"] (spC (c_is_part K)) := by
  refine FunD.ok (k := 1) (F_is_part Z) sc_is_part (sp_len (n := 1) l_is_part) (fun cdv A outer s H vs Q E hr h => ⟨_, PSs.nox ((pss_cons (ps_if (pt_not (pt_val (pe_call (ok_is_name Z) (hr.mono (by decide)) (by rfl) (Z.glo 28 rfl) (Z.kp 13 rfl) (b_is_name Z) .nil passN (pa_cons (pe_ix (r := rIxT K) ix_tup (pv 0) pe_int (fun _ _ => rfl)) pa_nil))))
  (pss_one (ps_ret pe_bl))
  pss_nil)
  (pss_cons (ps_if (pt_cmpR op_eq (pe_callB (r := fun xs H Q => ∃ x n, xs = [x] ∧ LenV K x H n ∧ Q (.int n) H) call_len (by rfl) (Z.free 15 rfl) PySem.boot_len (pa_cons (pv 0) pa_nil)) pe_int (nomark _))
  (pss_one (ps_ret (pe_cmpR op_eq (pe_ix (r := rIxT K) ix_tup (pv 0) pe_int (fun _ _ => rfl)) (pe_gs (by rfl) (Z.str 23 rfl)) (nomark _))))
  pss_nil)
  (pss_one (ps_ret (pe_and (pe_cmpR op_eq (pe_callB (r := fun xs H Q => ∃ x n, xs = [x] ∧ LenV K x H n ∧ Q (.int n) H) call_len (by rfl) (Z.free 15 rfl) PySem.boot_len (pa_cons (pv 0) pa_nil)) pe_int (nomark _)) (pe_and (pe_call (ok_is_name Z) (hr.mono (by decide)) (by rfl) (Z.glo 28 rfl) (Z.kp 13 rfl) (b_is_name Z) .nil passN (pa_cons (pe_ix (r := rIxT K) ix_tup (pv 0) pe_int (fun _ _ => rfl)) pa_nil)) (pe_and (pe_cmpR op_ne (pe_ix (r := rIxT K) ix_tup (pv 0) pe_int (fun _ _ => rfl)) (pe_gs (by rfl) (Z.str 23 rfl)) (nomark _)) (pe_one (pe_chain op_le op_le pe_int (pe_ix (r := rIxT K) ix_tup (pv 0) pe_int (fun _ _ => rfl)) (pe_gi (by rfl) (Z.int 36 rfl)))))))))))), enter h fun L as ds O k e c => ?_⟩)
  obtain ⟨⟨nm, inn, pr⟩, rfl, rfl, rfl, h1, h2, h3, hk⟩ := c
  simp only at h1 h2 h3
  refine s_seq (s_if (w_not (w_test ?_)))
  refine d_call [] ?_
  k_subL
  refine rv_ixT (d := .str nm) (by cases pr <;> rfl) ?_
  k_subL
  refine call_is_name (by omega) ?_
  rw [h1]
  refine ⟨_, rfl, ?_⟩
  refine s_next ?_
  rcases h3 with ⟨rfl, rfl⟩ | ⟨n1, n2, n3, i, rfl, i1, i2⟩
  · k_subL
    refine rc_len (n := 2) rfl ?_
    k_subL
    refine rv_eq rfl ⟨_, rfl, ?_⟩
    refine s_ret ?_
    k_subL
    refine rv_ixT (d := .str MR.byteS) rfl ?_
    k_subL
    exact rv_eq rfl hk
  · k_subL
    refine rc_len (n := 3) rfl ?_
    k_subL
    refine rv_eq rfl ⟨_, rfl, ?_⟩
    refine s_next ?_
    refine s_ret (w_andV ?_)
    k_subL
    refine rc_len (n := 3) rfl ?_
    k_subL
    refine rv_eq rfl ⟨_, rfl, ?_⟩
    refine w_andV ?_
    refine d_call [] ?_
    k_subL
    refine rv_ixT (d := .str inn) rfl ?_
    k_subL
    refine call_is_name (by omega) ?_
    rw [n1]
    refine ⟨_, rfl, ?_⟩
    refine w_andV ?_
    k_subL
    refine rv_ixT (d := .str inn) rfl ?_
    k_subL
    refine rv_ne rfl ⟨_, rfl, ?_⟩
    rw [show eqD (.str inn) (.str "byte") = false from by show (inn == MR.byteS) = false; simp [n3]]
    refine w_chain ?_
    k_subL
    refine rv_ixT (d := .int i) rfl ?_
    refine rv_b0 ⟨_, rfl, ?_⟩
    rw [show decide ((1 : Int) ≤ i) = true from decide_eq_true i1]
    refine w_int (rv_b0 ?_)
    rw [show decide (i ≤ (1000 : Int)) = true from decide_eq_true i2]
    exact hk
theorem call_is_part {K : PySem.W.Frag} {χ : Xk} {L as : List Addr} {ρ : DSt} {O : List D} {k : List Addr → D → List D → Prop} {p : MR.Part} (h1 : MN.isName p.nm = true) (h2 : p.nm.length ≤ 100)
    (h3 : (p.inn = MR.byteS ∧ p.pr = none) ∨ (MN.isName p.inn = true ∧ p.inn.length ≤ 100 ∧ p.inn ≠ MR.byteS ∧ ∃ i : Int, p.pr = some i ∧ 1 ≤ i ∧ i ≤ 1000)) (hk : k as (.bl true) O) : cc (c_is_part K) χ ρ [] L as [MR.dPart p] O k :=
  ⟨(no_js (as := as)).1, (no_js (as := as)).2, p, rfl, rfl, rfl, h1, h2, h3, ck0 hk⟩
/-- a row that a table takes -/
structure NewRow (r : MR.Row) (tds fds : List (Key × D)) : Prop where
  kind : MN.isName r.kind = true ∧ r.kind.length ≤ 100
  byte : r.kind ≠ MR.byteS
  maker : MN.isName r.maker = true ∧ r.maker.length ≤ 100
  new : valD tds (.inr r.maker) = none
  few : (valD fds (.inr r.kind)).isSome = true ∨ fds.length ≠ 4
  parts : r.parts.length ≤ 4
  part : ∀ p ∈ r.parts, MN.isName p.nm = true ∧ p.nm.length ≤ 100 ∧ ((p.inn = MR.byteS ∧ p.pr = none) ∨ (MN.isName p.inn = true ∧ p.inn.length ≤ 100 ∧ p.inn ≠ MR.byteS ∧ ∃ i : Int, p.pr = some i ∧ 1 ≤ i ∧ i ≤ 1000))
  nd : (r.parts.map (·.nm)).Nodup
def c_Kinds_is_new (K : PySem.W.Frag) : Ct := fun L as ds O k e => ∃ (s t f : Addr) (fl : List (Str × D)) (tds fds : List (Key × D)) (r : MR.Row), L = [] ∧ as = [s, t, f] ∧ ds = [.adr s, MR.dRow r] ∧ O = [.ins (He.ga K "Kinds") fl, .dk tds, .dk fds] ∧
  fl.lookup ("table" : Str) = some (.adr t) ∧ fl.lookup ("family" : Str) = some (.adr f) ∧ NewRow r tds fds ∧ k [s, t, f] (.bl true) [.ins (He.ga K "Kinds") fl, .dk tds, .dk fds]
theorem l_Kinds_is_new {K : PySem.W.Frag} : ∀ L as ds O k e, c_Kinds_is_new K L as ds O k e → ds.length = 2 := fun L as ds O k e h => by
  obtain ⟨s, t, f, fl, tds, fds, r, _, _, rfl, _⟩ := h
  rfl
set_option maxHeartbeats 4000000 in
theorem ok_Kinds_is_new {P : Program} {w : World} {K : PySem.W.Frag} {mg : Str → Option Value} {base : Heap} (Z : Tx P w K mg) : FnOk P w K mg base (L2.CX P w) 3 (He.ma K (He.ga K "Kinds") "is_new") (fdAt K ("Kinds", some "is_new")) ["self", "row"] (spC (c_Kinds_is_new K)) := by
  refine FunD.ok (k := 2) (F_Kinds_is_new Z) sc_Kinds_is_new (sp_len (n := 2) l_Kinds_is_new) (fun cdv A outer s H vs Q E hr h => ⟨_, PSs.nox ((pss_cons (ps_asg (pv 1) (pg_tup rfl (pgs_cons (pg_name (i := 2) sc_Kinds_is_new.nd rfl (Or.inl rfl)) (pgs_cons (pg_name (i := 3) sc_Kinds_is_new.nd rfl (Or.inl rfl)) (pgs_cons (pg_name (i := 4) sc_Kinds_is_new.nd rfl (Or.inl rfl)) pgs_nil)))))
  (pss_cons (ps_if (PW.pt (pw_or (pt_not (pt_val (pe_call (ok_is_name Z) (hr.mono (by decide)) (by rfl) (Z.glo 28 rfl) (Z.kp 13 rfl) (b_is_name Z) .nil passN (pa_cons (pv 2) pa_nil)))) (pw_or (pt_cmpR op_eq (pv 2) (pe_gs (by rfl) (Z.str 23 rfl)) (nomark _)) (pw_or (pt_not (pt_val (pe_call (ok_is_name Z) (hr.mono (by decide)) (by rfl) (Z.glo 28 rfl) (Z.kp 13 rfl) (b_is_name Z) .nil passN (pa_cons (pv 3) pa_nil)))) (pw_or1 (pt_cmp (pc_din (hu_of hr) (pv 3) (show PE _ _ (tFld K _ _) from pe_fld (pv 0) rfl))))))))
  (pss_one (ps_ret pe_bl))
  pss_nil)
  (pss_cons (ps_if (PW.pt (pw_and (pt_cmp (pc_dnotin (hu_of hr) (pv 2) (show PE _ _ (tFld K _ _) from pe_fld (pv 0) rfl))) (pw_and1 (pt_cmpR op_eq (pe_callB call_lenD (by rfl) (Z.free 15 rfl) PySem.boot_len (pa_cons (show PE _ _ (tFld K _ _) from pe_fld (pv 0) rfl) pa_nil)) (pe_gi (by rfl) (Z.int 29 rfl)) (nomark _)))))
  (pss_one (ps_ret pe_bl))
  pss_nil)
  (pss_cons (ps_if (PW.pt (pw_or (pt_cmpR op_gt (pe_callB (r := fun xs H Q => ∃ x n, xs = [x] ∧ LenV K x H n ∧ Q (.int n) H) call_len (by rfl) (Z.free 15 rfl) PySem.boot_len (pa_cons (pv 4) pa_nil)) (pe_gi (by rfl) (Z.int 30 rfl)) (nomark _)) (pw_or1 (pt_not (pt_val (pe_callB (r := rAll K) (cr_all rfl) (by rfl) (Z.free 31 rfl) (by decide +kernel) (pa_cons (pe_lc rfl sc_Kinds_is_new.nd (pi_tup (pv 4)) (blkOk_by (own := [("part", 5)]) (N := N_Kinds_is_new) (sc := defScope s_Kinds_is_new) (by decide +kernel)) (fun _ _ _ _ _ => (pg_name (i := 5) sc_Kinds_is_new.nd rfl (by first | exact Or.inl rfl | exact Or.inr rfl))) (fun _ _ _ _ _ => pts_nil) (fun _ _ _ _ _ => (pe_call (ok_is_part Z) (hr.mono (by decide)) (by rfl) (Z.glo 32 rfl) (Z.kp 14 rfl) (b_is_part Z) .nil passN (pa_cons (pv 5) pa_nil)))) pa_nil)))))))
  (pss_one (ps_ret pe_bl))
  pss_nil)
  (pss_one (ps_ret (pe_cmpR op_eq (pe_callB call_lenK (by rfl) (Z.free 15 rfl) PySem.boot_len (pa_cons (pe_scK rfl sc_Kinds_is_new.nd (pi_tup (pv 4)) (blkOk_by (own := [("part", 5)]) (N := N_Kinds_is_new) (sc := defScope s_Kinds_is_new) (by decide +kernel)) (fun _ _ _ _ _ => (pg_name (i := 5) sc_Kinds_is_new.nd rfl (by first | exact Or.inl rfl | exact Or.inr rfl))) (fun _ _ _ _ _ => (pe_ix (r := rIxT K) ix_tup (pv 5) pe_int (fun _ _ => rfl)))) pa_nil)) (pe_callB (r := fun xs H Q => ∃ x n, xs = [x] ∧ LenV K x H n ∧ Q (.int n) H) call_len (by rfl) (Z.free 15 rfl) PySem.boot_len (pa_cons (pv 4) pa_nil)) (nomark _))))))))), enter h fun L as ds O k e c => ?_⟩)
  obtain ⟨s, t, f, fl, tds, fds, ⟨kind, maker, parts⟩, rfl, rfl, rfl, rfl, ht, hf, nw, hk⟩ := c
  obtain ⟨k1, k2, k3, k4, k5, k6, k7, k8⟩ := nw
  simp only at k1 k2 k3 k4 k5 k6 k7 k8
  refine s_seq (s_asg (w_var rfl (g_tup rfl (gs_cons (g_name (gs_cons (g_name (gs_cons (g_name (gs_nil ?_))))))))))
  refine s_seq (s_if (w_or (w_not (w_test (d_call [] ?_)))))
  k_subL
  refine call_is_name (z := kind) (by omega) ?_
  rw [k1.1]
  refine ⟨_, rfl, ?_⟩
  refine w_or ?_
  k_subL
  refine rv_eq rfl ⟨_, rfl, ?_⟩
  rw [show eqD (.str kind) (.str "byte") = false from by show (kind == MR.byteS) = false; simp [k2]]
  refine w_or (w_not (w_test (d_call [] ?_)))
  k_subL
  refine call_is_name (z := maker) (by omega) ?_
  rw [k3.1]
  refine ⟨_, rfl, ?_⟩
  show dT _ _ _ _ _ _ _
  refine w_test (w_din ?_)
  k_subL
  refine w_fld (w_var rfl ⟨_, fl, .adr t, .inr ⟨0, s, rfl, rfl, rfl⟩, (na_Kinds_table Z).1, (na_Kinds_table Z).2, ht, .inr maker, tds, rfl, .inr ⟨1, t, rfl, rfl, rfl⟩, ?_⟩)
  rw [k4]
  refine ⟨_, rfl, ?_⟩
  refine s_next ?_
  -- at most four kinds
  refine s_mid (N := fun as ρ O => as = [s, t, f] ∧ ρ = [some (.adr s), some (MR.dRow ⟨kind, maker, parts⟩), some (.str kind), some (.str maker), some (.tup (parts.map MR.dPart)), none] ∧ O = [.ins (He.ga K "Kinds") fl, .dk tds, .dk fds]) ?_ ?_
  · refine s_if (w_and (w_test (w_dnin ?_)))
    k_subL
    refine w_fld (w_var rfl ⟨_, fl, .adr f, .inr ⟨0, s, rfl, rfl, rfl⟩, (na_Kinds_family Z).1, (na_Kinds_family Z).2, hf, .inr kind, fds, rfl, .inr ⟨2, f, rfl, rfl, rfl⟩, ?_⟩)
    refine ⟨_, rfl, ?_⟩
    cases e : (valD fds (.inr kind)).isSome with
    | true => exact s_next ⟨rfl, rfl, rfl⟩
    | false =>
      show dT _ _ _ _ _ _ _
      have h4 : fds.length ≠ 4 := k5.resolve_left (by rw [e]; simp)
      k_subL
      refine w_fld (w_var rfl ⟨_, fl, .adr f, .inr ⟨0, s, rfl, rfl, rfl⟩, (na_Kinds_family Z).1, (na_Kinds_family Z).2, hf, ?_⟩)
      k_subL
      refine rc_lenD (.inr ⟨2, f, rfl, rfl, rfl⟩) ?_
      k_subL
      refine rv_eq rfl ⟨_, rfl, ?_⟩
      rw [show eqD (.int fds.length) (.int 4) = false from by show ((fds.length : Int) == 4) = false; rw [beq_eq_false_iff_ne]; omega]
      exact s_next ⟨rfl, rfl, rfl⟩
  · rintro as ρ O ⟨rfl, rfl, rfl⟩
    refine s_seq (s_if (w_or ?_))
    k_subL
    refine rc_len (n := parts.length) (List.length_map ..).symm ?_
    k_subL
    refine ⟨_, rfl, ?_⟩
    refine i_dec (fun h => by omega) fun h => ?_
    refine w_not (w_test (w_cb (w_cons (w_known (w_map (wg_name (by decide)) (i_tup (w_var rfl ⟨_, rfl, parts, MR.dPart, fun _ => .bl true, rfl, smallt (by omega), fun p m => ?_, fun q => ⟨q, _, _, _, rfl, rfl, rfl, w_nil ?_⟩⟩)))))))
    · refine g_name ⟨rfl, rfl, d_call [] (w_cons (w_var rfl (w_nil ?_)))⟩
      obtain ⟨a1, a2, a3⟩ := k7 p m
      exact call_is_part a1 a2 a3 ⟨rfl, rfl, rfl⟩
    refine rc_all (bs := parts.map fun _ => true) (.inl (by rw [List.map_map]; rfl)) ?_
    rw [show (parts.map fun _ => true).all id = true from by rw [List.all_map]; exact List.all_eq_true.mpr fun _ _ => rfl]
    refine ⟨_, rfl, ?_⟩
    refine s_next (s_ret (w_op ?_))
    refine w_lenset (wg_name (by decide)) (i_tup (w_var rfl ⟨_, rfl, parts, MR.dPart, fun p => p.nm, rfl, by omega, fun p m => ?_, ?_⟩))
    · exact g_name ⟨rfl, rfl, w_op (w_var rfl (w_int (rv_ixT (d := .str p.nm) (by cases p.pr <;> rfl) ⟨rfl, rfl, rfl⟩)))⟩
    k_subL
    refine rc_len (n := parts.length) (List.length_map ..).symm ?_
    refine rv_eq rfl ?_
    rw [dist_nodup _ k8, List.length_map]
    rw [show eqD (.int parts.length) (.int parts.length) = true from beq_self_eq_true _]
    exact hk
theorem call_is_new {K : PySem.W.Frag} {χ : Xk} {as : List Addr} {ρ : DSt} {O : List D} {k : List Addr → D → List D → Prop} {s t f : Addr} {fl : List (Str × D)} {tds fds : List (Key × D)} {r : MR.Row} (ea : selA as [0, 1, 2] = [s, t, f]) (eO : selO O [0, 1, 2] = [.ins (He.ga K "Kinds") fl, .dk tds, .dk fds])
    (la : 3 ≤ as.length) (hO : putAll O [0, 1, 2] [.ins (He.ga K "Kinds") fl, .dk tds, .dk fds] = O) (ht : fl.lookup ("table" : Str) = some (.adr t)) (hf : fl.lookup ("family" : Str) = some (.adr f)) (nw : NewRow r tds fds) (hk : k as (.bl true) O) : cc (c_Kinds_is_new K) χ ρ [0, 1, 2] [] as [.adr s, MR.dRow r] O k := by
  refine ⟨by decide, fun j m => by simp at m; omega, ?_⟩
  rw [ea, eO]
  refine ⟨s, t, f, fl, tds, fds, r, rfl, rfl, rfl, rfl, ht, hf, nw, [], [], [.ins (He.ga K "Kinds") fl, .dk tds, .dk fds], ?_, ?_, rfl, ?_⟩
  · rfl
  · rfl
  · rw [hO, List.append_nil, List.append_nil]
    exact hk
abbrev Ent := ML.Ent
abbrev EntOk := ML.EntOk
abbrev entD := ML.entD
def c_Kinds_find_least (K : PySem.W.Frag) : Ct := fun L as ds O k e => ∃ (s t sm : Addr) (fl : List (Str × D)) (es : List Ent) (nms : List Str), L = [] ∧ as = [s, sm] ∧ ds = [.adr s] ∧ O = [.ins (He.ga K "Kinds") fl, .dk []] ∧
  fl.lookup ("table" : Str) = some (.ldk t (es.map entD)) ∧ fl.lookup ("smallest" : Str) = some (.adr sm) ∧ nms.Nodup ∧ nms.length ≤ 3 ∧ (∀ e ∈ es, EntOk nms e) ∧
  ∀ lr lds sds, (∀ kv ∈ sds, Cz kv.2) → (∀ kv ∈ lds, Cz kv.2) → (∃ g, ML.Done nms es g sds) → k [s, sm, lr] .non [.ins (He.ga K "Kinds") fl, .dk sds, .dk lds]
theorem l_Kinds_find_least {K : PySem.W.Frag} : ∀ L as ds O k e, c_Kinds_find_least K L as ds O k e → ds.length = 1 := fun L as ds O k e h => by
  obtain ⟨s, t, sm, fl, es, nms, _, _, rfl, _⟩ := h
  rfl
set_option maxHeartbeats 4000000 in
theorem ok_Kinds_find_least {P : Program} {w : World} {K : PySem.W.Frag} {mg : Str → Option Value} {base : Heap} (Z : Tx P w K mg) : FnOk P w K mg base (L2.CX P w) 1 (He.ma K (He.ga K "Kinds") "find_least") (fdAt K ("Kinds", some "find_least")) ["self"] (spC (c_Kinds_find_least K)) := by
  refine FunD.ok (k := 0) (F_Kinds_find_least Z) sc_Kinds_find_least (sp_len (n := 1) l_Kinds_find_least) (fun cdv A outer s H vs Q E hr h => ⟨_, PSs.nox ((pss_cons (ps_set (i := 1) sc_Kinds_find_least.nd rfl (Or.inr rfl) pe_dnewK)
  (pss_cons (ps_set (i := 2) sc_Kinds_find_least.nd rfl (Or.inl rfl) pe_bl)
  (pss_one (ps_while PassesOwn.never (pt_val (pv 2))
  (pss_cons (ps_set (i := 2) sc_Kinds_find_least.nd rfl (Or.inl rfl) pe_bl)
  (pss_one (ps_lock (ps_for PassesOwn.never rfl (pi_items (show PE _ _ (tFld K _ _) from pe_fld (pv 0) rfl)) (pg_tup rfl (pgs_cons (pg_name (i := 3) sc_Kinds_find_least.nd rfl (Or.inl rfl)) (pgs_cons (pg_tup rfl (pgs_cons (pg_name (i := 7) sc_Kinds_find_least.nd rfl (Or.inl rfl)) (pgs_cons (pg_name (i := 8) sc_Kinds_find_least.nd rfl (Or.inl rfl)) (pgs_cons (pg_name (i := 9) sc_Kinds_find_least.nd rfl (Or.inl rfl)) pgs_nil)))) pgs_nil)))
  (pss_cons (ps_if (pt_not (pt_val (pe_callB (r := rAll K) (cr_all rfl) (by rfl) (Z.free 31 rfl) (by decide +kernel) (pa_cons (pe_lc rfl sc_Kinds_find_least.nd (pi_tup (pv 9)) (blkOk_by (own := [("part", 6)]) (N := N_Kinds_find_least) (sc := defScope s_Kinds_find_least) (by decide +kernel)) (fun _ _ _ _ _ => (pg_name (i := 6) sc_Kinds_find_least.nd rfl (by first | exact Or.inl rfl | exact Or.inr rfl))) (fun _ _ _ _ _ => pts_nil) (fun _ _ _ _ _ => (pe_or (pe_cmpR op_eq (pe_ix (r := rIxT K) ix_tup (pv 6) pe_int (fun _ _ => rfl)) (pe_gs (by rfl) (Z.str 23 rfl)) (nomark _)) (pe_one (pe_cmp (pc_din (hu_of hr) (pe_ix (r := rIxT K) ix_tup (pv 6) pe_int (fun _ _ => rfl)) (pv 1))))))) pa_nil))))
  (pss_one ps_continue)
  pss_nil)
  (pss_cons (ps_set (i := 4) sc_Kinds_find_least.nd rfl (Or.inl rfl) (pe_lst (pa_cons (pv 8) pa_nil)))
  (pss_cons (ps_set (i := 5) sc_Kinds_find_least.nd rfl (Or.inl rfl) (pe_lst (pa_cons (pv 3) pa_nil)))
  (pss_cons (ps_for PassesOwn.never rfl (pi_tup (pv 9)) (pg_name (i := 6) sc_Kinds_find_least.nd rfl (Or.inl rfl))
  (pss_cons (ps_expr (pe_bm PySem.F.plainAttrs_list PySem.F.slot_list_extend PySem.F.type_list_extend mt_extend (pv 4) (pa_cons (pe_ifExp (pt_cmpR op_eq (pe_ix (r := rIxT K) ix_tup (pv 6) pe_int (fun _ _ => rfl)) (pe_gs (by rfl) (Z.str 23 rfl)) (nomark _)) (pe_lst (pa_cons pe_int pa_nil)) (pe_dget (hu_of hr) (pv 1) (pe_ix (r := rIxT K) ix_tup (pv 6) pe_int (fun _ _ => rfl)) (fun _ _ => rfl))) pa_nil)))
  (pss_one (ps_expr (pe_bm PySem.F.plainAttrs_list PySem.F.slot_list_append PySem.F.type_list_append mt_append (pv 5) (pa_cons (pe_ifExp (pt_cmpR op_eq (pe_ix (r := rIxT K) ix_tup (pv 6) pe_int (fun _ _ => rfl)) (pe_gs (by rfl) (Z.str 23 rfl)) (nomark _)) pe_int (pe_dget (hu_of hr) (show PE _ _ (tFld K _ _) from pe_fld (pv 0) rfl) (pe_ix (r := rIxT K) ix_tup (pv 6) pe_int (fun _ _ => rfl)) (fun _ _ => rfl))) pa_nil))))))
  (pss_one (ps_if (PW.pt (pw_or (pt_cmp (pc_dnotin (hu_of hr) (pv 7) (pv 1))) (pw_or1 (pt_cmpR (op_ltD hr.units) (pe_tup (pa_cons (pe_callB (r := fun xs H Q => ∃ x n, xs = [x] ∧ LenV K x H n ∧ Q (.int n) H) call_len (by rfl) (Z.free 15 rfl) PySem.boot_len (pa_cons (pv 4) pa_nil)) (pa_cons (pv 4) pa_nil))) (pe_tup (pa_cons (pe_callB (r := fun xs H Q => ∃ x n, xs = [x] ∧ LenV K x H n ∧ Q (.int n) H) call_len (by rfl) (Z.free 15 rfl) PySem.boot_len (pa_cons (pe_dget (hu_of hr) (pv 1) (pv 7) (fun _ _ => rfl)) pa_nil)) (pa_cons (pe_dget (hu_of hr) (pv 1) (pv 7) (fun _ _ => rfl)) pa_nil))) (nomark _)))))
  (pss_cons (ps_dput (hu_of hr) (pv 1) (pv 7) (pv 4) rfl)
  (pss_cons (ps_dput (hu_of hr) (show PE _ _ (tFld K _ _) from pe_fld (pv 0) rfl) (pv 7) (pe_callTy call_tuple_of (by rfl) (Z.free 17 rfl) PyProof.Rows.boot_tuple (pa_cons (pv 5) pa_nil)) rfl)
  (pss_one (ps_set (i := 2) sc_Kinds_find_least.nd rfl (Or.inl rfl) pe_bl))))
  pss_nil))))))))))))))), enter h fun L as ds O k e c => ?_⟩)
  obtain ⟨s, t, sm, fl, es, nms, rfl, rfl, rfl, rfl, ht, hs, nd, n3, hes, hk⟩ := c
  refine s_seq (s_set (w_dnew fun lr => ?_))
  refine s_seq (s_set (w_bl ?_))
  refine s_while (fun m as ρ O => ∃ (g : ML.Fnd) (lds sds : List (Key × D)) (ch : Bool) (x3 x4 x5 x6 x7 x8 x9 : Option D), as = [s, sm, lr] ∧ ρ = [some (.adr s), some (.adr lr), some (.bl ch), x3, x4, x5, x6, x7, x8, x9] ∧ O = [.ins (He.ga K "Kinds") fl, .dk sds, .dk lds] ∧
    ML.St nms g lds sds ∧ ML.Fin nms es g sds ∧ (∀ kv ∈ lds, Cz kv.2) ∧ (ch = true → m = ML.rank nms g + 1) ∧ (ch = false → ML.Closed es g)) (ML.rank nms (fun _ => none) + 1)
    ⟨fun _ => none, [], [], true, none, none, none, none, none, none, none, rfl, rfl, rfl, ML.St.nil, ML.Fin.nil, (fun _ m => by cases m), fun _ => rfl, fun z => by cases z⟩ ?_
  rintro m as ρ O ⟨g0, lds0, sds0, ch, x3, x4, x5, x6, x7, x8, x9, rfl, rfl, rfl, hst0, hfi0, hcz0, hm, hcl⟩
  refine w_tB (w_var rfl ⟨ch, rfl, ?_⟩)
  cases ch with
  | false =>
    exact hk lr lds0 sds0 hst0.cz hcz0 ⟨g0, hfi0, hcl rfl, hst0.small, fun k ns e => ⟨(hst0.dig k ns e).1, Nat.le_trans (hst0.dig k ns e).2 (ML.B_three (Nat.le_trans (ML.cnt_le nms g0) n3))⟩⟩
  | true =>
    have hm := hm rfl
    rw [if_pos rfl]
    refine s_seq (s_set (w_bl ?_))
    refine s_lock t (He.ga K "Kinds") (es.map entD) 0 "table" fl (by simp) rfl ht ?_
    refine s_for (i_items (w_fld (w_var rfl ⟨_, fl, _, .inr ⟨0, s, rfl, rfl, rfl⟩, (na_Kinds_table Z).1, (na_Kinds_table Z).2, ht, t, _, rfl, List.mem_cons_self, ?_⟩)))
    refine ⟨fun i as ρ O => ∃ (g : ML.Fnd) (lds sds : List (Key × D)) (ch : Bool) (x3 x4 x5 x6 x7 x8 x9 : Option D), as = [s, sm, lr] ∧ ρ = [some (.adr s), some (.adr lr), some (.bl ch), x3, x4, x5, x6, x7, x8, x9] ∧ O = [.ins (He.ga K "Kinds") fl, .dk sds, .dk lds] ∧
      ML.St nms g lds sds ∧ ML.Fin nms es g sds ∧ (∀ kv ∈ lds, Cz kv.2) ∧ (ch = true → ML.rank nms g < ML.rank nms g0) ∧ (ch = false → g = g0 ∧ ∀ j e, j < i → es[j]? = some e → (∀ p ∈ e.ps, ML.okP g p = true) → ∃ old, g e.kind = some old ∧ ML.lessL (ML.made g e) old = false),
      ⟨g0, lds0, sds0, false, x3, x4, x5, x6, x7, x8, x9, rfl, rfl, rfl, hst0, hfi0, hcz0, (fun z => by cases z), fun _ => ⟨rfl, fun j e z => by omega⟩⟩, ?_, ?_⟩
    · rintro i as ρ O c hc ⟨g, lds, sds, ch, x3, x4, x5, x6, x7, x8, x9, rfl, rfl, rfl, hst, hfi, hcz, hlt, hno⟩
      obtain ⟨ent, he, rfl⟩ : ∃ ent, es[i]? = some ent ∧ c = .tup [.str ent.maker, MT.dEnt ent.kind ent.tag ent.ps] := by
        unfold pairsD at hc
        rw [List.map_map, List.getElem?_map] at hc
        cases e : es[i]? with
        | none => rw [e] at hc; cases hc
        | some ent => rw [e] at hc; cases hc; exact ⟨ent, rfl, rfl⟩
      obtain ⟨maker, kind, tag, ps⟩ := ent
      obtain ⟨e1, e2, e3⟩ := hes _ (List.mem_of_getElem? he)
      simp only at e1 e2 e3
      refine g_tup rfl (gs_cons (g_name (gs_cons (g_tup rfl (gs_cons (g_name (gs_cons (g_name (gs_cons (g_name (gs_nil (gs_nil ?_))))))))))))
      refine s_seq (s_if (w_not (w_test (w_cb (w_cons (w_known (w_map (α := MR.Part) (wg_name (by decide)) (i_tup (w_var rfl ⟨_, rfl, ps, MR.dPart, fun p => .bl (ML.okP g p), rfl, smallt (by omega), fun p mp => ?_, fun q => ⟨q, _, _, _, rfl, rfl, rfl, w_nil ?_⟩⟩)))))))))
      · refine g_name ⟨rfl, rfl, w_orV (w_op (w_op (w_var rfl (w_int ?_))))⟩
        refine rv_ixT (d := .str p.inn) (by cases p.pr <;> rfl) ?_
        refine w_str ?_
        refine rv_eq rfl ⟨_, rfl, ?_⟩
        show if (p.inn == MR.byteS) = true then _ else _
        refine i_bl (fun h => ⟨rfl, rfl, ?_⟩) fun h => ?_
        · show D.bl true = D.bl ((p.inn == MR.byteS) || (g p.inn).isSome)
          rw [h]; rfl
        · refine w_din (w_op (w_var rfl (w_int ?_)))
          refine rv_ixT (d := .str p.inn) (by cases p.pr <;> rfl) ?_
          refine w_var rfl ⟨.inr p.inn, lds, rfl, .inr ⟨2, lr, rfl, rfl, rfl⟩, rfl, rfl, ?_⟩
          show _ = D.bl ((p.inn == MR.byteS) || (g p.inn).isSome)
          rw [h, hst.look, Option.isSome_map, Bool.false_or]
      refine rc_all (bs := ps.map (ML.okP g)) (.inl (by rw [List.map_map]; rfl)) ?_
      refine ⟨_, rfl, ?_⟩
      cases hal : (ps.map (ML.okP g)).all id with
      | false =>
        refine s_cont ⟨g, lds, sds, ch, _, _, _, _, _, _, _, rfl, rfl, rfl, hst, hfi, hcz, hlt, fun z => ⟨(hno z).1, fun j e hj ej hp => ?_⟩⟩
        rcases Nat.lt_or_ge j i with z' | z'
        · exact (hno z).2 j e z' ej hp
        · have : j = i := by omega
          subst this
          rw [he] at ej
          cases ej
          have : (ps.map (ML.okP g)).all id = true := by rw [List.all_map, List.all_eq_true]; exact hp
          rw [hal] at this
          cases this
      | true =>
        have hall : ∀ p ∈ ps, ML.okP g p = true := by rw [List.all_map, List.all_eq_true] at hal; exact hal
        refine s_next ?_
        have hb : ML.B (ML.cnt nms g) ≥ 1 := by cases ML.cnt nms g with
          | zero => exact Nat.le_refl _
          | succ n => show 1 + 4 * ML.B n ≥ 1; omega
        have hb3 := ML.B_three (Nat.le_trans (ML.cnt_le nms g) n3)
        refine s_seq (s_set (w_lst (w_cons (w_var rfl (w_nil ⟨small (n := 1) (by decide), fun rw_ => ?_⟩)))))
        refine s_seq (s_set (w_lst (w_cons (w_var rfl (w_nil ⟨small (n := 1) (by decide), fun tr => ?_⟩)))))
        refine s_seq (s_for (i_tup (w_var rfl ⟨_, rfl, fun j as ρ O => ∃ (ns : List Int) (trs : List D) (x6 : Option D), as = [s, sm, lr, rw_, tr] ∧ ρ = [some (.adr s), some (.adr lr), some (.bl ch), some (.str maker), some (.adr rw_), some (.adr tr), x6, some (.str kind), some (.int (tag : Nat)), some (.tup (ps.map MR.dPart))] ∧
          O = [.ins (He.ga K "Kinds") fl, .dk sds, .dk lds, .lst (ns.map D.int), .lst trs] ∧ ML.Dig ns ∧ ns.length ≤ 1 + j * ML.B (ML.cnt nms g) ∧ trs.length ≤ 1 + j ∧ (∀ d ∈ trs, Cz d) ∧ ns = ((tag : Nat) : Int) :: (ps.take j).flatMap (ML.rowP g) ∧ trs = .str maker :: (ps.take j).map (ML.valP sds), ⟨[(tag : Nat)], [.str maker], x6, rfl, rfl, rfl, ?_, ?_, ?_, ?_, rfl, rfl⟩, ?_, ?_⟩)))
        · intro e m
          simp at m
          subst m
          omega
        · show 1 ≤ _
          omega
        · show 1 ≤ _
          omega
        · intro d m
          simp at m
          subst m
          exact .str _
        · rintro j as ρ O c hc ⟨ns, trs, x6, rfl, rfl, rfl, hdg, hln, hlt', hct, hns, htrs⟩
          rw [List.getElem?_map] at hc
          cases ej : ps[j]? with
          | none => rw [ej] at hc; cases hc
          | some p =>
            rw [ej] at hc
            cases hc
            have hj : j < ps.length := (List.getElem?_eq_some_iff.mp ej).1
            have etk : ps.take (j + 1) = ps.take j ++ [p] := by rw [List.take_succ, ej]; rfl
            have hj4 : j < 4 := by omega
            have hjb : j * ML.B (ML.cnt nms g) ≤ 3 * 85 := Nat.le_trans (Nat.mul_le_mul_left j hb3) (by have := Nat.mul_le_mul_right 85 (show j ≤ 3 by omega); exact this)
            have hp := hall p (List.mem_of_getElem? ej)
            have mulS : (j + 1) * ML.B (ML.cnt nms g) = j * ML.B (ML.cnt nms g) + ML.B (ML.cnt nms g) := by rw [Nat.add_mul, Nat.one_mul]
            refine g_name ?_
            refine s_seq (s_drop (w_extend 3 rfl rfl rfl (w_if (w_test (w_op (w_op (w_var rfl (w_int ?_))))))))
            refine rv_ixT (d := .str p.inn) (by cases p.pr <;> rfl) ?_
            refine w_str ?_
            refine rv_eq rfl ⟨_, rfl, ?_⟩
            show if (p.inn == MR.byteS) = true then _ else _
            refine i_bl (fun h => ?_) fun h => ?_
            · refine w_lstF (w_cons (w_int (w_nil ⟨small (n := 1) (by decide), _, _, rfl, rfl, lo_f, small (by rw [List.length_map]; show _ + 1 ≤ _; omega), ?_⟩)))
              refine s_drop (w_append 4 rfl rfl rfl (w_if (w_test (w_op (w_op (w_var rfl (w_int ?_)))))))
              refine rv_ixT (d := .str p.inn) (by cases p.pr <;> rfl) ?_
              refine w_str ?_
              refine rv_eq rfl ⟨_, rfl, ?_⟩
              show if (p.inn == MR.byteS) = true then _ else _
              rw [if_pos h]
              refine w_int ⟨_, rfl, rfl, smallt (by omega), ns ++ [0], trs ++ [.int 0], _, rfl, rfl, ?_, ?_, ?_, ?_, ?_, ?_, ?_⟩
              · rw [List.map_append]; rfl
              · intro e m
                rcases List.mem_append.mp m with m | m
                · exact hdg e m
                · simp at m; subst m; omega
              · rw [List.length_append, mulS]; show ns.length + 1 ≤ _; omega
              · rw [List.length_append]; show trs.length + 1 ≤ _; omega
              · intro d m
                rcases List.mem_append.mp m with m | m
                · exact hct d m
                · simp at m; subst m; exact .int _
              · rw [hns, etk, List.flatMap_append, List.cons_append]; congr 2; show [0] = ML.rowP g p ++ []; unfold ML.rowP; rw [if_pos (beq_iff_eq.mp h)]; rfl
              · rw [htrs, etk, List.map_append, List.cons_append]; congr 2; show [D.int 0] = [ML.valP sds p]; unfold ML.valP; rw [if_pos (beq_iff_eq.mp h)]
            · have hg : (g p.inn).isSome = true := by unfold ML.okP at hp; rw [h, Bool.false_or] at hp; exact hp
              obtain ⟨ms, hms⟩ := Option.isSome_iff_exists.mp hg
              obtain ⟨dm, lm⟩ := hst.dig _ _ hms
              obtain ⟨td, htd⟩ := Option.isSome_iff_exists.mp ((hst.small p.inn).trans hg)
              have ctd : Cz td := by
                unfold valD at htd
                obtain ⟨kv, hkv, rfl⟩ := Option.map_eq_some_iff.mp htd
                exact hst.cz kv (List.mem_of_find?_eq_some hkv)
              refine w_dget (w_var rfl (w_op (w_var rfl (w_int ?_))))
              refine rv_ixT (d := .str p.inn) (by cases p.pr <;> rfl) ?_
              refine ⟨rfl, rfl, .inr p.inn, lds, .lst (ms.map D.int), rfl, .inr ⟨2, lr, rfl, rfl, rfl⟩, by rw [hst.look, hms]; rfl, _, _, rfl, rfl, lo_f, small (by rw [List.length_map, List.length_map]; omega), ?_⟩
              refine s_drop (w_append 4 rfl rfl rfl (w_if (w_test (w_op (w_op (w_var rfl (w_int ?_)))))))
              refine rv_ixT (d := .str p.inn) (by cases p.pr <;> rfl) ?_
              refine w_str ?_
              refine rv_eq rfl ⟨_, rfl, ?_⟩
              show if (p.inn == MR.byteS) = true then _ else _
              rw [if_neg (by rw [h]; exact Bool.false_ne_true)]
              refine w_dget (w_fld (w_var rfl ⟨_, fl, .adr sm, .inr ⟨0, s, rfl, rfl, rfl⟩, (na_Kinds_smallest Z).1, (na_Kinds_smallest Z).2, hs, ?_⟩))
              refine w_op (w_var rfl (w_int ?_))
              refine rv_ixT (d := .str p.inn) (by cases p.pr <;> rfl) ?_
              refine ⟨rfl, rfl, .inr p.inn, sds, td, rfl, .inr ⟨1, sm, rfl, rfl, rfl⟩, htd, ?_⟩
              refine ⟨_, rfl, rfl, smallt (by omega), ns ++ ms, trs ++ [td], _, rfl, rfl, ?_, ?_, ?_, ?_, ?_, ?_, ?_⟩
              · rw [List.map_append]; rfl
              · intro e m
                rcases List.mem_append.mp m with m | m
                · exact hdg e m
                · exact dm e m
              · rw [List.length_append, mulS]; omega
              · rw [List.length_append]; show trs.length + 1 ≤ _; omega
              · intro d m
                rcases List.mem_append.mp m with m | m
                · exact hct d m
                · simp at m; subst m; exact ctd
              · rw [hns, etk, List.flatMap_append, List.cons_append]; congr 2; show ms = ML.rowP g p ++ []; unfold ML.rowP; rw [if_neg (beq_eq_false_iff_ne.mp h), hms, List.append_nil]; rfl
              · rw [htrs, etk, List.map_append, List.cons_append]; congr 2; show [td] = [ML.valP sds p]; unfold ML.valP; rw [if_neg (beq_eq_false_iff_ne.mp h), htd]; rfl
        · rintro as ρ O ⟨ns, trs, x6, rfl, rfl, rfl, hdg, hln, hlt', hct, hns, htrs⟩
          rw [List.length_map] at hln hlt'
          rw [List.length_map, List.take_length] at hns htrs
          have hns : ns = ML.made g ⟨maker, kind, tag, ps⟩ := hns
          refine s_freeze 3 rw_ (.lst (ns.map D.int)) 4 rfl rfl rfl ?_
          have hl4 : ns.length ≤ 1 + 4 * ML.B (ML.cnt nms g) := by
            have h4 : ps.length * ML.B (ML.cnt nms g) ≤ 4 * ML.B (ML.cnt nms g) := Nat.mul_le_mul_right (ML.B (ML.cnt nms g)) e3
            have hln : ns.length ≤ 1 + ps.length * ML.B (ML.cnt nms g) := hln
            exact Nat.le_trans hln (Nat.add_le_add_left h4 1)
          have hcn := ML.cnt_le nms g
          have hll := hst.ll
          have hls := hst.ls
          have hlook := hst.look kind
          refine s_if (dW.imp (k := fun as' b' O' => as' = [s, sm, lr, tr] ∧ O' = [.ins (He.ga K "Kinds") fl, .dk sds, .dk lds, .lst trs] ∧
            (b' = true → (g kind = none ∧ ns.length ≤ 1 + 4 * ML.B (ML.cnt nms g)) ∨ ∃ old, g kind = some old ∧ ns.length ≤ 85 ∧ (if (ns.length : Int) = (old.length : Int) then HT.lexLt ns old else decide ((ns.length : Int) < (old.length : Int))) = true) ∧
            (b' = false → ∃ old, g kind = some old ∧ ML.lessL ns old = false)) ?_ ?_)
          · refine w_or (w_test (w_dnin (w_var rfl (w_var rfl ⟨.inr kind, lds, rfl, .inr ⟨2, lr, rfl, rfl, rfl⟩, _, rfl, ?_⟩))))
            rw [hlook, Option.isSome_map]
            cases hgk : g kind with
            | none => exact ⟨rfl, rfl, fun _ => .inl ⟨rfl, hl4⟩, fun z => by cases z⟩
            | some old =>
              rw [hgk] at hlook
              obtain ⟨do_, lo_⟩ := hst.dig _ _ hgk
              show dT _ _ _ _ _ _ _
              refine w_test (w_op (w_tup ?_))
              k_subL
              refine rc_len (n := ns.length) (List.length_map ..).symm ?_
              k_subL
              refine ⟨small (n := 2) (by decide), ?_⟩
              refine w_tup ?_
              k_subL
              refine w_dget (w_var rfl (w_var rfl ⟨rfl, rfl, .inr kind, lds, .lst (old.map D.int), rfl, .inr ⟨2, lr, rfl, rfl, rfl⟩, hlook, ?_⟩))
              k_subL
              refine rc_len (n := old.length) (List.length_map ..).symm ?_
              k_subL
              refine w_dget (w_var rfl (w_var rfl ⟨rfl, rfl, .inr kind, lds, .lst (old.map D.int), rfl, .inr ⟨2, lr, rfl, rfl, rfl⟩, hlook, ?_⟩))
              k_subL
              refine ⟨small (n := 2) (by decide), ?_⟩
              refine rv_ltP (ns := ns) (ms := old) ⟨_, rfl, rfl, rfl, fun h => .inr ⟨old, rfl, ?_, h⟩, fun h => ⟨old, rfl, h⟩⟩
              by_cases q : (ns.length : Int) = (old.length : Int)
              · omega
              · rw [if_neg q] at h
                have h := of_decide_eq_true h
                omega
          · rintro _ b _ ⟨rfl, rfl, h1, h2⟩
            refine i_bl (fun hb' => ?_) fun hb' => ?_
            · obtain ⟨hst', hrk⟩ := hst.put nd n3 e1 hdg (.tup (czs_of hct)) (h1 hb')
              have hfi' := hfi.put (List.mem_of_getElem? he) e1 hall (fun k ns e => ⟨(hst.dig k ns e).1, Nat.le_trans (hst.dig k ns e).2 hb3⟩) fun old ho => by
                rcases h1 hb' with ⟨z, _⟩ | ⟨old', z, zl, zc⟩
                · rw [z] at ho; cases ho
                · rw [z] at ho
                  cases ho
                  rw [← hns]
                  exact (ML.code_lt hdg (hst.dig _ _ z).1 (by omega) zc).1
              have hfi' : ML.Fin nms es (ML.setG g kind ns) (putDk sds (.inr kind) (.tup trs)) := by rw [hns, htrs]; exact hfi'
              refine s_seq (s_dput (w_var rfl (w_var rfl (w_var rfl ⟨2, lr, .inr kind, lds, rfl, rfl, rfl, rfl, smallt (by omega), ?_⟩))))
              refine s_seq (s_dput (w_cb (w_cons (w_var rfl (w_nil (rc_tupL (ds := trs) (.inl (lo_o 3 rfl rfl)) ?_))))))
              refine w_fld (w_var rfl ⟨_, fl, .adr sm, .inr ⟨0, s, rfl, rfl, rfl⟩, (na_Kinds_smallest Z).1, (na_Kinds_smallest Z).2, hs, ?_⟩)
              refine w_var rfl ⟨1, sm, .inr kind, sds, rfl, rfl, rfl, rfl, smallt (by omega), ?_⟩
              refine s_let 3 (s_set (w_bl ?_))
              refine ⟨ML.setG g kind ns, _, _, true, _, _, _, _, _, _, _, rfl, rfl, rfl, hst', hfi', ?_, fun _ => ?_, fun z => by cases z⟩
              · intro kv mk
                rcases ML.mem_put mk with z | z
                · rw [z]
                  exact .lst (czs_of fun d m => by obtain ⟨r, _, rfl⟩ := List.mem_map.mp m; exact .int _)
                · exact hcz kv z
              · cases ch with
                | true => have := hlt rfl; omega
                | false => rw [← (hno rfl).1]; exact hrk
            · refine s_let 3 (s_next ⟨g, lds, sds, ch, _, _, _, _, _, _, _, rfl, rfl, rfl, hst, hfi, hcz, hlt, fun z => ⟨(hno z).1, fun j e hj ej hp => ?_⟩⟩)
              rcases Nat.lt_or_ge j i with z' | z'
              · exact (hno z).2 j e z' ej hp
              · have : j = i := by omega
                subst this
                rw [he] at ej
                cases ej
                rw [← hns]
                exact h2 hb'
    · rintro as ρ O ⟨g, lds, sds, ch, x3, x4, x5, x6, x7, x8, x9, rfl, rfl, rfl, hst, hfi, hcz, hlt, hno⟩
      cases ch with
      | true => exact ⟨ML.rank nms g + 1, by have := hlt rfl; omega, g, lds, sds, true, _, _, _, _, _, _, _, rfl, rfl, rfl, hst, hfi, hcz, fun _ => rfl, fun z => by cases z⟩
      | false =>
        refine ⟨0, by omega, g, lds, sds, false, _, _, _, _, _, _, _, rfl, rfl, rfl, hst, hfi, hcz, (fun z => by cases z), fun _ e me hp => ?_⟩
        obtain ⟨j, hj, ej⟩ := List.mem_iff_getElem.mp me
        exact (hno rfl).2 j e (by unfold pairsD; rw [List.length_map, List.length_map]; exact hj) (by rw [List.getElem?_eq_getElem hj, ej]) hp
def c_Kinds___init__ (K : PySem.W.Frag) : Ct := fun L as ds O k e => ∃ (s : Addr) (rd : D) (nms : List Str) (rows : List MR.Row), L = [] ∧ as = [s] ∧ ds = [.adr s, rd] ∧ O = [.ins (He.ga K "Kinds") []] ∧ lstF K rd (rows.map MR.dRow) ∧ MR.Table nms rows ∧
  ∀ (t : Addr) (sds : List (Key × D)), (∀ kv ∈ sds, Cz kv.2) → MI.LeastOk rows sds → k [s] .non [.ins (He.ga K "Kinds") (MT.tabF (.ldk t (MI.entsFrom [] rows)) (.dk (zipD (MI.keys rows) ((MI.kindsOf rows).map (MI.lstD rows)))) (.tup ((MI.kindsOf rows).map D.str)) (.tup ((rows.map (·.maker)).map D.str)) (.dk sds))]
theorem l_Kinds___init__ {K : PySem.W.Frag} : ∀ L as ds O k e, c_Kinds___init__ K L as ds O k e → ds.length = 2 := fun L as ds O k e h => by
  obtain ⟨s, rd, nms, rows, _, _, rfl, _⟩ := h
  rfl
theorem newRow {nms : List Str} {rows : List MR.Row} {i : Nat} {r : MR.Row} {ds : List D} (hT : MR.Table nms rows) (hr : rows[i]? = some r) (hl : ds.length = (MI.kindsOf (rows.take i)).length) : NewRow r (MI.entsFrom [] (rows.take i)) (zipD (MI.keys (rows.take i)) ds) := by
  have mr : r ∈ rows := List.mem_of_getElem? hr
  have hk := hT.some.kind r mr
  obtain ⟨b, hd⟩ := hT.some.parts r mr
  refine ⟨MI.isName_of (hT.names.name _ hk) (by decide), fun e => hT.names.byte (e ▸ hk), MI.isName_of (hT.some.maker r mr) (by decide), MI.ents_none (MI.maker_new hT.some.nd hr), .inr ?_, hd.len, fun p m => ?_, hd.nd⟩
  · have := MI.kinds_few hT i
    unfold zipD MI.keys
    rw [List.length_zipWith, List.length_map, hl]
    omega
  · obtain ⟨n1, n2⟩ := MI.isName_of (hd.name p m) (by decide)
    refine ⟨n1, n2, ?_⟩
    rcases hd.ok p m with h | ⟨h1, h2⟩
    · exact .inl h
    · obtain ⟨n3, n4⟩ := MI.isName_of (hT.names.name _ h1) (by decide)
      exact .inr ⟨n3, n4, fun e => hT.names.byte (e ▸ h1), h2⟩
theorem entsOf {nms : List Str} {rows : List MR.Row} (hT : MR.Table nms rows) : ∃ es : List Ent, es.map entD = MI.entsFrom [] rows ∧ (∀ e ∈ es, EntOk nms e) ∧ ∀ r ∈ rows, ∃ e ∈ es, e.kind = r.kind ∧ e.ps = r.parts := by
  have main : ∀ (rs pre : List MR.Row), (∀ r ∈ rs, r ∈ rows) → pre.length + rs.length ≤ 10 → ∃ es : List Ent, es.map entD = MI.entsFrom pre rs ∧ (∀ e ∈ es, EntOk nms e) ∧ ∀ r ∈ rs, ∃ e ∈ es, e.kind = r.kind ∧ e.ps = r.parts := by
    intro rs
    induction rs with
    | nil => exact fun pre _ _ => ⟨[], rfl, (fun _ m => by cases m), fun _ m => by cases m⟩
    | cons r rs ih =>
      intro pre hm hl
      obtain ⟨es, h1, h2, h3⟩ := ih (pre ++ [r]) (fun x m => hm x (List.mem_cons_of_mem _ m)) (by rw [List.length_append]; simp at hl ⊢; omega)
      refine ⟨⟨r.maker, r.kind, (MI.makersOf r.kind pre).length, r.parts⟩ :: es, ?_, fun e m => ?_, fun x m => ?_⟩
      · rw [List.map_cons, h1]
        rfl
      · rcases List.mem_cons.mp m with m | m
        · subst m
          obtain ⟨b, hd⟩ := hT.some.parts r (hm r List.mem_cons_self)
          refine ⟨hT.some.kind r (hm r List.mem_cons_self), ?_, hd.len⟩
          have : (MI.makersOf r.kind pre).length ≤ pre.length := by
            unfold MI.makersOf
            rw [List.length_map]
            exact List.length_filter_le ..
          show (MI.makersOf r.kind pre).length < 10
          simp at hl
          omega
        · exact h2 e m
      · rcases List.mem_cons.mp m with m | m
        · subst m
          exact ⟨_, List.mem_cons_self, rfl, rfl⟩
        · obtain ⟨e, me, z⟩ := h3 x m
          exact ⟨e, List.mem_cons_of_mem _ me, z⟩
  exact main rows [] (fun _ m => m) (by have := hT.some.len; simpa using this)
set_option maxHeartbeats 4000000 in
theorem ok_Kinds___init__ {P : Program} {w : World} {K : PySem.W.Frag} {mg : Str → Option Value} {base : Heap} (Z : Tx P w K mg) : FnOk P w K mg base (L2.CX P w) 4 (He.ma K (He.ga K "Kinds") "__init__") (fdAt K ("Kinds", some "__init__")) ["self", "rows"] (spC (c_Kinds___init__ K)) := by
  refine FunD.ok (k := 3) (F_Kinds___init__ Z) sc_Kinds___init__ (sp_len (n := 2) l_Kinds___init__) (fun cdv A outer s H vs Q E hr h => ⟨_, PSs.nox ((pss_cons (ps_fld (pv 0) pe_dnewK rfl)
  (pss_cons (ps_fld (pv 0) pe_dnewK rfl)
  (pss_cons (ps_if (pt_cmpR op_eq (pe_callB (r := fun xs H Q => ∃ x n, xs = [x] ∧ LenV K x H n ∧ Q (.int n) H) call_len (by rfl) (Z.free 15 rfl) PySem.boot_len (pa_cons (pv 1) pa_nil)) pe_int (nomark _))
  (pss_one ps_never)
  pss_nil)
  (pss_cons (ps_for PassesOwn.never rfl (pi_enum (by rfl) (Z.free 20 rfl) (pa_cons (pv 1) pa_nil)) (pg_tup rfl (pgs_cons (pg_name (i := 3) sc_Kinds___init__.nd rfl (Or.inl rfl)) (pgs_cons (pg_name (i := 4) sc_Kinds___init__.nd rfl (Or.inl rfl)) pgs_nil)))
  (pss_cons (ps_if (PW.pt (pw_or (pt_cmpR op_eq (pv 3) (pe_gi (by rfl) (Z.int 21 rfl)) (nomark _)) (pw_or1 (pt_not (pt_val (pe_meth (pv 0) (Z.cls 4 rfl) (Z.meth 22 rfl) (ok_Kinds_is_new Z) (hr.mono (by decide)) (b_Kinds_is_new Z) .nil passN (pa_cons (pv 4) pa_nil)))))))
  (pss_one ps_never)
  pss_nil)
  (pss_cons (ps_asg (pv 4) (pg_tup rfl (pgs_cons (pg_name (i := 2) sc_Kinds___init__.nd rfl (Or.inl rfl)) (pgs_cons (pg_name (i := 7) sc_Kinds___init__.nd rfl (Or.inl rfl)) (pgs_cons (pg_name (i := 8) sc_Kinds___init__.nd rfl (Or.inl rfl)) pgs_nil)))))
  (pss_cons (ps_set (i := 5) sc_Kinds___init__.nd rfl (Or.inl rfl) (pe_dsetd (show PE _ _ (tFld K _ _) from pe_fld (pv 0) rfl) (pv 2) (pe_lst pa_nil) ⟨rfl, rfl, rfl, rfl⟩))
  (pss_cons (ps_dput (hu_of hr) (show PE _ _ (tFld K _ _) from pe_fld (pv 0) rfl) (pv 7) (pe_tup (pa_cons (pv 2) (pa_cons (pe_callB (r := fun xs H Q => ∃ x n, xs = [x] ∧ LenV K x H n ∧ Q (.int n) H) call_len (by rfl) (Z.free 15 rfl) PySem.boot_len (pa_cons (pv 5) pa_nil)) (pa_cons (pe_callTy call_tuple_of (by rfl) (Z.free 17 rfl) PyProof.Rows.boot_tuple (pa_cons (pv 8) pa_nil)) pa_nil)))) rfl)
  (pss_one (ps_expr (pe_bm PySem.F.plainAttrs_list PySem.F.slot_list_append PySem.F.type_list_append mt_append (pv 5) (pa_cons (pv 7) pa_nil)))))))))
  (pss_cons (ps_for PassesOwn.never rfl (pi_enum (by rfl) (Z.free 20 rfl) (pa_cons (pv 1) pa_nil)) (pg_tup rfl (pgs_cons (pg_name (i := 3) sc_Kinds___init__.nd rfl (Or.inl rfl)) (pgs_cons (pg_name (i := 4) sc_Kinds___init__.nd rfl (Or.inl rfl)) pgs_nil)))
  (pss_one (ps_for PassesOwn.never rfl (pi_tup (pe_ix (r := rIxT K) ix_tup (pv 4) pe_int (fun _ _ => rfl))) (pg_name (i := 6) sc_Kinds___init__.nd rfl (Or.inl rfl))
  (pss_one (ps_if (PW.pt (pw_and (pt_cmpR op_ne (pe_ix (r := rIxT K) ix_tup (pv 6) pe_int (fun _ _ => rfl)) (pe_gs (by rfl) (Z.str 23 rfl)) (nomark _)) (pw_and1 (pt_cmp (pc_dnotin (hu_of hr) (pe_ix (r := rIxT K) ix_tup (pv 6) pe_int (fun _ _ => rfl)) (show PE _ _ (tFld K _ _) from pe_fld (pv 0) rfl))))))
  (pss_one ps_never)
  pss_nil)))))
  (pss_cons (ps_fld (pv 0) (pe_callTy (call_tuple_dK rfl) (by rfl) (Z.free 17 rfl) PyProof.Rows.boot_tuple (pa_cons (show PE _ _ (tFld K _ _) from pe_fld (pv 0) rfl) pa_nil)) rfl)
  (pss_cons (ps_fld (pv 0) (pe_callTy (call_tuple_dK rfl) (by rfl) (Z.free 17 rfl) PyProof.Rows.boot_tuple (pa_cons (show PE _ _ (tFld K _ _) from pe_fld (pv 0) rfl) pa_nil)) rfl)
  (pss_cons (ps_fld (pv 0) pe_dnewK rfl)
  (pss_cons (ps_expr (pe_meth0 (pv 0) (Z.cls 4 rfl) (Z.meth 27 rfl) (ok_Kinds_find_least Z) (hr.mono (by decide)) (b_Kinds_find_least Z) .nil passN))
  (pss_one (ps_for PassesOwn.never rfl (pi_tup (show PE _ _ (tFld K _ _) from pe_fld (pv 0) rfl)) (pg_name (i := 2) sc_Kinds___init__.nd rfl (Or.inl rfl))
  (pss_one (ps_if (pt_cmp (pc_dnotin (hu_of hr) (pv 2) (show PE _ _ (tFld K _ _) from pe_fld (pv 0) rfl)))
  (pss_one ps_never)
  pss_nil)))))))))))))), enter h fun L as ds O k e c => ?_⟩)
  obtain ⟨s, rd, nms, rows, rfl, rfl, rfl, rfl, hrd, hT, hk⟩ := c
  refine s_seq (s_fld (w_dnew fun t => w_var rfl ⟨0, s, _, [], rfl, rfl, rfl, (na_Kinds_table Z).1, (na_Kinds_table Z).2, by decide, ?_⟩))
  refine s_seq (s_fld (w_dnew fun f => w_var rfl ⟨0, s, _, _, rfl, rfl, rfl, (na_Kinds_family Z).1, (na_Kinds_family Z).2, by show 1 < 1000; decide, ?_⟩))
  have hlen : rows.length ≤ 10 := hT.some.len
  have hpos : 1 ≤ rows.length := by
    have := hT.ne
    cases rows with
    | nil => exact absurd rfl this
    | cons x y => show 1 ≤ y.length + 1; omega
  refine s_seq (s_if (w_test (w_op (w_cb (w_cons (w_var rfl (w_nil (rc_lenF hrd ?_))))))))
  refine w_int ?_
  refine rv_eq rfl ⟨_, rfl, ?_⟩
  rw [List.length_map]
  rw [show eqD (.int rows.length) (.int 0) = false from by show ((rows.length : Int) == 0) = false; rw [beq_eq_false_iff_ne]; omega]
  refine s_next ?_
  refine s_seq (s_for (i_enumF (w_cons (w_var rfl (w_nil ⟨_, _, rfl, hrd, fun i as ρ O => ∃ (ps : List Addr) (x2 x3 x4 x5 x7 x8 : Option D), as = [s, t, f] ++ ps ∧ ρ = [some (.adr s), some rd, x2, x3, x4, x5, none, x7, x8] ∧
    O = [.ins (He.ga K "Kinds") [("table", .adr t), ("family", .adr f)], .dk (MI.entsFrom [] (rows.take i)), .dk (zipD (MI.keys (rows.take i)) (ps.map D.adr))] ++ (MI.kindsOf (rows.take i)).map (MI.lstD (rows.take i)) ∧ ps.length = (MI.kindsOf (rows.take i)).length,
    ⟨[], none, none, none, none, none, none, rfl, rfl, rfl, rfl⟩, ?_, ?_⟩)))))
  · rintro i as ρ O c hc ⟨ps, x2, x3, x4, x5, x7, x8, rfl, rfl, rfl, hps⟩
    obtain ⟨d, hd, rfl⟩ := enum_at hc
    rw [List.getElem?_map] at hd
    obtain ⟨r, hr, rfl⟩ := Option.map_eq_some_iff.mp hd
    have hi : i < rows.length := (List.getElem?_eq_some_iff.mp hr).1
    have mr : r ∈ rows := List.mem_of_getElem? hr
    have et : rows.take (i + 1) = rows.take i ++ [r] := by rw [List.take_add_one, hr]; rfl
    refine g_tup rfl (gs_cons (g_name (gs_cons (g_name (gs_nil ?_)))))
    refine s_seq (s_if (w_or ?_))
    k_subL
    refine rv_eq rfl ⟨_, rfl, ?_⟩
    rw [show eqD (.int (i : Nat)) (.int 12) = false from by show (((i : Nat) : Int) == 12) = false; rw [beq_eq_false_iff_ne]; omega]
    refine w_not (w_test ?_)
    refine d_meth [0, 1, 2] ?_
    refine w_var rfl ⟨⟨_, .inr ⟨0, s, rfl, rfl, rfl⟩, rfl⟩, w_cons (w_var rfl (w_nil ?_))⟩
    refine call_is_new (fl := [("table", .adr t), ("family", .adr f)]) rfl rfl (by simp) rfl rfl rfl (newRow hT hr (by rw [List.length_map]; exact hps)) ?_
    refine ⟨_, rfl, ?_⟩
    refine s_next ?_
    obtain ⟨kind, maker, parts⟩ := r
    refine s_seq (s_asg (w_var rfl (g_tup rfl (gs_cons (g_name (gs_cons (g_name (gs_cons (g_name (gs_nil ?_))))))))))
    have hfew := MI.kinds_few hT i
    have hml := MI.maker_new hT.some.nd hr
    by_cases hin : kind ∈ MI.kindsOf (rows.take i)
    · obtain ⟨q, hq⟩ := List.mem_iff_getElem?.mp hin
      have hqp : q < ps.length := by rw [hps]; exact (List.getElem?_eq_some_iff.mp hq).1
      obtain ⟨p, hpq⟩ : ∃ p, ps[q]? = some p := ⟨_, List.getElem?_eq_getElem hqp⟩
      have hsome : valD (zipD (MI.keys (rows.take i)) (ps.map D.adr)) (.inr kind) = some (.adr p) := by
        rw [MI.keys, MI.val_zip (MI.kinds_nd _) hq (by rw [List.length_map]; exact hps.symm), List.getElem?_map, hpq]
        rfl
      have hz : (zipD (MI.keys (rows.take i)) (ps.map D.adr)).length ≤ 3 := by
        unfold zipD MI.keys
        rw [List.length_zipWith, List.length_map, List.length_map]
        omega
      have hlm : ((MI.kindsOf (rows.take i)).map (MI.lstD (rows.take i))).length = ps.length := by rw [List.length_map]; exact hps.symm
      refine s_seq (s_set (w_let (3 + ps.length) (w_dsetd (w_fld (w_var rfl ⟨_, _, .adr f, .inr ⟨0, s, rfl, rfl, rfl⟩, (na_Kinds_family Z).1, (na_Kinds_family Z).2, rfl, ⟨_, .inr ⟨2, f, rfl, rfl, rfl⟩⟩, ?_⟩)))))
      refine w_var rfl (w_lst (w_nil ⟨Nat.zero_le _, fun p' => ⟨2, f, .inr kind, _, rfl, rfl, rfl, rfl, smallt (by omega), fun e he => ?_, fun h0 => ?_⟩⟩))
      rotate_left
      · rw [hsome] at h0
        cases h0
      rw [hsome] at he
      cases he
      have ea : (([s, t, f] ++ ps ++ [p']).eraseIdx (3 + ps.length)) = [s, t, f] ++ ps := MI.at_end_erase _ _ _ _ _
      have eo : (([D.ins (He.ga K "Kinds") [("table", .adr t), ("family", .adr f)], .dk (MI.entsFrom [] (rows.take i)), .dk (zipD (MI.keys (rows.take i)) (ps.map D.adr))] ++ (MI.kindsOf (rows.take i)).map (MI.lstD (rows.take i)) ++ [D.lst []]).eraseIdx (3 + ps.length)) = [D.ins (He.ga K "Kinds") [("table", .adr t), ("family", .adr f)], .dk (MI.entsFrom [] (rows.take i)), .dk (zipD (MI.keys (rows.take i)) (ps.map D.adr))] ++ (MI.kindsOf (rows.take i)).map (MI.lstD (rows.take i)) := by
        rw [← hlm]
        exact MI.at_end_erase _ _ _ _ _
      rw [ea, eo]
      have hp : ([s, t, f] ++ ps)[q + 3]? = some p := hpq
      have hO : ∀ (x y z : D), ([x, y, z] ++ (MI.kindsOf (rows.take i)).map (MI.lstD (rows.take i)))[q + 3]? = some (MI.lstD (rows.take i) kind) := fun x y z => by
        show ((MI.kindsOf (rows.take i)).map (MI.lstD (rows.take i)))[q]? = _
        rw [List.getElem?_map, hq]
        rfl
      have hml9 : (MI.makersOf kind (rows.take i)).length ≤ 10 := by
        unfold MI.makersOf
        rw [List.length_map]
        exact Nat.le_trans (List.length_filter_le ..) (by rw [List.length_take]; omega)
      refine s_seq (s_dput (w_tup (w_cons (w_var rfl (w_cons (w_cb (w_cons (w_var rfl (w_nil ?_)))))))))
      refine rc_len (n := (MI.makersOf kind (rows.take i)).length) ⟨q + 3, _, hp, hO _ _ _, (List.length_map ..).symm⟩ ?_
      refine w_cons (w_cb (w_cons (w_var rfl (w_nil (rc_tupT ?_)))))
      refine w_nil ⟨small (n := 3) (by decide), ?_⟩
      refine w_fld (w_var rfl ⟨_, _, .adr t, .inr ⟨0, s, rfl, rfl, rfl⟩, (na_Kinds_table Z).1, (na_Kinds_table Z).2, rfl, ?_⟩)
      have hel : (MI.entsFrom [] (rows.take i)).length ≤ 10 := by rw [MI.ents_len, List.length_take]; omega
      refine w_var rfl ⟨1, t, .inr maker, MI.entsFrom [] (rows.take i), rfl, rfl, rfl, rfl, smallt (by omega), ?_⟩
      refine s_drop (w_append (q + 3) rfl hp (hO _ _ _) (w_var rfl ⟨_, hp, hO _ _ _, smallt (by rw [List.length_map]; omega), ?_⟩))
      have e1 := MI.ents_put (rs := rows.take i) (r := ⟨kind, maker, parts⟩) hml
      have e2 := MI.lists_old (rs := rows.take i) (r := ⟨kind, maker, parts⟩) hq
      have e3 := MI.kinds_snoc (rows.take i) ⟨kind, maker, parts⟩
      rw [if_pos hin] at e3
      refine ⟨ps, _, _, _, _, _, _, rfl, rfl, ?_, ?_⟩
      · have e5 : MI.keys (rows.take i ++ [⟨kind, maker, parts⟩]) = MI.keys (rows.take i) := by unfold MI.keys; rw [e3]
        rw [et, ← e1, ← e2, e5]
        rfl
      · rw [et, e3]
        exact hps
    · refine s_seq (s_set (w_dsetd (w_fld (w_var rfl ⟨_, _, .adr f, .inr ⟨0, s, rfl, rfl, rfl⟩, (na_Kinds_family Z).1, (na_Kinds_family Z).2, rfl, ⟨_, .inr ⟨2, f, rfl, rfl, rfl⟩⟩, ?_⟩))))
      have hnone : valD (zipD (MI.keys (rows.take i)) (ps.map D.adr)) (.inr kind) = none := MI.val_zip_none hin
      have hz : (zipD (MI.keys (rows.take i)) (ps.map D.adr)).length ≤ 3 := by
        unfold zipD MI.keys
        rw [List.length_zipWith, List.length_map, List.length_map]
        omega
      refine w_var rfl (w_lst (w_nil ⟨Nat.zero_le _, fun p => ⟨2, f, .inr kind, _, rfl, rfl, rfl, rfl, smallt (by omega), fun e he => ?_, fun _ => ?_⟩⟩))
      · rw [hnone] at he
        cases he
      have hp : ([s, t, f] ++ ps ++ [p])[3 + ps.length]? = some p := MI.at_end _ _ _ _ _
      have hlm : ((MI.kindsOf (rows.take i)).map (MI.lstD (rows.take i))).length = ps.length := by rw [List.length_map]; exact hps.symm
      have hO : ∀ (x y z : D), ([x, y, z] ++ (MI.kindsOf (rows.take i)).map (MI.lstD (rows.take i)) ++ [D.lst []])[3 + ps.length]? = some (D.lst []) := fun x y z => by
        rw [← hlm]
        exact MI.at_end _ _ _ _ _
      refine s_seq (s_dput (w_tup (w_cons (w_var rfl (w_cons (w_cb (w_cons (w_var rfl (w_nil ?_)))))))))
      refine rc_len (n := 0) ⟨3 + ps.length, [], hp, hO _ _ _, rfl⟩ ?_
      refine w_cons (w_cb (w_cons (w_var rfl (w_nil (rc_tupT ?_)))))
      refine w_nil ⟨small (n := 3) (by decide), ?_⟩
      refine w_fld (w_var rfl ⟨_, _, .adr t, .inr ⟨0, s, rfl, rfl, rfl⟩, (na_Kinds_table Z).1, (na_Kinds_table Z).2, rfl, ?_⟩)
      have hel : (MI.entsFrom [] (rows.take i)).length ≤ 10 := by rw [MI.ents_len, List.length_take]; omega
      refine w_var rfl ⟨1, t, .inr maker, MI.entsFrom [] (rows.take i), rfl, rfl, rfl, rfl, smallt (by omega), ?_⟩
      refine s_drop (w_append (3 + ps.length) rfl hp (hO _ _ _) (w_var rfl ⟨[], hp, hO _ _ _, smallt (by decide), ?_⟩))
      have e1 := MI.ents_put (rs := rows.take i) (r := ⟨kind, maker, parts⟩) hml
      have e2 := MI.lists_new (rs := rows.take i) (r := ⟨kind, maker, parts⟩) hin
      have e3 := MI.kinds_snoc (rows.take i) ⟨kind, maker, parts⟩
      rw [if_neg hin] at e3
      have e4 : putDk (zipD (MI.keys (rows.take i)) (ps.map D.adr)) (.inr kind) (.adr p) = zipD (MI.keys (rows.take i ++ [⟨kind, maker, parts⟩])) ((ps ++ [p]).map D.adr) := by
        unfold putDk
        rw [ML.any_valD, hnone]
        show _ ++ _ = _
        unfold zipD MI.keys
        rw [e3, List.map_append, List.map_append, List.zipWith_append (by rw [List.length_map, List.length_map]; exact hps.symm)]
        rfl
      refine ⟨ps ++ [p], _, _, _, _, _, _, ?_, rfl, ?_, ?_⟩
      · exact List.append_assoc ..
      · rw [MI.makers_none hin] at e1
        rw [et, ← e1, ← e2, ← e4, ← hlm]
        exact (MI.at_end_set _ _ _ _ _ _).trans (List.append_assoc ..)
      · rw [et, e3, List.length_append, List.length_append, hps]
        rfl
  · rintro as ρ O ⟨ps, x2, x3, x4, x5, x7, x8, rfl, rfl, rfl, hps⟩
    have erl : rows.take (enumD (rows.map MR.dRow)).length = rows := by rw [enum_len, List.length_map, List.take_length]
    rw [erl] at hps ⊢
    have hnd := MI.kinds_nd rows
    -- the lists, the dicts are known
    refine s_frzDict (as0 := [s, t, f]) (O0 := [.ins (He.ga K "Kinds") [("table", .adr t), ("family", .adr f)], .dk (MI.entsFrom [] rows), .dk (zipD (MI.keys rows) (ps.map D.adr))]) 2 (by rw [List.length_map]; exact hps) rfl rfl ?_
    refine s_frzFld 2 0 f (He.ga K "Kinds") (.dk (zipD (MI.keys rows) ((MI.kindsOf rows).map (MI.lstD rows)))) (.dk (zipD (MI.keys rows) ((MI.kindsOf rows).map (MI.lstD rows)))) "family" [("table", .adr t), ("family", .adr f)] rfl rfl (fun F o e c => .of e c) rfl rfl ?_
    refine s_frzFld 1 0 t (He.ga K "Kinds") (.dk (MI.entsFrom [] rows)) (.ldk t (MI.entsFrom [] rows)) "table" [("table", .adr t), ("family", .dk (zipD (MI.keys rows) ((MI.kindsOf rows).map (MI.lstD rows))))] rfl rfl (fun F o e c => by cases c with | dk r => exact .ldk e r) rfl rfl ?_
    generalize efd : zipD (MI.keys rows) ((MI.kindsOf rows).map (MI.lstD rows)) = fds
    generalize etd : MI.entsFrom [] rows = tds
    have hfds : ∀ k, k ∈ MI.kindsOf rows → (valD fds (.inr k)).isSome = true := fun k m => by
      obtain ⟨q, hq⟩ := List.mem_iff_getElem?.mp m
      rw [← efd]
      rw [MI.keys, MI.val_zip hnd hq (by rw [List.length_map])]
      rw [List.getElem?_map, hq]
      rfl
    refine s_seq (s_for (i_enumF (w_cons (w_var rfl (w_nil ⟨_, _, rfl, hrd, fun i as ρ O => ∃ (x2 x3 x4 x5 x6 x7 x8 : Option D), as = [s] ∧ ρ = [some (.adr s), some rd, x2, x3, x4, x5, x6, x7, x8] ∧
      O = [.ins (He.ga K "Kinds") [("table", .ldk t tds), ("family", .dk fds)]], ⟨x2, x3, x4, x5, none, x7, x8, rfl, rfl, rfl⟩, ?_, ?_⟩)))))
    · rintro i as ρ O c hc ⟨x2, x3, x4, x5, x6, x7, x8, rfl, rfl, rfl⟩
      obtain ⟨d, hd, rfl⟩ := enum_at hc
      rw [List.getElem?_map] at hd
      obtain ⟨r, hr, rfl⟩ := Option.map_eq_some_iff.mp hd
      have mr : r ∈ rows := List.mem_of_getElem? hr
      refine g_tup rfl (gs_cons (g_name (gs_cons (g_name (gs_nil ?_)))))
      refine s_for (i_tup (w_op (w_var rfl (w_int (rv_ixT (d := .tup (r.parts.map MR.dPart)) rfl ⟨_, rfl, fun q as ρ O => ∃ (x6 : Option D), as = [s] ∧ ρ = [some (.adr s), some rd, x2, some (.int (i : Nat)), some (MR.dRow r), x5, x6, x7, x8] ∧
        O = [.ins (He.ga K "Kinds") [("table", .ldk t tds), ("family", .dk fds)]], ⟨x6, rfl, rfl, rfl⟩, ?_, ?_⟩)))))
      · rintro q as ρ O c hc ⟨x6, rfl, rfl, rfl⟩
        rw [List.getElem?_map] at hc
        obtain ⟨p, hp, rfl⟩ := Option.map_eq_some_iff.mp hc
        have mp : p ∈ r.parts := List.mem_of_getElem? hp
        obtain ⟨b, hdr⟩ := hT.some.parts r mr
        have hpk : p.inn = MR.byteS ∨ p.inn ∈ MI.kindsOf rows := (hdr.ok p mp).elim (fun z => .inl z.1) fun z => .inr (MI.kind_mem hT z.1)
        have hx : ∀ {k : List Addr → D → List D → Prop} {as : List Addr} {O : List D}, k as (.str p.inn) O → rv (rIxT K) [] as O (MR.dPart p) (.int 1) k := fun z => rv_ixT (d := .str p.inn) (by cases p.pr <;> rfl) z
        refine g_name (s_if (w_and (w_test (w_op (w_op (w_var rfl (w_int (hx (w_str ?_)))))))))
        refine rv_ne rfl ⟨_, rfl, ?_⟩
        show if (!(p.inn == MR.byteS)) = true then _ else _
        refine i_bl (fun h => ?_) fun h => s_next ⟨_, rfl, rfl, rfl⟩
        have hk2 : p.inn ∈ MI.kindsOf rows := hpk.resolve_left fun z => by rw [z] at h; simp at h
        refine w_test (w_dnin (w_op (w_var rfl (w_int (hx ?_)))))
        refine w_fld (w_var rfl ⟨_, _, .dk fds, .inr ⟨0, s, rfl, rfl, rfl⟩, (na_Kinds_family Z).1, (na_Kinds_family Z).2, rfl, .inr p.inn, fds, rfl, .inl (.inl rfl), ?_⟩)
        rw [hfds _ hk2]
        exact ⟨_, rfl, s_next ⟨_, rfl, rfl, rfl⟩⟩
      · rintro as ρ O ⟨x6, rfl, rfl, rfl⟩
        exact ⟨_, _, _, _, _, _, _, rfl, rfl, rfl⟩
    · rintro as ρ O ⟨x2, x3, x4, x5, x6, x7, x8, rfl, rfl, rfl⟩
      -- names, order
      refine s_seq (s_fld (w_cb (w_cons (w_fld (w_var rfl ⟨_, _, .dk fds, .inr ⟨0, s, rfl, rfl, rfl⟩, (na_Kinds_family Z).1, (na_Kinds_family Z).2, rfl, w_nil (rc_tupD (kds := fds) (.inl (.inl rfl)) ?_)⟩)))))
      refine w_var rfl ⟨0, s, _, _, rfl, rfl, rfl, (na_Kinds_names Z).1, (na_Kinds_names Z).2, by show 2 < 1000; decide, ?_⟩
      refine s_seq (s_fld (w_cb (w_cons (w_fld (w_var rfl ⟨_, _, .ldk t tds, .inr ⟨0, s, rfl, rfl, rfl⟩, (na_Kinds_table Z).1, (na_Kinds_table Z).2, rfl, w_nil (rc_tupD (kds := tds) (.inl (.inr ⟨_, rfl⟩)) ?_)⟩)))))
      refine w_var rfl ⟨0, s, _, _, rfl, rfl, rfl, (na_Kinds_order Z).1, (na_Kinds_order Z).2, by show 3 < 1000; decide, ?_⟩
      rw [show (fds.map fun kv => kD kv.1) = (MI.kindsOf rows).map D.str from by rw [← efd]; exact MI.zip_keys (by rw [List.length_map])]
      rw [show (tds.map fun kv => kD kv.1) = (rows.map (·.maker)).map D.str from by rw [← etd]; exact MI.ents_keys [] rows]
      refine s_seq (s_fld (w_dnew fun sm => w_var rfl ⟨0, s, _, _, rfl, rfl, rfl, (na_Kinds_smallest Z).1, (na_Kinds_smallest Z).2, by show 4 < 1000; decide, ?_⟩))
      -- the least trees
      obtain ⟨es, ees, hes, hent⟩ := entsOf hT
      refine s_seq (s_drop (d_meth [0, 1] (w_var rfl ⟨⟨_, .inr ⟨0, s, rfl, rfl, rfl⟩, rfl⟩, w_nil ?_⟩)))
      refine ⟨by decide, fun j m => by simp at m; show j < 2; omega, s, t, sm, _, es, nms, rfl, rfl, rfl, rfl, (by rw [ees, etd]; rfl), rfl, hT.names.nd, hT.few, hes, fun lr lds sds hcz hcl hfin0 => ?_⟩
      obtain ⟨gg, hdone⟩ := hfin0
      have hfin : ∀ e ∈ es, (∀ p ∈ e.ps, p.inn = MR.byteS ∨ (valD sds (.inr p.inn)).isSome = true) → (valD sds (.inr e.kind)).isSome = true := fun e me hp => by
        obtain ⟨old, ho, _⟩ := hdone.closed e me fun p mp => by
          unfold ML.okP
          rcases hp p mp with z | z
          · rw [z]; rfl
          · rw [hdone.small] at z; rw [z, Bool.or_true]
        rw [hdone.small, ho]
        rfl
      refine ⟨[lr], [.dk lds], [_, .dk sds], rfl, rfl, rfl, ?_⟩
      refine s_let 2 ?_
      refine s_frzFld 1 0 sm (He.ga K "Kinds") (.dk sds) (.dk sds) "smallest" _ rfl rfl (fun F o e c => .of e c) rfl rfl ?_
      have hall : ∀ k, k ∈ nms → (valD sds (.inr k)).isSome = true := MI.all_small hT fun r m hr => by
        obtain ⟨e, me, e1, e2⟩ := hent r m
        have := hfin e me fun p mp => hr p (by rw [← e2]; exact mp)
        rw [e1] at this
        exact this
      refine s_for (i_tup (w_fld (w_var rfl ⟨_, _, .tup ((MI.kindsOf rows).map D.str), .inr ⟨0, s, rfl, rfl, rfl⟩, (na_Kinds_names Z).1, (na_Kinds_names Z).2, rfl, _, rfl, fun i as ρ O => ∃ (x2 : Option D), as = [s] ∧ ρ = [some (.adr s), some rd, x2, x3, x4, x5, x6, x7, x8] ∧
        O = [.ins (He.ga K "Kinds") (MT.tabF (.ldk t tds) (.dk fds) (.tup ((MI.kindsOf rows).map D.str)) (.tup ((rows.map (·.maker)).map D.str)) (.dk sds))], ⟨x2, rfl, rfl, rfl⟩, ?_, ?_⟩)))
      · rintro i as ρ O c hc ⟨x2, rfl, rfl, rfl⟩
        rw [List.getElem?_map] at hc
        obtain ⟨z, hz, rfl⟩ := Option.map_eq_some_iff.mp hc
        refine g_name (s_if (w_test (w_dnin (w_var rfl ?_))))
        refine w_fld (w_var rfl ⟨_, _, .dk sds, .inr ⟨0, s, rfl, rfl, rfl⟩, (na_Kinds_smallest Z).1, (na_Kinds_smallest Z).2, rfl, .inr z, sds, rfl, .inl (.inl rfl), ?_⟩)
        rw [hall z (MI.kinds_sub hT (List.mem_of_getElem? hz))]
        exact ⟨_, rfl, s_next ⟨_, rfl, rfl, rfl⟩⟩
      · rintro as ρ O ⟨x2, rfl, rfl, rfl⟩
        have := hk t sds hcz ⟨nms, es, gg, ees, hT.few, hes, hdone, fun k m => by rw [← hdone.small]; exact hall k m⟩
        rw [efd, etd] at this
        exact this
/-- Kinds(list(rows)) -/
theorem w_kinds {K : PySem.W.Frag} {χ : Xk} {E : XK} {as : List Addr} {ρ : DSt} {O : List D} {k : List Addr → D → List D → Prop} {j : Nat} {nms : List Str} {rows : List MR.Row} (hT : MR.Table nms rows) (hl : as.length = O.length) (hj : ρ[j]? = some (some (.lst (rows.map MR.dRow))))
    (hk : ∀ t tds fds sds, MI.Tabl K rows t tds fds sds → k as (MI.tabD K rows t tds fds sds) O) :
    dE χ (tMake (He.ga K "Kinds") (spC (c_Kinds___init__ K)) [] E (tCons (tCB (fun xs H Q => ∃ p ys, xs = [V.ref p] ∧ (SqL K H p ys ∨ SqT K H p ys) ∧ ∀ l, H l = none → Q (.ref l) (upd H l (.lst ys))) (tCons (tVar j) tNil)) tNil)) [] as ρ O k := by
  refine w_known (w_make [] (w_cons (w_known (w_cb (w_cons (w_var hj (w_nil (rc_listL (KK := K) (.inl (.inl rfl)) fun q => ⟨q, _, _, _, rfl, rfl, rfl, w_nil fun p => ?_⟩))))))))
  have ha : (as ++ [p])[as.length]? = some p := by simp
  have ho : (O ++ [D.ins (He.ga K "Kinds") []])[as.length]? = some (D.ins (He.ga K "Kinds") []) := by rw [hl]; simp
  obtain ⟨s1, s2, s3, s4, s5⟩ := sel1 ha ho
  refine ⟨by simp, (fun _ m => by cases m), s1, s2, ?_⟩
  show c_Kinds___init__ K [] (selA (as ++ [p]) [as.length]) _ (selO (O ++ [D.ins (He.ga K "Kinds") []]) [as.length]) _ _
  rw [s3, s4]
  refine ⟨p, _, nms, rows, rfl, rfl, rfl, rfl, .inl rfl, hT, fun t sds hcz hlo => ?_⟩
  refine ⟨[], [], [_], (by rw [List.append_nil]; exact s3.symm), rfl, rfl, rfl, p, as, _, O, ?_, rfl, ?_, hk t _ _ sds (MI.tabl_of hT t sds hlo)⟩
  · exact List.append_nil _
  · show (putAll (O ++ [D.ins (He.ga K "Kinds") []]) [as.length] [_]) ++ [] = _
    rw [List.append_nil]
    show (O ++ [D.ins (He.ga K "Kinds") []]).set as.length _ = _
    rw [hl, List.set_append_right _ _ (Nat.le_refl _), Nat.sub_self]
    rfl
def c_Kinds_least (K : PySem.W.Frag) : Ct := fun L as ds O k e => ∃ (t f n o s : D) (fds sds : List (Key × D)) (kind : Str), as = [] ∧ ds = [.ins (He.ga K "Kinds") (MT.tabF t f n o s), .str kind] ∧ O = [] ∧ dkOf [] [] f fds ∧ dkOf [] [] s sds ∧
  ((∃ y, (valD fds (.inr kind)).isSome = true ∧ valD sds (.inr kind) = some y ∧ k [] y []) ∨ (valD fds (.inr kind) = none ∧ kind.length ≤ 100000 ∧ e L (He.ga K "NotThere") [("name", .str kind)] [] []))
theorem l_Kinds_least {K : PySem.W.Frag} : ∀ L as ds O k e, c_Kinds_least K L as ds O k e → ds.length = 2 := fun L as ds O k e h => by
  obtain ⟨t, f, n, o, s, fds, sds, kind, _, rfl, _⟩ := h
  rfl
set_option maxHeartbeats 4000000 in
theorem ok_Kinds_least {P : Program} {w : World} {K : PySem.W.Frag} {mg : Str → Option Value} {base : Heap} (Z : Tx P w K mg) : FnOk P w K mg base (L2.CX P w) 3 (He.ma K (He.ga K "Kinds") "least") (fdAt K ("Kinds", some "least")) ["self", "kind"] (spC (c_Kinds_least K)) := by
  refine FunD.ok (k := 2) (F_Kinds_least Z) sc_Kinds_least (sp_len (n := 2) l_Kinds_least) (fun cdv A outer s H vs Q E hr h => ⟨_, ((pss_cons (ps_if (pt_cmp (pc_dnotin (hu_of hr) (pv 1) (show PE _ _ (tFld K _ _) from pe_fld (pv 0) rfl)))
  (pss_one (pr_NotThere Z rfl (hr.mono (by decide)) (takes_of rfl rfl rfl rfl) (by rfl) (pa_cons (pv 1) pa_nil)))
  pss_nil)
  (pss_one (ps_ret (pe_dget (hu_of hr) (show PE _ _ (tFld K _ _) from pe_fld (pv 0) rfl) (pv 1) (fun _ _ => rfl)))))), enter h fun L as ds O k e c => ?_⟩)
  obtain ⟨t, f, n, o, s, fds, sds, kind, rfl, rfl, rfl, hd, hs, h⟩ := c
  refine s_seq (s_if (w_test (w_dnin (w_var rfl (w_fld (w_var rfl ⟨_, _, f, .inl rfl, (na_Kinds_family Z).1, (na_Kinds_family Z).2, MT.tab_family, .inr kind, fds, rfl, MT.dk_wide hd, ?_⟩))))))
  rcases h with ⟨y, h1, he, hk⟩ | ⟨he, hz, hx⟩
  · rw [h1]
    refine ⟨_, rfl, ?_⟩
    exact s_next (s_ret (w_dget (w_fld (w_var rfl ⟨_, _, s, .inl rfl, (na_Kinds_smallest Z).1, (na_Kinds_smallest Z).2, rfl, w_var rfl ⟨rfl, rfl, .inr kind, sds, _, rfl, hs, he, hk⟩⟩))))
  · rw [he]
    exact ⟨_, rfl, s_raiseS (xo_NotThere Z) hz (w_var rfl ⟨rfl, hx⟩)⟩
theorem call_Kinds_least {K : PySem.W.Frag} {χ : Xk} {L as : List Addr} {ρ : DSt} {O : List D} {k : List Addr → D → List D → Prop} {t f n o s : D} {fds sds : List (Key × D)} {kind : Str} {y : D} (hd : dkOf [] [] f fds) (hs : dkOf [] [] s sds) (h1 : (valD fds (.inr kind)).isSome = true) (he : valD sds (.inr kind) = some y) (hk : k as y O) :
    cc (c_Kinds_least K) χ ρ [] L as [.ins (He.ga K "Kinds") (MT.tabF t f n o s), .str kind] O k :=
  ⟨(no_js (as := as)).1, (no_js (as := as)).2, t, f, n, o, s, fds, sds, kind, rfl, rfl, rfl, hd, hs, .inl ⟨y, h1, he, ck0 hk⟩⟩
/-- an int is an int -/
def c__law_int (K : PySem.W.Frag) : Ct := fun L as ds O k e => ∃ (i : Int), as = [] ∧ ds = [.int i] ∧ O = [] ∧ k [] (.bl true) []
theorem l__law_int {K : PySem.W.Frag} : ∀ L as ds O k e, c__law_int K L as ds O k e → ds.length = 1 := fun L as ds O k e h => by
  obtain ⟨i, _, rfl, _⟩ := h
  rfl
set_option maxHeartbeats 4000000 in
theorem ok__law_int {P : Program} {w : World} {K : PySem.W.Frag} {mg : Str → Option Value} {base : Heap} (Z : Tx P w K mg) : FnOk P w K mg base (L2.CX P w) 1 (He.ga K "_law_int") (fdAt K ("_law_int", none)) ["_law_value"] (spC (c__law_int K)) := by
  refine FunD.ok (k := 0) (F__law_int Z) sc__law_int (sp_len (n := 1) l__law_int) (fun cdv A outer s H vs Q E hr h => ⟨_, PSs.nox ((pss_one (ps_ret (pe_and (pe_callB (r := rIsi K) call_isi (by rfl) (Z.free 40 rfl) PyProof.Rows.boot_isinstance (pa_cons (pv 0) (pa_cons (pe_bltn (v := .ty "int") (by rfl) (Z.free 12 rfl) PyProof.Rows.boot_int rfl) pa_nil))) (pe_one (pe_not (pe_callB (r := rIsi K) call_isi (by rfl) (Z.free 40 rfl) PyProof.Rows.boot_isinstance (pa_cons (pv 0) (pa_cons (pe_bltn (v := .ty "bool") (by rfl) (Z.free 43 rfl) PyProof.Rows.boot_bool rfl) pa_nil))))))))), enter h fun L as ds O k e c => ?_⟩)
  obtain ⟨i, rfl, rfl, rfl, hk⟩ := c
  refine s_ret (w_andV ?_)
  refine w_ty (d := .int i) (t := "int") (n := "int") (b := true) (tr := tNil) (kA := fun _ _ _ => True) rfl (by rfl) ⟨_, rfl, ?_⟩ (w_var rfl ⟨rfl, rfl, rfl⟩)
  refine w_notV ?_
  exact w_ty (d := .int i) (t := "int") (n := "bool") (b := false) (tr := tNil) (kA := fun _ _ _ => True) rfl (by rfl) ⟨_, rfl, hk⟩ (w_var rfl ⟨rfl, rfl, rfl⟩)
theorem call_int' {K : PySem.W.Frag} {χ : Xk} {L as : List Addr} {ρ : DSt} {O : List D} {k : List Addr → D → List D → Prop} {i : Int} (hk : k as (.bl true) O) : cc (c__law_int K) χ ρ [] L as [.int i] O k :=
  ⟨(no_js (as := as)).1, (no_js (as := as)).2, i, rfl, rfl, rfl, ck0 hk⟩
def c__law_fits (K : PySem.W.Frag) : Nat → Ct
  | 0 => fun _ _ _ _ _ _ => False
  | n + 1 => fun L as ds O k e => ∃ (rows : List MR.Row) (nms : List Str) (sp : Str → List Str) (d : D) (kind : Str), as = [] ∧ ds = [.lst (rows.map MR.dRow), d, .str kind] ∧ O = [] ∧ MR.Table nms rows ∧ TR.Lay rows sp ∧ TR.fitB rows (n + 1) d kind = true ∧ k [] (.bl true) []
theorem l__law_fits {K : PySem.W.Frag} (n : Nat) : ∀ L as ds O k e, c__law_fits K n L as ds O k e → ds.length = 3 := fun L as ds O k e h => by
  cases n with
  | zero => exact h.elim
  | succ n =>
    obtain ⟨rows, nms, sp, d, kind, _, rfl, _⟩ := h
    rfl
theorem call_lfits {K : PySem.W.Frag} {χ : Xk} {L as : List Addr} {ρ : DSt} {O : List D} {k : List Addr → D → List D → Prop} {n : Nat} {rows : List MR.Row} {nms : List Str} {sp : Str → List Str} {d : D} {kind : Str} (hTb : MR.Table nms rows) (hL : TR.Lay rows sp) (hf : TR.fitB rows n d kind = true) (hk : k as (.bl true) O) : cc (c__law_fits K n) χ ρ [] L as [.lst (rows.map MR.dRow), d, .str kind] O k := by
  cases n with
  | zero => cases hf
  | succ n => exact ⟨(no_js (as := as)).1, (no_js (as := as)).2, rows, nms, sp, d, kind, rfl, rfl, rfl, hTb, hL, hf, ck0 hk⟩
set_option maxHeartbeats 4000000 in
theorem ok__law_fits {P : Program} {w : World} {K : PySem.W.Frag} {mg : Str → Option Value} {base : Heap} (Z : Tx P w K mg) (n : Nat) : FnOk P w K mg base (L2.CX P w) (2 + n) (He.ga K "_law_fits") (fdAt K ("_law_fits", none)) ["_law_rows_here", "_law_tree_here", "_law_kind"] (spC (c__law_fits K n)) := by
  induction n with
  | zero => exact FunD.ok (k := 1) (F__law_fits Z) sc__law_fits (sp_len (n := 3) (l__law_fits 0)) (fun cdv A outer s H vs Q E hr h => by obtain ⟨_, _, _, _, _, _, _, _, _, _, c, _⟩ := h; exact c.elim)
  | succ n ih =>
  refine FunD.ok (k := 2 + n) (F__law_fits Z) sc__law_fits (sp_len (n := 3) (l__law_fits (n + 1))) (fun cdv A outer s H vs Q E hr h => ⟨_, PSs.nox ((pss_cons (ps_if (PW.pt (pw_or (pt_not (pt_val (pe_callB (r := rIsi K) call_isi (by rfl) (Z.free 40 rfl) PyProof.Rows.boot_isinstance (pa_cons (pv 1) (pa_cons (pe_bltn (v := .ty "tuple") (by rfl) (Z.free 17 rfl) PyProof.Rows.boot_tuple rfl) pa_nil))))) (pw_or (pt_cmpR op_eq (pe_callB (r := fun xs H Q => ∃ x n, xs = [x] ∧ LenV K x H n ∧ Q (.int n) H) call_len (by rfl) (Z.free 15 rfl) PySem.boot_len (pa_cons (pv 1) pa_nil)) pe_int (nomark _)) (pw_or1 (pt_not (pt_val (pe_callB (r := rIsi K) call_isi (by rfl) (Z.free 40 rfl) PyProof.Rows.boot_isinstance (pa_cons (pe_ix (r := rIxT K) ix_tup (pv 1) pe_int (fun _ _ => rfl)) (pa_cons (pe_bltn (v := .ty "str") (by rfl) (Z.free 41 rfl) PyProof.Rows.boot_str rfl) pa_nil)))))))))
  (pss_one (ps_ret pe_bl))
  pss_nil)
  (pss_cons (ps_setLc (i := 3) rfl sc__law_fits.nd rfl rfl (sw_true rfl rfl rfl (by decide +kernel)) (pi_list (pv 0)) (blkOk_by (own := [("_law_row", 6)]) (N := N__law_fits) (sc := defScope s__law_fits) (by decide +kernel)) (fun _ _ _ _ _ => (pg_name (i := 6) sc__law_fits.nd rfl (by first | exact Or.inl rfl | exact Or.inr rfl))) (fun _ _ _ _ _ => (pts_one (PW.pt (pw_and (pt_cmpR op_eq (pe_ix (r := rIxT K) ix_tup (pv 6) pe_int (fun _ _ => rfl)) (pv 2) (nomark _)) (pw_and1 (pt_cmpR op_eq (pe_ix (r := rIxT K) ix_tup (pv 6) pe_int (fun _ _ => rfl)) (pe_ix (r := rIxT K) ix_tup (pv 1) pe_int (fun _ _ => rfl)) (nomark _))))))) (fun _ _ _ _ _ => (pv 6)))
  (pss_cons (ps_if (PW.pt (pw_or (pt_cmpR (op_eqD hr.units) (pv 3) (pe_lst pa_nil) (nomark _)) (pw_or1 (pt_cmpR op_ne (pe_callB (r := fun xs H Q => ∃ x n, xs = [x] ∧ LenV K x H n ∧ Q (.int n) H) call_len (by rfl) (Z.free 15 rfl) PySem.boot_len (pa_cons (pv 1) pa_nil)) (pe_op op_add pe_int (pe_callB (r := fun xs H Q => ∃ x n, xs = [x] ∧ LenV K x H n ∧ Q (.int n) H) call_len (by rfl) (Z.free 15 rfl) PySem.boot_len (pa_cons (pe_ix (r := rIxT K) ix_tup (pe_ix (r := rIxL K) ix_list (pv 3) pe_int (fun _ _ => rfl)) pe_int (fun _ _ => rfl)) pa_nil))) (nomark _)))))
  (pss_one (ps_ret pe_bl))
  pss_nil)
  (pss_cons (ps_for PassesOwn.never rfl (pi_range1 (by rfl) (Z.free 13 rfl) (pa_cons (pe_callB (r := fun xs H Q => ∃ x n, xs = [x] ∧ LenV K x H n ∧ Q (.int n) H) call_len (by rfl) (Z.free 15 rfl) PySem.boot_len (pa_cons (pe_ix (r := rIxT K) ix_tup (pe_ix (r := rIxL K) ix_list (pv 3) pe_int (fun _ _ => rfl)) pe_int (fun _ _ => rfl)) pa_nil)) pa_nil)) (pg_name (i := 4) sc__law_fits.nd rfl (Or.inl rfl))
  (pss_cons (ps_set (i := 5) sc__law_fits.nd rfl (Or.inl rfl) (pe_ix (r := rIxT K) ix_tup (pe_ix (r := rIxT K) ix_tup (pe_ix (r := rIxT K) ix_tup (pe_ix (r := rIxL K) ix_list (pv 3) pe_int (fun _ _ => rfl)) pe_int (fun _ _ => rfl)) (pv 4) (fun _ _ => rfl)) pe_int (fun _ _ => rfl)))
  (pss_cons (ps_if (PW.pt (pw_and (pt_cmpR op_eq (pv 5) pe_str (nomark _)) (pw_and1 (pt_not (PW.pt (pw_and (pt_val (pe_call (ok__law_int Z) (hr.mono (by omega)) (by rfl) (Z.glo 42 rfl) (Z.kp 15 rfl) (b__law_int Z) .nil passN (pa_cons (pe_ix (r := rIxT K) ix_tup (pv 1) (pe_op op_add (pv 4) pe_int) (fun _ _ => rfl)) pa_nil))) (pw_and (pt_cmpR op_le pe_int (pe_ix (r := rIxT K) ix_tup (pv 1) (pe_op op_add (pv 4) pe_int) (fun _ _ => rfl)) (nomark _)) (pw_and1 (pt_cmpR op_le (pe_ix (r := rIxT K) ix_tup (pv 1) (pe_op op_add (pv 4) pe_int) (fun _ _ => rfl)) pe_int (nomark _))))))))))
  (pss_one (ps_ret pe_bl))
  pss_nil)
  (pss_one (ps_if (PW.pt (pw_and (pt_cmpR op_ne (pv 5) pe_str (nomark _)) (pw_and1 (pt_not (pt_val (pe_call ih (hr.mono (by omega)) (by rfl) (Z.glo 7 rfl) (Z.kp 4 rfl) (b__law_fits Z) .nil passN (pa_cons (pv 0) (pa_cons (pe_ix (r := rIxT K) ix_tup (pv 1) (pe_op op_add (pv 4) pe_int) (fun _ _ => rfl)) (pa_cons (pv 5) pa_nil)))))))))
  (pss_one (ps_ret pe_bl))
  pss_nil)))))
  (pss_one (ps_ret pe_bl))))))), enter h fun L as ds O k e c => ?_⟩)
  obtain ⟨rows, nms, sp, d, kind, rfl, rfl, rfl, hTb, hL, hfit, hk⟩ := c
  obtain ⟨n', en, r, mr, vs, rfl, rfl, hf, hv⟩ := TR.fit_inv hfit
  cases en
  have hn := hL.neat r mr
  have h4 := hn.len
  have hr10 := hL.len
  have hvl := hv.1
  have h0 : ∀ {χ : Xk} {as : List Addr} {ρ : DSt} {O : List D} {k : List Addr → D → List D → Prop}, ρ[1]? = some (some (.tup (.str r.maker :: vs))) → k as (.str r.maker) O → dE χ (tOp (rIxT K) (tVar 1) (tC (.int 0))) L as ρ O k := fun e z => w_op (w_var e (w_int (rv_ixT (d := .str r.maker) TR.at0 z)))
  refine s_seq (s_if (w_or (w_not (w_test (w_ty (d := .tup (.str r.maker :: vs)) (t := "tuple") (n := "tuple") (b := true) (tr := tNil) (kA := fun _ _ _ => True) rfl (by rfl) ⟨_, rfl, ?_⟩ (w_var rfl ⟨rfl, rfl, rfl⟩))))))
  show dT _ _ _ _ _ _ _
  refine w_or (w_test (w_op (w_cb (w_cons (w_var rfl (w_nil (rc_len (n := vs.length + 1) rfl (w_int (rv_eq rfl ⟨_, rfl, ?_⟩)))))))))
  show if ((((vs.length + 1 : Nat) : Int)) == (0 : Int)) = true then _ else dT _ _ _ _ _ _ _
  rw [beq_eq_false_iff_ne.mpr (by omega), if_neg (by decide)]
  refine w_not (w_test (w_ty (d := .str r.maker) (t := "str") (n := "str") (b := true) (tr := tNil) (kA := fun _ _ _ => True) rfl (by rfl) ⟨_, rfl, ?_⟩ (h0 rfl ⟨rfl, rfl, rfl⟩)))
  refine s_next ?_
  refine s_seq (s_set (w_known (w_lc (α := MR.Row) (wg_name (by decide)) (i_list (w_var rfl ⟨_, rfl, rows, MR.dRow, fun x => (x.kind == r.kind) && (x.maker == r.maker), MR.dRow, rfl, smallt (by omega), fun x m => ?_, fun w => ⟨w, [], _, [], rfl, rfl, rfl, ?_⟩⟩)))))
  · refine g_name ⟨rfl, rfl, w_and (w_test (w_op (w_op (w_var rfl (w_int (MI.row0 x (w_var rfl (rv_eq rfl ⟨_, rfl, ?_⟩))))))))⟩
    show if (x.kind == r.kind) = true then dT _ _ _ _ _ _ _ else _
    cases hx : x.kind == r.kind with
    | false => exact ⟨rfl, rfl, (by show false = ((x.kind == r.kind) && (x.maker == r.maker)); rw [hx]; rfl), fun e => by
        have e : ((x.kind == r.kind) && (x.maker == r.maker)) = true := e
        rw [hx] at e
        cases e⟩
    | true => exact w_test (w_op (w_op (w_var rfl (w_int (MI.row1 x (h0 rfl (rv_eq rfl ⟨_, rfl, rfl, rfl, (by show (x.maker == r.maker) = ((x.kind == r.kind) && (x.maker == r.maker)); rw [hx]; rfl), fun _ => w_var rfl ⟨rfl, rfl, rfl⟩⟩)))))))
  have hch : rows.filter (fun x => (x.kind == r.kind) && (x.maker == r.maker)) = rows.filter (fun x => x.maker == r.maker) := by
    refine List.filter_congr fun x m => ?_
    by_cases e : x.maker = r.maker
    · have : x = r := MW.map_inj hL.nd m mr e
      subst this
      simp
    · rw [beq_eq_false_iff_ne.mpr e, Bool.and_false]
  rw [hch]
  have hhead : (rows.filter fun x => x.maker == r.maker)[0]? = some r := TR.filter_head hf
  have hchm : ∀ x ∈ rows.filter (fun x => x.maker == r.maker), x ∈ rows := fun x m => (List.mem_filter.mp m).1
  generalize rows.filter (fun x => x.maker == r.maker) = ch at hhead hchm
  have hat : atI (ch.map MR.dRow) ((0 : Nat) : Int) = some (MR.dRow r) := atI_nat (by rw [List.getElem?_map, hhead]; rfl)
  refine s_seq (s_if (w_or (w_test (w_op (w_var rfl (w_lstF (w_nil ⟨Nat.zero_le _, rv_eqNil (n := 4) rd_k (okD_lst (n := 3) (okD_map fun x m => ?_)) (by decide) ⟨_, rfl, ?_⟩⟩)))))))
  · have mx := hchm x m
    obtain ⟨_, hdr⟩ := hTb.some.parts x mx
    refine okD_tup fun d m => ?_
    rcases List.mem_cons.mp m with rfl | m
    · exact (okD_str (MY.name_ok (hTb.names.name _ (hTb.some.kind x mx)).1)).more (by decide)
    · rcases List.mem_cons.mp m with rfl | m
      · exact (okD_str (MY.name_ok (hTb.some.maker x mx).1)).more (by decide)
      · rw [List.mem_singleton.mp m]
        refine okD_tup (n := 1) (okD_map fun p mp => ?_)
        have h1 := okD_str (MY.name_ok (hdr.name p mp).1)
        have h2 : okD 0 (.str p.inn) := by
          rcases hdr.ok p mp with ⟨e, _⟩ | ⟨m, _⟩
          · rw [e]
            exact okD_str (by decide +kernel)
          · exact okD_str (MY.name_ok (hTb.names.name _ m).1)
        refine okD_tup fun d m => ?_
        rcases List.mem_cons.mp m with rfl | m
        · exact h1
        · rcases List.mem_cons.mp m with rfl | m
          · exact h2
          · cases hpr : p.pr with
            | none => rw [hpr] at m; cases m
            | some i =>
              rw [hpr] at m
              rw [List.mem_singleton.mp m]
              exact okD_int
  have hem : (ch.map MR.dRow).isEmpty = false := by
    cases ch with
    | nil => cases hhead
    | cons => rfl
  rw [hem]
  show dT _ _ _ _ _ _ _
  refine w_test (w_op (w_cb (w_cons (w_var rfl (w_nil (rc_len (n := vs.length + 1) rfl (w_op (w_int (w_cb (w_cons (w_op (w_op (w_var rfl (w_int (rv_ixL hat (w_int (MI.row2 r (w_nil (rc_lenU (rv_i0 (rv_ne rfl ⟨_, rfl, ?_⟩)))))))))))))))))))))
  show if (!((((vs.length + 1 : Nat) : Int)) == ((1 : Int) + (r.parts.length : Int)))) = true then _ else _
  rw [beq_iff_eq.mpr (by omega)]
  refine s_next ?_
  refine s_seq (s_for (i_range (w_cons (w_cb (w_cons (w_op (w_op (w_var rfl (w_int (rv_ixL hat (w_int (MI.row2 r (w_nil (rc_lenU (w_nil ⟨_, rfl, by omega, by omega, fun i as ρ O => ∃ x4 x5 : Option D, as = [] ∧ ρ = [some (.lst (rows.map MR.dRow)), some (.tup (.str r.maker :: vs)), some (.str r.kind), some (.lst (ch.map MR.dRow)), x4, x5, none] ∧ O = [], ⟨none, none, rfl, rfl, rfl⟩, ?_, ?_⟩)))))))))))))))
  rotate_left
  · rintro as ρ O ⟨x4, x5, rfl, rfl, rfl⟩
    exact s_ret (w_bl hk)
  rintro i as ρ O c hc ⟨x4, x5, rfl, rfl, rfl⟩
  obtain ⟨hi, rfl⟩ := upto_at hc
  have hi : i < r.parts.length := by simpa using hi
  obtain ⟨p, hp⟩ : ∃ p, r.parts[i]? = some p := ⟨r.parts[i], List.getElem?_eq_getElem hi⟩
  obtain ⟨v, hvi⟩ : ∃ v, vs[i]? = some v := ⟨vs[i]'(by omega), List.getElem?_eq_getElem (by omega)⟩
  have hpa : atI (r.parts.map MR.dPart) (i : Nat) = some (MR.dPart p) := atI_nat (by rw [List.getElem?_map, hp]; rfl)
  have hva : atI (D.str r.maker :: vs) ((i : Int) + 1) = some v := by
    rw [show (i : Int) + 1 = ((i + 1 : Nat) : Int) by omega]
    exact atI_nat hvi
  have hcase := hv.2 i p v hp hvi
  refine g_name (s_seq (s_set (w_op (w_op (w_op (w_op (w_var rfl (w_int (rv_ixL hat (w_int (MI.row2 r (w_var rfl (rv_ixT hpa (w_int (MI.par1 p ?_)))))))))))))))
  have hV : ∀ {χ : Xk} {as : List Addr} {ρ : DSt} {O : List D} {k : List Addr → D → List D → Prop}, ρ[1]? = some (some (.tup (.str r.maker :: vs))) → ρ[4]? = some (some (.int (i : Nat))) → k as v O → dE χ (tOp (rIxT K) (tVar 1) (tOp (rI0 fun i j => V.int (i + j)) (tVar 4) (tC (V.int 1)))) L as ρ O k := fun e e2 z => w_op (w_var e (w_op (w_var e2 (w_int (rv_i0 (rv_ixT hva z))))))
  refine s_seq (s_if (w_and (w_test (w_op (w_var rfl (w_str (rv_eq rfl ⟨_, rfl, ?_⟩)))))))
  show if (p.inn == ("byte" : Str)) = true then dT _ _ _ _ _ _ _ else _
  rcases hcase with ⟨hb, b, hb2, rfl⟩ | ⟨hb, ht⟩
  · have hbe : (p.inn == ("byte" : Str)) = true := beq_iff_eq.mpr hb
    rw [hbe, if_pos rfl]
    refine w_not (w_and (w_test (d_call [] (w_cons (hV rfl rfl (w_nil (call_int' ⟨_, rfl, ?_⟩)))))))
    show dT _ _ _ _ _ _ _
    refine w_and (w_test (w_op (w_int (hV rfl rfl (rv_b0 ⟨_, rfl, ?_⟩)))))
    show if decide ((0 : Int) ≤ (b : Int)) = true then dT _ _ _ _ _ _ _ else _
    rw [decide_eq_true (by omega), if_pos rfl]
    refine w_test (w_op (hV rfl rfl (w_int (rv_b0 ⟨_, rfl, ?_⟩))))
    show if (!decide ((b : Int) ≤ 255)) = true then _ else _
    rw [decide_eq_true (by omega)]
    refine s_next (s_if (w_and (w_test (w_op (w_var rfl (w_str (rv_ne rfl ⟨_, rfl, ?_⟩)))))))
    show if (!(p.inn == ("byte" : Str))) = true then dT _ _ _ _ _ _ _ else _
    rw [hbe]
    exact s_next ⟨_, _, rfl, rfl, rfl⟩
  · have hbe : (p.inn == ("byte" : Str)) = false := beq_eq_false_iff_ne.mpr hb
    rw [hbe, if_neg (by decide)]
    refine s_next (s_if (w_and (w_test (w_op (w_var rfl (w_str (rv_ne rfl ⟨_, rfl, ?_⟩)))))))
    show if (!(p.inn == ("byte" : Str))) = true then dT _ _ _ _ _ _ _ else _
    rw [hbe]
    refine w_not (w_test (d_call [] (w_cons (w_var rfl (w_cons (hV rfl rfl (w_cons (w_var rfl (w_nil (call_lfits hTb hL ht ⟨_, rfl, ?_⟩))))))))))
    exact s_next ⟨_, _, rfl, rfl, rfl⟩
def c__law_tree (K : PySem.W.Frag) : Nat → Ct
  | 0 => fun _ _ _ _ _ _ => False
  | n + 1 => fun L as ds O k e => ∃ (a : Addr) (ns : List Int) (nms : List Str) (rows bs : List MR.Row) (r0 : MR.Row) (i : Nat) (cut fuel : Nat), as = [a] ∧ ds = [.adr a, .lst (rows.map MR.dRow), .dk (TR.bsD bs), .str r0.kind, .int (cut : Nat), .int (fuel : Nat)] ∧ O = [.lst (ns.map D.int)] ∧
    MR.Table nms rows ∧ TR.BaseOk rows bs ∧ (∀ z ∈ nms, z ∈ TR.kds bs) ∧ bs[i]? = some r0 ∧ 1 ≤ cut ∧ cut ≤ 255 ∧ fuel ≤ 1000 ∧ (if fuel = 0 then i + 1 else fuel + bs.length) ≤ n + 1 ∧
    ∀ (ns' : List Int) (d : D), TR.fitB rows (n + 1) d r0.kind = true → TR.szT (n + 1) d ≤ TR.capT fuel i → k [a] d [.lst (ns'.map D.int)]
theorem l__law_tree {K : PySem.W.Frag} (n : Nat) : ∀ L as ds O k e, c__law_tree K n L as ds O k e → ds.length = 6 := fun L as ds O k e h => by
  cases n with
  | zero => exact h.elim
  | succ n =>
    obtain ⟨a, ns, nms, rows, bs, r0, i, cut, fuel, _, rfl, _⟩ := h
    rfl
theorem call_tree {K : PySem.W.Frag} {χ : Xk} {L as : List Addr} {ρ : DSt} {O : List D} {k : List Addr → D → List D → Prop} {jj n : Nat} {a : Addr} {ns : List Int} {nms : List Str} {rows bs : List MR.Row} {r0 : MR.Row} {i : Nat} {kd : Str} {cut fuel : Nat} (ha : as[jj]? = some a) (ho : O[jj]? = some (.lst (ns.map D.int))) (h1 : bs[i]? = some r0) (h2 : r0.kind = kd) (hT : MR.Table nms rows) (hb : TR.BaseOk rows bs) (hall : ∀ z ∈ nms, z ∈ TR.kds bs) (hc1 : 1 ≤ cut) (hc2 : cut ≤ 255) (hf : fuel ≤ 1000) (hn : (if fuel = 0 then i + 1 else fuel + bs.length) ≤ n + 1)
    (hk : ∀ (ns' : List Int) (d : D), TR.fitB rows (n + 1) d kd = true → TR.szT (n + 1) d ≤ TR.capT fuel i → k as d (O.set jj (.lst (ns'.map D.int)))) : cc (c__law_tree K (n + 1)) χ ρ [jj] L as [.adr a, .lst (rows.map MR.dRow), .dk (TR.bsD bs), .str kd, .int (cut : Nat), .int (fuel : Nat)] O k := by
  subst h2
  obtain ⟨s1, s2, s3, s4, s5⟩ := sel1 ha ho
  refine ⟨s1, s2, ?_⟩
  rw [s3, s4]
  exact ⟨a, ns, nms, rows, bs, r0, i, cut, fuel, rfl, rfl, rfl, hT, hb, hall, h1, hc1, hc2, hf, hn, fun ns' d h3 h4 => by
    have := ck1 (O := O) s5 (hk ns' d h3 h4)
    rw [s3] at this
    exact this⟩
set_option maxHeartbeats 4000000 in
theorem ok__law_tree {P : Program} {w : World} {K : PySem.W.Frag} {mg : Str → Option Value} {base : Heap} (Z : Tx P w K mg) (n : Nat) : FnOk P w K mg base (L2.CX P w) (2 + n) (He.ga K "_law_tree") (fdAt K ("_law_tree", none)) ["_law_pool_here", "_law_rows_here", "_law_base_here", "_law_kind", "_law_cut", "_law_fuel"] (spC (c__law_tree K n)) := by
  induction n with
  | zero => exact FunD.ok (k := 1) (F__law_tree Z) sc__law_tree (sp_len (n := 6) (l__law_tree 0)) (fun cdv A outer s H vs Q E hr h => by obtain ⟨_, _, _, _, _, _, _, _, _, _, c, _⟩ := h; exact c.elim)
  | succ n ih =>
  refine FunD.ok (k := 2 + n) (F__law_tree Z) sc__law_tree (sp_len (n := 6) (l__law_tree (n + 1))) (fun cdv A outer s H vs Q E hr h => ⟨_, PSs.nox ((pss_cons (ps_setLc (i := 6) rfl sc__law_tree.nd rfl rfl (sw_true rfl rfl rfl (by decide +kernel)) (pi_list (pv 1)) (blkOk_by (own := [("_law_row", 7)]) (N := N__law_tree) (sc := defScope s__law_tree) (by decide +kernel)) (fun _ _ _ _ _ => (pg_name (i := 7) sc__law_tree.nd rfl (by first | exact Or.inl rfl | exact Or.inr rfl))) (fun _ _ _ _ _ => (pts_one (pt_cmpR op_eq (pe_ix (r := rIxT K) ix_tup (pv 7) pe_int (fun _ _ => rfl)) (pv 3) (nomark _)))) (fun _ _ _ _ _ => (pv 7)))
  (pss_cons (ps_set (i := 7) sc__law_tree.nd rfl (Or.inl rfl) (pe_dget (hu_of hr) (pv 2) (pv 3) (fun _ _ => rfl)))
  (pss_cons (ps_set (i := 8) sc__law_tree.nd rfl (Or.inl rfl) pe_int)
  (pss_cons (ps_if (pt_cmpR op_gt (pv 5) pe_int (nomark _))
  (pss_cons (ps_set (i := 8) sc__law_tree.nd rfl (Or.inl rfl) (pe_op op_sub (pv 5) pe_int))
  (pss_one (ps_set (i := 7) sc__law_tree.nd rfl (Or.inl rfl) (pe_ix (r := rIxL K) ix_list (pv 6) (pe_op op_mod (pe_callTy call_int1 (by rfl) (Z.free 12 rfl) PyProof.Rows.boot_int (pa_cons (pe_op op_add pe_int (pe_call (ok__law_take Z) (hr.mono (by omega)) (by rfl) (Z.glo 9 rfl) (Z.kp 6 rfl) (b__law_take Z) .nil passN (pa_cons (pv 0) (pa_cons (pe_callB (r := fun xs H Q => ∃ x n, xs = [x] ∧ LenV K x H n ∧ Q (.int n) H) call_len (by rfl) (Z.free 15 rfl) PySem.boot_len (pa_cons (pv 6) pa_nil)) pa_nil)))) pa_nil)) (pe_callB (r := fun xs H Q => ∃ x n, xs = [x] ∧ LenV K x H n ∧ Q (.int n) H) call_len (by rfl) (Z.free 15 rfl) PySem.boot_len (pa_cons (pv 6) pa_nil))) (fun _ _ => rfl)))))
  pss_nil)
  (pss_cons (ps_set (i := 9) sc__law_tree.nd rfl (Or.inl rfl) (pe_tup (pa_cons (pe_ix (r := rIxT K) ix_tup (pv 7) pe_int (fun _ _ => rfl)) pa_nil)))
  (pss_cons (ps_for PassesOwn.never rfl (pi_tup (pe_ix (r := rIxT K) ix_tup (pv 7) pe_int (fun _ _ => rfl))) (pg_name (i := 10) sc__law_tree.nd rfl (Or.inl rfl))
  (pss_one (ps_if (pt_cmpR op_eq (pe_ix (r := rIxT K) ix_tup (pv 10) pe_int (fun _ _ => rfl)) pe_str (nomark _))
  (pss_one (ps_set (i := 9) sc__law_tree.nd rfl (Or.inl rfl) (pe_op (r := rCatA K) op_catA (pv 9) (pe_tup (pa_cons (pe_ix (r := rIxL K) ix_list (pe_lst (pa_cons (pe_op op_sub (pv 4) pe_int) (pa_cons (pv 4) (pa_cons (pe_call (ok__law_take Z) (hr.mono (by omega)) (by rfl) (Z.glo 9 rfl) (Z.kp 6 rfl) (b__law_take Z) .nil passN (pa_cons (pv 0) (pa_cons pe_int pa_nil))) pa_nil)))) (pe_call (ok__law_take Z) (hr.mono (by omega)) (by rfl) (Z.glo 9 rfl) (Z.kp 6 rfl) (b__law_take Z) .nil passN (pa_cons (pv 0) (pa_cons pe_int pa_nil))) (fun _ _ => rfl)) pa_nil)))))
  (pss_cons (ps_set (i := 11) sc__law_tree.nd rfl (Or.inl rfl) (pe_op op_sub (pv 8) (pe_call (ok__law_take Z) (hr.mono (by omega)) (by rfl) (Z.glo 9 rfl) (Z.kp 6 rfl) (b__law_take Z) .nil passN (pa_cons (pv 0) (pa_cons (pe_op op_add (pv 8) pe_int) pa_nil)))))
  (pss_cons (ps_set (i := 8) sc__law_tree.nd rfl (Or.inl rfl) (pe_op op_sub (pv 8) (pv 11)))
  (pss_one (ps_set (i := 9) sc__law_tree.nd rfl (Or.inl rfl) (pe_op (r := rCatA K) op_catA (pv 9) (pe_tup (pa_cons (pe_call ih (hr.mono (by omega)) (by rfl) (Z.glo 8 rfl) (Z.kp 5 rfl) (b__law_tree Z) .nil passN (pa_cons (pv 0) (pa_cons (pv 1) (pa_cons (pv 2) (pa_cons (pe_ix (r := rIxT K) ix_tup (pv 10) pe_int (fun _ _ => rfl)) (pa_cons (pv 4) (pa_cons (pv 11) pa_nil))))))) pa_nil))))))))))
  (pss_one (ps_ret (pv 9)))))))))), enter h fun L as ds O k e c => ?_⟩)
  obtain ⟨a, ns, nms, rows, bs, r0, i0, cut, fuel, rfl, rfl, rfl, hT, hb, hall, hr0, hc1, hc2, hfu, hn, hk⟩ := c
  have hr10 := hT.some.len
  have hbl := TR.base_few hT hb
  have mb0 := List.mem_of_getElem? hr0
  have mr0 := hb.sub r0 mb0
  have hi0 : i0 < bs.length := (List.getElem?_eq_some_iff.mp hr0).1
  refine s_seq (s_set (w_known (w_lc (α := MR.Row) (wg_name (by decide)) (i_list (w_var rfl ⟨_, rfl, rows, MR.dRow, fun r => r.kind == r0.kind, MR.dRow, rfl, smallt (by omega), fun r m => ?_, fun w => ⟨w, [a], _, [_], rfl, rfl, rfl, ?_⟩⟩)))))
  · refine g_name ⟨rfl, rfl, w_test (w_op (w_op (w_var rfl (w_int (MI.row0 r (w_var rfl (rv_eq rfl ⟨_, rfl, rfl, rfl, rfl, fun _ => w_var rfl ⟨rfl, rfl, rfl⟩⟩)))))))⟩
  generalize hch : rows.filter (fun r => r.kind == r0.kind) = ch
  have hchm : ∀ r ∈ ch, r ∈ rows ∧ r.kind = r0.kind := fun r m => by
    rw [← hch, List.mem_filter] at m
    exact ⟨m.1, eq_of_beq m.2⟩
  have hch0 : 0 < ch.length := by
    rw [← hch]
    exact List.length_pos_of_mem (List.mem_filter.mpr ⟨mr0, beq_self_eq_true _⟩)
  refine s_seq (s_set (w_dget (w_var rfl (w_var rfl ⟨rfl, rfl, .inr r0.kind, TR.bsD bs, _, rfl, .inl (.inl rfl), TR.bsD_get hb.nd mb0, ?_⟩))))
  refine s_seq (s_set (w_int ?_))
  -- the row
  refine s_mid (N := fun as ρ O => ∃ (r : MR.Row) (ns : List Int), as = [a] ∧ ρ = [some (.adr a), some (.lst (rows.map MR.dRow)), some (.dk (TR.bsD bs)), some (.str r0.kind), some (.int (cut : Nat)), some (.int (fuel : Nat)), some (.lst (ch.map MR.dRow)), some (MR.dRow r), some (.int ((fuel - 1 : Nat) : Nat)), none, none, none] ∧ O = [.lst (ns.map D.int)] ∧ r ∈ rows ∧ r.kind = r0.kind ∧ (fuel = 0 → r = r0)) ?_ ?_
  · refine s_if (w_test (w_op (w_var rfl (w_int (rv_b0 ⟨_, rfl, ?_⟩)))))
    refine i_dec (fun h => ?_) fun h => ?_
    · refine s_seq (s_set (w_op (w_var rfl (w_int (rv_i0 ?_)))))
      refine s_set (w_op (w_var rfl (w_op (w_cb (w_cons (w_op (w_int (d_call [0] (w_cons (w_var rfl (w_cons (w_cb (w_cons (w_var rfl (w_nil (rc_lenM (w_nil (call_take rfl rfl (by omega) fun t ns1 t0 t1 => rv_i0 (w_nil (rc_int (w_cb (w_cons (w_var rfl (w_nil (rc_lenM (rv_i (by omega) ?_))))))))))))))))))))))))))
      generalize hix : (1 + t) % (ch.length : Int) = ix
      have h1 : 0 ≤ ix := by rw [← hix]; exact Int.emod_nonneg _ (by omega)
      have h2 : ix < ch.length := by rw [← hix]; exact Int.emod_lt_of_pos _ (by omega)
      obtain ⟨j, hj, rfl⟩ : ∃ j : Nat, j < ch.length ∧ ix = (j : Nat) := ⟨ix.toNat, by omega, by omega⟩
      have hm := hchm ch[j] (List.getElem_mem hj)
      refine rv_ixL (at_map hj) ⟨ch[j], ns1, rfl, ?_, rfl, hm.1, hm.2, fun e => by omega⟩
      show [_, _, _, _, _, _, _, _, some (D.int ((fuel : Int) - 1)), _, _, _] = _
      rw [show (fuel : Int) - 1 = ((fuel - 1 : Nat) : Int) by omega]
    · have e : fuel = 0 := by omega
      subst e
      exact s_next ⟨r0, ns, rfl, rfl, rfl, mr0, rfl, fun _ => rfl⟩
  rintro as ρ O ⟨r, ns1, rfl, rfl, rfl, mr, ek, hrz⟩
  obtain ⟨bdr, hdr⟩ := hT.some.parts r mr
  have h4 := hdr.len
  have hf := TR.findR_of hT.some.nd mr
  refine s_seq (s_set (w_tup (w_cons (w_op (w_var rfl (w_int (MI.row1 r (w_nil ⟨show 1 ≤ sizeLine by decide, ?_⟩))))))))
  refine s_seq (s_for (i_tup (w_op (w_var rfl (w_int (MI.row2 r ⟨_, rfl, fun i as ρ O => ∃ (ns : List Int) (vs : List D) (left used : Nat) (x10 x11 : Option D), as = [a] ∧ ρ = [some (.adr a), some (.lst (rows.map MR.dRow)), some (.dk (TR.bsD bs)), some (.str r0.kind), some (.int (cut : Nat)), some (.int (fuel : Nat)), some (.lst (ch.map MR.dRow)), some (MR.dRow r), some (.int (left : Nat)), some (.tup (.str r.maker :: vs)), x10, x11] ∧ O = [.lst (ns.map D.int)] ∧
    vs.length = i ∧ left + used = fuel - 1 ∧ TR.Vals (fun k d => TR.fitB rows n d k = true) (r.parts.take i) vs ∧ (vs.map fun d => 2 + TR.szT n d).sum ≤ i * (2 + TR.lowT fuel i0) + 1000 * used, ⟨ns1, [], fuel - 1, 0, none, none, rfl, rfl, rfl, rfl, rfl, ⟨rfl, fun j p d h _ => by simp at h⟩, Nat.zero_le _⟩, ?_, ?_⟩))))))
  rotate_left
  · rintro as ρ O ⟨ns, vs, left, used, x10, x11, rfl, rfl, rfl, hl, hu, hv, hs⟩
    rw [List.length_map] at hl hs hv
    rw [List.take_length] at hv
    refine s_ret (w_var rfl (hk ns _ ?_ ?_))
    · rw [← ek]
      exact TR.fit_mk hf hv
    · rw [TR.sz_node]
      exact TR.cap_all h4 (show used ≤ fuel - 1 by omega) hs
  rintro i as ρ O c hc ⟨ns, vs, left, used, x10, x11, rfl, rfl, rfl, hl, hu, hv, hs⟩
  rw [List.getElem?_map] at hc
  obtain ⟨p, hp, rfl⟩ := Option.map_eq_some_iff.mp hc
  have mp : p ∈ r.parts := List.mem_of_getElem? hp
  have et : r.parts.take (i + 1) = r.parts.take i ++ [p] := by rw [List.take_add_one, hp]; rfl
  have hi : i < r.parts.length := (List.getElem?_eq_some_iff.mp hp).1
  have htl : (r.parts.take i).length = i := by rw [List.length_take]; omega
  -- one value more
  have more : ∀ {d : D}, ((p.inn = MR.byteS ∧ ∃ b : Nat, b < 256 ∧ d = .int (b : Nat)) ∨ (p.inn ≠ MR.byteS ∧ TR.fitB rows n d p.inn = true)) → TR.Vals (fun k d => TR.fitB rows n d k = true) (r.parts.take (i + 1)) (vs ++ [d]) := fun {d} hd => by
    refine ⟨by rw [List.length_append, hl, et, List.length_append, htl]; rfl, fun j q v e1 e2 => ?_⟩
    rw [et] at e1
    rcases Nat.lt_trichotomy j i with z | z | z
    · rw [List.getElem?_append_left (by omega)] at e1 e2
      exact hv.2 j q v e1 e2
    · subst z
      rw [List.getElem?_append_right (by omega), htl, Nat.sub_self] at e1
      rw [List.getElem?_append_right (by omega), hl, Nat.sub_self] at e2
      cases e1
      cases e2
      exact hd
    · rw [List.getElem?_eq_none (by rw [List.length_append, htl]; show i + 1 ≤ j; omega)] at e1
      cases e1
  have hsum : ∀ d : D, ((vs ++ [d]).map fun d => 2 + TR.szT n d).sum = (vs.map fun d => 2 + TR.szT n d).sum + (2 + TR.szT n d) := fun d => by
    rw [List.map_append, List.sum_append]
    simp
  refine g_name (s_if (w_test (w_op (w_op (w_var rfl (w_int (MI.par1 p (w_str (rv_eq rfl ⟨_, rfl, ?_⟩)))))))))
  refine i_bl (fun h => ?_) fun h => ?_
  · have hbt : p.inn = MR.byteS := eq_of_beq h
    refine s_set (w_op (w_var rfl (w_tup (w_cons (w_op (w_lstF (w_cons (w_op (w_var rfl (w_int (rv_i0 (w_cons (w_var rfl (w_cons (d_call [0] (w_cons (w_var rfl (w_cons (w_int (w_nil (call_take rfl rfl (by decide) fun b ns2 b0 b1 => w_nil ⟨show 3 ≤ sizeLine by decide, ?_⟩)))))))))))))))))))))
    refine d_call [0] (w_cons (w_var rfl (w_cons (w_int (w_nil (call_take rfl rfl (by decide) fun u ns3 u0 u1 => ?_))))))
    have hval : ∃ v : Nat, v < 256 ∧ atI [D.int ((cut : Int) - 1), .int (cut : Int), .int b] u = some (.int (v : Nat)) := by
      have : u = 0 ∨ u = 1 ∨ u = 2 := by omega
      rcases this with rfl | rfl | rfl
      · exact ⟨cut - 1, by omega, by rw [show ((cut - 1 : Nat) : Int) = (cut : Int) - 1 by omega]; rfl⟩
      · exact ⟨cut, by omega, rfl⟩
      · exact ⟨b.toNat, by omega, by rw [show ((b.toNat : Nat) : Int) = b by omega]; rfl⟩
    obtain ⟨v, hv1, hv2⟩ := hval
    refine rv_ixL hv2 (w_nil ⟨show 1 ≤ sizeLine by decide, rv_catA (by rw [List.length_cons, hl]; show i + 1 + 1 ≤ 100000; omega) ?_⟩)
    refine ⟨ns3, vs ++ [.int (v : Nat)], left, used, _, _, rfl, rfl, rfl, by rw [List.length_append, hl]; rfl, hu, more (.inl ⟨hbt, v, hv1, rfl⟩), ?_⟩
    rw [hsum, show TR.szT n (.int (v : Nat)) = 0 by cases n <;> rfl, Nat.add_mul]
    omega
  · have hbt : p.inn ≠ MR.byteS := beq_eq_false_iff_ne.mp h
    -- the kind of the part
    have hin : p.inn ∈ nms := by
      rcases hdr.ok p mp with ⟨e, _⟩ | ⟨m, _⟩
      · exact absurd e hbt
      · exact m
    have hchild : ∃ (j : Nat) (r' : MR.Row), bs[j]? = some r' ∧ r'.kind = p.inn ∧ (fuel = 0 → j < i0) := by
      by_cases e : fuel = 0
      · have := hrz e
        subst this
        rcases hb.closed i0 r hr0 p mp with e2 | ⟨j, r', hj, e1, e2⟩
        · exact absurd e2 hbt
        · exact ⟨j, r', e1, e2, fun _ => hj⟩
      · obtain ⟨j, r', e1, e2⟩ := TR.kds_at (hall _ hin)
        exact ⟨j, r', e1, e2, fun z => absurd z e⟩
    obtain ⟨j, r', hj, ej, hjz⟩ := hchild
    have hjl : j < bs.length := (List.getElem?_eq_some_iff.mp hj).1
    refine s_seq (s_set (w_op (w_var rfl (d_call [0] (w_cons (w_var rfl (w_cons (w_op (w_var rfl (w_int (rv_i0 (w_nil (call_take rfl rfl (show (0 : Int) < (left : Int) + 1 by omega) fun t ns2 t0 t1 => rv_i0 ?_)))))))))))))
    obtain ⟨sh, hsh1, hsh2⟩ : ∃ sh : Nat, sh ≤ left ∧ (left : Int) - t = (sh : Nat) := ⟨((left : Int) - t).toNat, by omega, by omega⟩
    rw [hsh2]
    refine s_seq (s_set (w_op (w_var rfl (w_var rfl (rv_i0 ?_)))))
    have el : (left : Int) - (sh : Int) = ((left - sh : Nat) : Int) := by omega
    refine s_set (w_op (w_var rfl (w_tup (w_cons (d_call [0] (w_cons (w_var rfl (w_cons (w_var rfl (w_cons (w_var rfl (w_cons (w_op (w_var rfl (w_int (MI.par1 p (w_cons (w_var rfl (w_cons (w_var rfl (w_nil ?_)))))))))))))))))))))
    have hnz : 0 < n := by
      by_cases e : fuel = 0
      · rw [if_pos e] at hn
        have := hjz e
        omega
      · rw [if_neg e] at hn
        omega
    obtain ⟨m, rfl⟩ : ∃ m, n = m + 1 := ⟨n - 1, by omega⟩
    refine call_tree (jj := 0) rfl rfl hj ej hT hb hall hc1 hc2 (by omega) ?_ fun ns3 d hd1 hd2 => ?_
    · by_cases e : fuel = 0
      · rw [if_pos e] at hn
        have := hjz e
        rw [if_pos (by omega)]
        omega
      · rw [if_neg e] at hn
        split <;> omega
    have hcc := TR.cap_child (fuel := fuel) (i := i0) (s := sh) (j := j) (by omega) fun e => ⟨by omega, hjz e⟩
    refine w_nil ⟨show 1 ≤ sizeLine by decide, rv_catA (by rw [List.length_cons, hl]; show i + 1 + 1 ≤ 100000; omega) ?_⟩
    refine ⟨ns3, vs ++ [d], left - sh, used + sh, some (MR.dPart p), some (.int (sh : Nat)), rfl, ?_, rfl, by rw [List.length_append, hl]; rfl, by omega, more (.inr ⟨hbt, hd1⟩), ?_⟩
    · rw [← el]
      rfl
    · rw [hsum, Nat.add_mul]
      omega
def c__law_base (K : PySem.W.Frag) : Ct := fun L as ds O k e => ∃ (nms : List Str) (rows : List MR.Row), as = [] ∧ ds = [.lst (rows.map MR.dRow)] ∧ O = [] ∧ MR.Table nms rows ∧ ∀ q bs, TR.BaseOk rows bs → (∀ z ∈ nms, z ∈ TR.kds bs) → k [q] (.adr q) [.dk (TR.bsD bs)]
theorem l__law_base {K : PySem.W.Frag} : ∀ L as ds O k e, c__law_base K L as ds O k e → ds.length = 1 := fun L as ds O k e h => by
  obtain ⟨nms, rows, _, rfl, _⟩ := h
  rfl
set_option maxHeartbeats 4000000 in
theorem ok__law_base {P : Program} {w : World} {K : PySem.W.Frag} {mg : Str → Option Value} {base : Heap} (Z : Tx P w K mg) : FnOk P w K mg base (L2.CX P w) 1 (He.ga K "_law_base") (fdAt K ("_law_base", none)) ["_law_rows_here"] (spC (c__law_base K)) := by
  refine FunD.ok (k := 0) (F__law_base Z) sc__law_base (sp_len (n := 1) l__law_base) (fun cdv A outer s H vs Q E hr h => ⟨_, PSs.nox ((pss_cons (ps_set (i := 1) sc__law_base.nd rfl (Or.inr rfl) pe_dnewK)
  (pss_cons (ps_for PassesOwn.never rfl (pi_range1 (by rfl) (Z.free 13 rfl) (pa_cons pe_int pa_nil)) (pg_name (i := 2) sc__law_base.nd rfl (Or.inl rfl))
  (pss_one (ps_for PassesOwn.never rfl (pi_list (pv 0)) (pg_name (i := 3) sc__law_base.nd rfl (Or.inl rfl))
  (pss_cons (ps_setLc (i := 4) rfl sc__law_base.nd rfl rfl (sw_true rfl rfl rfl (by decide +kernel)) (pi_tup (pe_ix (r := rIxT K) ix_tup (pv 3) pe_int (fun _ _ => rfl))) (blkOk_by (own := [("_law_part", 5)]) (N := N__law_base) (sc := defScope s__law_base) (by decide +kernel)) (fun _ _ _ _ _ => (pg_name (i := 5) sc__law_base.nd rfl (by first | exact Or.inl rfl | exact Or.inr rfl))) (fun _ _ _ _ _ => (pts_one (PW.pt (pw_and (pt_cmpR op_ne (pe_ix (r := rIxT K) ix_tup (pv 5) pe_int (fun _ _ => rfl)) pe_str (nomark _)) (pw_and1 (pt_cmp (pc_dnotin (hu_of hr) (pe_ix (r := rIxT K) ix_tup (pv 5) pe_int (fun _ _ => rfl)) (pv 1)))))))) (fun _ _ _ _ _ => (pv 5)))
  (pss_one (ps_if (PW.pt (pw_and (pt_cmp (pc_dnotin (hu_of hr) (pe_ix (r := rIxT K) ix_tup (pv 3) pe_int (fun _ _ => rfl)) (pv 1))) (pw_and1 (pt_cmpR (op_eqD hr.units) (pv 4) (pe_lst pa_nil) (nomark _)))))
  (pss_one (ps_dput (hu_of hr) (pv 1) (pe_ix (r := rIxT K) ix_tup (pv 3) pe_int (fun _ _ => rfl)) (pv 3) rfl))
  pss_nil))))))
  (pss_one (ps_ret (pv 1)))))), enter h fun L as ds O k e c => ?_⟩)
  obtain ⟨nms, rows, rfl, rfl, rfl, hT, hk⟩ := c
  have hr10 := hT.some.len
  refine s_seq (s_set (w_dnew fun q => ?_))
  refine s_seq (s_for (i_range (w_cons (w_int (w_nil ⟨4, rfl, by decide, by decide, fun t as ρ O => ∃ (bs : List MR.Row) (x2 x3 x4 x5 : Option D), as = [q] ∧ ρ = [some (.lst (rows.map MR.dRow)), some (.adr q), x2, x3, x4, x5] ∧ O = [.dk (TR.bsD bs)] ∧ TR.BaseOk rows bs ∧ ∀ k z, nms.length ≤ k + t → nms[k]? = some z → z ∈ TR.kds bs, ⟨[], none, none, none, none, rfl, rfl, rfl, TR.BaseOk.nil, fun k z h1 h2 => by have := (List.getElem?_eq_some_iff.mp h2).1; omega⟩, ?_, ?_⟩)))))
  rotate_left
  · rintro as ρ O ⟨bs, x2, x3, x4, x5, rfl, rfl, rfl, hb, hall⟩
    refine s_ret (w_var rfl (hk q bs hb fun z mz => ?_))
    obtain ⟨k, hk⟩ := List.mem_iff_getElem?.mp mz
    rw [upto_len] at hall
    exact hall k z (by have := hT.few; show _ ≤ k + 4; omega) hk
  rintro t as ρ O c hc ⟨bs0, x2, x3, x4, x5, rfl, rfl, rfl, hb0, hall0⟩
  obtain ⟨_, rfl⟩ := upto_at hc
  refine g_name (s_for (i_list (w_var rfl ⟨_, rfl, fun i as ρ O => ∃ (bs : List MR.Row) (x3 x4 x5 : Option D), as = [q] ∧ ρ = [some (.lst (rows.map MR.dRow)), some (.adr q), some (.int (t : Nat)), x3, x4, x5] ∧ O = [.dk (TR.bsD bs)] ∧ TR.BaseOk rows bs ∧ (∀ z ∈ TR.kds bs0, z ∈ TR.kds bs) ∧ ∀ r ∈ rows.take i, (∀ p ∈ r.parts, p.inn = MR.byteS ∨ p.inn ∈ TR.kds bs0) → r.kind ∈ TR.kds bs, ⟨bs0, x3, x4, x5, rfl, rfl, rfl, hb0, (fun z m => m), fun r m => by simp at m⟩, ?_, ?_⟩)))
  rotate_left
  · rintro as ρ O ⟨bs, x3, x4, x5, rfl, rfl, rfl, hb, hs, hd⟩
    rw [List.length_map, List.take_length] at hd
    exact ⟨bs, _, _, _, _, rfl, rfl, rfl, hb, TR.base_turn hT hall0 hs hd⟩
  rintro i as ρ O c hc ⟨bs, x3, x4, x5, rfl, rfl, rfl, hb, hs, hd⟩
  rw [List.getElem?_map] at hc
  obtain ⟨r, hr, rfl⟩ := Option.map_eq_some_iff.mp hc
  have mr : r ∈ rows := List.mem_of_getElem? hr
  have et : rows.take (i + 1) = rows.take i ++ [r] := by rw [List.take_add_one, hr]; rfl
  have hpl : r.parts.length ≤ 4 := by
    obtain ⟨_, h⟩ := hT.some.parts r mr
    exact h.len
  refine g_name (s_seq (s_set (w_known (w_lc (α := MR.Part) (wg_name (by decide)) (i_tup (w_op (w_var rfl (w_int (MI.row2 r ⟨_, rfl, r.parts, MR.dPart, fun p => !(p.inn == MR.byteS) && !decide (p.inn ∈ TR.kds bs), MR.dPart, rfl, smallt (by omega), fun p mp => ?_, fun w => ⟨w, [q], _, [_], rfl, rfl, rfl, ?_⟩⟩)))))))))
  · refine g_name ⟨rfl, rfl, w_and (w_test (w_op (w_op (w_var rfl (w_int (MI.par1 p (w_str (rv_ne rfl ⟨_, rfl, ?_⟩))))))))⟩
    show if (!(p.inn == MR.byteS)) = true then _ else _
    cases hb1 : !(p.inn == MR.byteS) with
    | false => exact ⟨rfl, rfl, by show false = (!(p.inn == MR.byteS) && _); rw [hb1, Bool.false_and], fun z => by replace z : (!(p.inn == MR.byteS) && !decide (p.inn ∈ TR.kds bs)) = true := z; rw [hb1, Bool.false_and] at z; cases z⟩
    | true =>
      refine w_test (w_dnin (w_op (w_var rfl (w_int (MI.par1 p (w_var rfl ⟨.inr p.inn, TR.bsD bs, rfl, .inr ⟨0, q, rfl, rfl, rfl⟩, _, rfl, rfl, rfl, ?_, fun _ => w_var rfl ⟨rfl, rfl, rfl⟩⟩))))))
      show _ = (!(p.inn == MR.byteS) && !decide (p.inn ∈ TR.kds bs))
      rw [TR.bsD_some, hb1, Bool.true_and]
  have hemp : ((r.parts.filter fun p => !(p.inn == MR.byteS) && !decide (p.inn ∈ TR.kds bs)).map MR.dPart).isEmpty = TR.allIn bs r := by
    unfold TR.allIn
    cases r.parts.filter fun p => !(p.inn == MR.byteS) && !decide (p.inn ∈ TR.kds bs) <;> rfl
  have hpok : ∀ p ∈ r.parts, okD 1 (MR.dPart p) := fun p mp => by
    obtain ⟨_, h⟩ := hT.some.parts r mr
    have h1 := okD_str (MY.name_ok (h.name p mp).1)
    have h2 : okD 0 (.str p.inn) := by
      rcases h.ok p mp with ⟨e, _⟩ | ⟨m, _⟩
      · rw [e]
        exact okD_str (by decide +kernel)
      · exact okD_str (MY.name_ok (hT.names.name _ m).1)
    refine okD_tup fun d m => ?_
    rcases List.mem_cons.mp m with rfl | m
    · exact h1
    · rcases List.mem_cons.mp m with rfl | m
      · exact h2
      · cases hp : p.pr with
        | none => rw [hp] at m; cases m
        | some i =>
          rw [hp] at m
          rw [List.mem_singleton.mp m]
          exact okD_int
  have keep : r.kind ∈ TR.kds bs ∨ TR.allIn bs r = false → ∀ x ∈ rows.take (i + 1), (∀ p ∈ x.parts, p.inn = MR.byteS ∨ p.inn ∈ TR.kds bs0) → x.kind ∈ TR.kds bs := fun h x mx hx => by
    rw [et] at mx
    rcases List.mem_append.mp mx with mx | mx
    · exact hd x mx hx
    · rw [List.mem_singleton.mp mx] at hx ⊢
      rcases h with h | h
      · exact h
      · rw [TR.allIn_iff.mpr fun p mp => (hx p mp).imp id (hs _)] at h
        cases h
  refine s_if (w_and (w_test (w_dnin (w_op (w_var rfl (w_int (MI.row0 r (w_var rfl ⟨.inr r.kind, TR.bsD bs, rfl, .inr ⟨0, q, rfl, rfl, rfl⟩, _, rfl, ?_⟩))))))))
  rw [TR.bsD_some]
  refine i_bl (fun h1 => ?_) fun h1 => ?_
  · have hn : r.kind ∉ TR.kds bs := by simpa using h1
    refine w_test (w_op (w_var rfl (w_lstF (w_nil ⟨Nat.zero_le _, rv_eqNil rd_k (okD_lst (n := 1) fun d m => ?_) (by decide) ⟨_, rfl, ?_⟩⟩))))
    · obtain ⟨p, mp, rfl⟩ := List.mem_map.mp m
      exact hpok p (List.mem_filter.mp mp).1
    rw [hemp]
    refine i_bl (fun h2 => ?_) fun h2 => ?_
    · refine s_dput (w_var rfl (w_var rfl (w_op (w_var rfl (w_int (MI.row0 r ⟨0, q, .inr r.kind, TR.bsD bs, rfl, rfl, rfl, rfl, smallt (by have := TR.base_few hT hb; unfold TR.bsD; rw [List.length_map]; omega), ?_⟩))))))
      rw [TR.bsD_put hn]
      refine ⟨bs ++ [r], _, _, _, rfl, rfl, rfl, hb.snoc mr hn (TR.allIn_iff.mp h2), fun z mz => ?_, fun x mx hx => ?_⟩
      · rw [TR.kds_app]
        exact List.mem_append_left _ (hs z mz)
      · rw [TR.kds_app]
        rw [et] at mx
        rcases List.mem_append.mp mx with mx | mx
        · exact List.mem_append_left _ (hd x mx hx)
        · rw [List.mem_singleton.mp mx]
          exact List.mem_append_right _ (by simp [TR.kds])
    · exact s_next ⟨bs, _, _, _, rfl, rfl, rfl, hb, hs, keep (.inr h2)⟩
  · exact s_next ⟨bs, _, _, _, rfl, rfl, rfl, hb, hs, keep (.inl (by simpa using h1))⟩
theorem call_base {K : PySem.W.Frag} {χ : Xk} {L as : List Addr} {ρ : DSt} {O : List D} {k : List Addr → D → List D → Prop} {nms : List Str} {rows : List MR.Row} (hT : MR.Table nms rows) (hk : ∀ q bs, TR.BaseOk rows bs → (∀ z ∈ nms, z ∈ TR.kds bs) → k (as ++ [q]) (.adr q) (O ++ [.dk (TR.bsD bs)])) : cc (c__law_base K) χ ρ [] L as [.lst (rows.map MR.dRow)] O k :=
  ⟨(no_js (as := as)).1, (no_js (as := as)).2, nms, rows, rfl, rfl, rfl, hT, fun q bs h1 h2 => ckN (hk q bs h1 h2)⟩
def c__law_pack (K : PySem.W.Frag) : Nat → Ct
  | 0 => fun _ _ _ _ _ _ => False
  | n + 1 => fun L as ds O k e => ∃ (rows : List MR.Row) (sp : Str → List Str) (d : D) (kind : Str), as = [] ∧ ds = [.lst (rows.map MR.dRow), .dk (MY.spD (MY.spOf rows sp)), d] ∧ O = [] ∧ TR.Lay rows sp ∧ TR.fitB rows (n + 1) d kind = true ∧ TR.szT (n + 1) d ≤ 60000 ∧ ∀ q, k [q] (.adr q) [.lst (TR.natD (TR.packT rows sp (n + 1) d))]
theorem l__law_pack {K : PySem.W.Frag} (n : Nat) : ∀ L as ds O k e, c__law_pack K n L as ds O k e → ds.length = 3 := fun L as ds O k e h => by
  cases n with
  | zero => exact h.elim
  | succ n =>
    obtain ⟨rows, sp, d, kind, _, rfl, _⟩ := h
    rfl
theorem call_lpack {K : PySem.W.Frag} {χ : Xk} {L as : List Addr} {ρ : DSt} {O : List D} {k : List Addr → D → List D → Prop} {n : Nat} {rows : List MR.Row} {sp : Str → List Str} {d : D} {kind : Str} (hL : TR.Lay rows sp) (hf : TR.fitB rows n d kind = true) (hs : TR.szT n d ≤ 60000) (hk : ∀ q, k (as ++ [q]) (.adr q) (O ++ [.lst (TR.natD (TR.packT rows sp n d))])) : cc (c__law_pack K n) χ ρ [] L as [.lst (rows.map MR.dRow), .dk (MY.spD (MY.spOf rows sp)), d] O k := by
  cases n with
  | zero => cases hf
  | succ n => exact ⟨(no_js (as := as)).1, (no_js (as := as)).2, rows, sp, d, kind, rfl, rfl, rfl, hL, hf, hs, fun q => ckN (hk q)⟩
set_option maxHeartbeats 4000000 in
theorem ok__law_pack {P : Program} {w : World} {K : PySem.W.Frag} {mg : Str → Option Value} {base : Heap} (Z : Tx P w K mg) (n : Nat) : FnOk P w K mg base (L2.CX P w) (1 + n) (He.ga K "_law_pack") (fdAt K ("_law_pack", none)) ["_law_rows_here", "_law_specs", "_law_tree_here"] (spC (c__law_pack K n)) := by
  induction n with
  | zero => exact FunD.ok (k := 0) (F__law_pack Z) sc__law_pack (sp_len (n := 3) (l__law_pack 0)) (fun cdv A outer s H vs Q E hr h => by obtain ⟨_, _, _, _, _, _, _, _, _, _, c, _⟩ := h; exact c.elim)
  | succ n ih =>
  refine FunD.ok (k := 1 + n) (F__law_pack Z) sc__law_pack (sp_len (n := 3) (l__law_pack (n + 1))) (fun cdv A outer s H vs Q E hr h => ⟨_, PSs.nox ((pss_cons (ps_set (i := 3) sc__law_pack.nd rfl (Or.inr rfl) (pe_ix (r := rIxL K) ix_list (pe_lc rfl sc__law_pack.nd (pi_list (pv 0)) (blkOk_by (own := [("_law_row", 3)]) (N := N__law_pack) (sc := defScope s__law_pack) (by decide +kernel)) (fun _ _ _ _ _ => (pg_name (i := 3) sc__law_pack.nd rfl (by first | exact Or.inl rfl | exact Or.inr rfl))) (fun _ _ _ _ _ => (pts_one (pt_cmpR op_eq (pe_ix (r := rIxT K) ix_tup (pv 3) pe_int (fun _ _ => rfl)) (pe_ix (r := rIxT K) ix_tup (pv 2) pe_int (fun _ _ => rfl)) (nomark _)))) (fun _ _ _ _ _ => (pv 3))) pe_int (fun _ _ => rfl)))
  (pss_cons (ps_setLc (i := 4) rfl sc__law_pack.nd rfl rfl (sw_true rfl rfl rfl (by decide +kernel)) (pi_list (pv 0)) (blkOk_by (own := [("_law_other", 9)]) (N := N__law_pack) (sc := defScope s__law_pack) (by decide +kernel)) (fun _ _ _ _ _ => (pg_name (i := 9) sc__law_pack.nd rfl (by first | exact Or.inl rfl | exact Or.inr rfl))) (fun _ _ _ _ _ => (pts_one (pt_cmpR op_eq (pe_ix (r := rIxT K) ix_tup (pv 9) pe_int (fun _ _ => rfl)) (pe_ix (r := rIxT K) ix_tup (pv 3) pe_int (fun _ _ => rfl)) (nomark _)))) (fun _ _ _ _ _ => (pe_ix (r := rIxT K) ix_tup (pv 9) pe_int (fun _ _ => rfl))))
  (pss_cons (ps_setLc (i := 5) rfl sc__law_pack.nd rfl rfl (sw_true rfl rfl rfl (by decide +kernel)) (pi_tup (pe_ix (r := rIxT K) ix_tup (pv 3) pe_int (fun _ _ => rfl))) (blkOk_by (own := [("_law_part", 10)]) (N := N__law_pack) (sc := defScope s__law_pack) (by decide +kernel)) (fun _ _ _ _ _ => (pg_name (i := 10) sc__law_pack.nd rfl (by first | exact Or.inl rfl | exact Or.inr rfl))) (fun _ _ _ _ _ => pts_nil) (fun _ _ _ _ _ => (pe_ix (r := rIxT K) ix_tup (pv 10) pe_int (fun _ _ => rfl))))
  (pss_cons (ps_set (i := 6) sc__law_pack.nd rfl (Or.inl rfl) (pe_lst (pa_cons (pe_bm PySem.F.plainAttrs_list PySem.F.slot_list_index PySem.F.type_list_index mt_index (pv 4) (pa_cons (pe_ix (r := rIxT K) ix_tup (pv 2) pe_int (fun _ _ => rfl)) pa_nil)) pa_nil)))
  (pss_cons (ps_forR PassesOwn.never rfl rfl (pi_tup (pe_dget (hu_of hr) (pv 1) (pe_ix (r := rIxT K) ix_tup (pv 2) pe_int (fun _ _ => rfl)) (fun _ _ => rfl))) (pg_name (i := 7) sc__law_pack.nd rfl (Or.inl rfl))
  (psst_cons (pst_set (i := 8) sc__law_pack.nd rfl (Or.inl rfl) (pet_ix (r := rIxT K) ix_tup (CwR.PET.of (pv 2)) (CwR.pet_op op_add (CwR.PET.of pe_int) (pet_bm PySem.F.plainAttrs_list PySem.F.slot_list_index PySem.F.type_list_index mt_index (pv 5) (pat_cons (CwR.pet_replC (pv 7)) pat_nil))) (fun _ _ => rfl)))
  (CwR.psst_one (PST.of (ps_if (pt_val (pe_callB (r := rIsi K) call_isi (by rfl) (Z.free 40 rfl) PyProof.Rows.boot_isinstance (pa_cons (pv 8) (pa_cons (pe_bltn (v := .ty "int") (by rfl) (Z.free 12 rfl) PyProof.Rows.boot_int rfl) pa_nil))))
  (pss_one (ps_expr (pe_bm PySem.F.plainAttrs_list PySem.F.slot_list_append PySem.F.type_list_append mt_append (pv 6) (pa_cons (pv 8) pa_nil))))
  (pss_cons (ps_set (i := 11) sc__law_pack.nd rfl (Or.inl rfl) (pe_call ih (hr.mono (by omega)) (by rfl) (Z.glo 44 rfl) (Z.kp 16 rfl) (b__law_pack Z) .nil passN (pa_cons (pv 0) (pa_cons (pv 1) (pa_cons (pv 8) pa_nil)))))
  (pss_cons (ps_if (pt_cmpR op_eq (pe_ix (r := rIxS) ix_str (pv 7) pe_int (fun _ _ => rfl)) pe_str (nomark _))
  (pss_one (ps_set (i := 6) sc__law_pack.nd rfl (Or.inl rfl) (pe_op op_cat (pv 6) (pe_lst (pa_cons (pe_op op_fdiv (pe_callB (r := fun xs H Q => ∃ x n, xs = [x] ∧ LenV K x H n ∧ Q (.int n) H) call_len (by rfl) (Z.free 15 rfl) PySem.boot_len (pa_cons (pv 11) pa_nil)) pe_int) (pa_cons (pe_op op_mod (pe_callB (r := fun xs H Q => ∃ x n, xs = [x] ∧ LenV K x H n ∧ Q (.int n) H) call_len (by rfl) (Z.free 15 rfl) PySem.boot_len (pa_cons (pv 11) pa_nil)) pe_int) pa_nil))))))
  pss_nil)
  (pss_one (ps_set (i := 6) sc__law_pack.nd rfl (Or.inl rfl) (pe_op op_cat (pv 6) (pv 11)))))))))))
  (pss_one (ps_ret (pv 6))))))))), enter h fun L as ds O k e c => ?_⟩)
  obtain ⟨rows, sp, d, kind, rfl, rfl, rfl, hL, hfit, hsz, hk⟩ := c
  obtain ⟨n', en, r, mr, vs, rfl, rfl, hf, hv⟩ := TR.fit_inv hfit
  cases en
  have hn := hL.neat r mr
  have hr10 := hL.len
  have hpk := TR.pack_len hL hfit
  rw [TR.pack_mk hf] at hk hpk
  have hspl : (sp r.maker).length ≤ 4 := by rw [(hL.spec r mr).len]; exact hn.len
  have hstr := MY.spec_strs hn.name (hL.spec r mr)
  have h0 : ∀ {χ : Xk} {as : List Addr} {ρ : DSt} {O : List D} {k : List Addr → D → List D → Prop}, ρ[2]? = some (some (.tup (.str r.maker :: vs))) → k as (.str r.maker) O → dE χ (tOp (rIxT K) (tVar 2) (tC (.int 0))) L as ρ O k := fun e z => w_op (w_var e (w_int (rv_ixT (d := .str r.maker) TR.at0 z)))
  -- the row
  refine s_seq (s_set (w_op (w_known (w_lc (α := MR.Row) (wg_name (by decide)) (i_list (w_var rfl ⟨_, rfl, rows, MR.dRow, fun x => x.maker == r.maker, MR.dRow, rfl, smallt (by omega), fun x m => ?_, fun w => ⟨w, [], _, [], rfl, rfl, rfl, ?_⟩⟩))))))
  · exact g_name ⟨rfl, rfl, w_test (w_op (w_op (w_var rfl (w_int (MI.row1 x (h0 rfl (rv_eq rfl ⟨_, rfl, rfl, rfl, rfl, fun _ => w_var rfl ⟨rfl, rfl, rfl⟩⟩)))))))⟩
  have hhead : (rows.filter fun x => x.maker == r.maker)[0]? = some r := TR.filter_head hf
  refine w_int (rv_ixL (d := MR.dRow r) (atI_nat (j := 0) (by rw [List.getElem?_map, hhead]; rfl)) ?_)
  -- the family
  refine s_seq (s_set (w_known (w_lc (α := MR.Row) (wg_name (by decide)) (i_list (w_var rfl ⟨_, rfl, rows, MR.dRow, fun x => decide (x.kind = r.kind), fun x => .str x.maker, rfl, smallt (by omega), fun x m => ?_, fun w => ⟨w, [], _, [], rfl, rfl, rfl, ?_⟩⟩)))))
  · exact g_name ⟨rfl, rfl, w_test (w_op (w_op (w_var rfl (w_int (MI.row0 x (w_op (w_var rfl (w_int (MI.row0 r (rv_eq rfl ⟨_, rfl, rfl, rfl, rfl, fun _ => w_op (w_var rfl (w_int (MI.row1 x ⟨rfl, rfl, rfl⟩)))⟩))))))))))⟩
  rw [show (rows.filter fun x => decide (x.kind = r.kind)).map (fun x => D.str x.maker) = (MI.makersOf r.kind rows).map D.str from by unfold MI.makersOf; rw [List.map_map]; rfl]
  -- the names
  refine s_seq (s_set (w_known (w_map (α := MR.Part) (wg_name (by decide)) (i_tup (w_op (w_var rfl (w_int (MI.row2 r ⟨_, rfl, r.parts, MR.dPart, fun p => .str p.nm, rfl, smallt (by have := hn.len; omega), fun p mp => ?_, fun w => ⟨w, [], _, [], rfl, rfl, rfl, ?_⟩⟩))))))))
  · exact g_name ⟨rfl, rfl, w_op (w_var rfl (w_int (MI.par0 p ⟨rfl, rfl, rfl⟩)))⟩
  rw [show r.parts.map (fun p => D.str p.nm) = (r.parts.map (·.nm)).map D.str from by rw [List.map_map]; rfl]
  refine s_seq (s_set (w_lst (w_cons (w_bmR (w_var rfl ⟨⟨_, .inl (.inl rfl)⟩, rfl, w_cons (h0 rfl (w_nil (rm_index (.inl (.inl rfl)) (MI.makers_nd hL.nd r.kind) (TR.tag_get hL.nd mr) (w_nil ⟨show 1 ≤ sizeLine by decide, fun q => ?_⟩))))⟩)))))
  have hvsp : valD (MY.spD (MY.spOf rows sp)) (.inr r.maker) = some (MY.specD (sp r.maker)) := by rw [MY.valD_spD, MY.lookup_spOf (List.mem_map_of_mem mr)]; rfl
  generalize hg : (fun z => TR.slotT (TR.packT rows sp n) z (TR.valOf r.parts vs (MY.rmp z))) = g at hk hpk
  have gg : ∀ z, g z = TR.slotT (TR.packT rows sp n) z (TR.valOf r.parts vs (MY.rmp z)) := fun z => by rw [← hg]
  refine s_seq (s_for (i_tup (w_dget (w_var rfl (h0 rfl ⟨rfl, rfl, .inr r.maker, _, _, rfl, .inl (.inl rfl), hvsp, _, rfl, fun i as ρ O => ∃ (q : Addr) (x7 x8 x11 : Option D), as = [q] ∧ ρ = [some (.lst (rows.map MR.dRow)), some (.dk (MY.spD (MY.spOf rows sp))), some (.tup (.str r.maker :: vs)), some (MR.dRow r), some (.lst ((MI.makersOf r.kind rows).map D.str)), some (.lst ((r.parts.map (·.nm)).map D.str)), some (.adr q), x7, x8, none, none, x11] ∧ O = [.lst (TR.natD (TR.tagOf rows r :: ((sp r.maker).take i).flatMap g))], ⟨q, none, none, none, rfl, rfl, rfl⟩, ?_, ?_⟩)))))
  rotate_left
  · rintro as ρ O ⟨q, x7, x8, x11, rfl, rfl, rfl⟩
    rw [List.length_map, List.take_length]
    exact s_ret (w_var rfl (hk q))
  rintro i as ρ O c hc ⟨q, x7, x8, x11, rfl, rfl, rfl⟩
  rw [List.getElem?_map] at hc
  obtain ⟨z, hz, rfl⟩ := Option.map_eq_some_iff.mp hc
  have mz := List.mem_of_getElem? hz
  have et : (sp r.maker).take (i + 1) = (sp r.maker).take i ++ [z] := by rw [List.take_add_one, hz]; rfl
  obtain ⟨pt, mp, ep⟩ := List.mem_map.mp (hL.name_in mr mz)
  obtain ⟨c0, hc0, hsgn, hrep⟩ := TR.slot_sign hn (hL.spec r mr) mz
  have hgz := gg z
  rw [← ep] at hgz
  have hpre : (TR.tagOf rows r :: ((sp r.maker).take (i + 1)).flatMap g).length ≤ 60000 := by
    refine Nat.le_trans ?_ (Nat.le_trans hpk hsz)
    rw [List.length_cons, List.length_cons]
    have : ((sp r.maker).take (i + 1)).flatMap g ++ ((sp r.maker).drop (i + 1)).flatMap g = (sp r.maker).flatMap g := by rw [← List.flatMap_append, List.take_append_drop]
    have := congrArg List.length this
    rw [List.length_append] at this
    omega
  rw [et, List.flatMap_append, List.flatMap_cons, List.flatMap_nil, List.append_nil, List.length_cons, List.length_append] at hpre
  have hlp : (TR.natD (TR.tagOf rows r :: ((sp r.maker).take i).flatMap g)).length = (((sp r.maker).take i).flatMap g).length + 1 := by rw [TR.natD_len, List.length_cons]
  -- the value
  obtain ⟨j, hj⟩ := List.mem_iff_getElem?.mp mp
  have hjv : j < vs.length := by rw [hv.1]; exact (List.getElem?_eq_some_iff.mp hj).1
  have hvj : vs[j]? = some (TR.valOf r.parts vs pt.nm) := by
    have e := List.getElem?_eq_getElem hjv
    rw [TR.valOf_at hn.nd hj e]
    exact e
  have hjn : (r.parts.map (·.nm))[j]? = some pt.nm := by rw [List.getElem?_map, hj]; rfl
  refine g_name (s_seq (s_set (w_op (w_var rfl (w_op (w_int (w_bmR (w_var rfl ⟨⟨_, .inl (.inl rfl)⟩, rfl, w_cons (w_repl (w_var rfl ⟨z, rfl, by have := (hstr z mz).2; omega, Nat.zero_le _, w_nil ?_⟩))⟩))))))))
  rw [hrep, ← ep]
  refine rm_index (.inl (.inl rfl)) hn.nd hjn (rv_i0 (rv_ixT (d := TR.valOf r.parts vs pt.nm) ?_ ?_))
  · show atI (D.str r.maker :: vs) ((1 : Int) + (j : Int)) = _
    rw [show (1 : Int) + (j : Int) = ((j + 1 : Nat) : Int) by omega]
    exact atI_nat hvj
  have hvm := TR.valOf_mem hn.nd hv.1 mp
  rcases hv.of hn.nd mp with ⟨hb, b, _, ev⟩ | ⟨hb, ht⟩
  · rw [ev]
    rw [ev] at hgz
    refine s_if (w_test (w_ty (d := .int (b : Nat)) (t := "int") (n := "int") (b := true) (tr := tNil) (kA := fun _ _ _ => True) rfl (by rfl) ⟨_, rfl, ?_⟩ (w_var rfl ⟨rfl, rfl, rfl⟩)))
    refine s_drop (w_append 0 rfl rfl rfl (w_var rfl ⟨_, rfl, rfl, smallt (by omega), ?_⟩))
    refine ⟨q, _, _, _, rfl, rfl, ?_⟩
    rw [et, List.flatMap_append, List.flatMap_cons, List.flatMap_nil, List.append_nil, ← List.cons_append, TR.natD_app _ (g z), hgz]
    rfl
  · rw [TR.slotT_ne (TR.tree_int ht)] at hgz
    have hszc := TR.fit_szv (rows := rows) (n := n) (r := r) hvm
    have hpl := TR.pack_len hL ht
    have htd := TR.fit_inv ht
    obtain ⟨_, _, r', _, vs', ed, _⟩ := htd
    have hty : tyD (TR.valOf r.parts vs pt.nm) = some "tuple" := by rw [ed]; rfl
    refine s_if (w_test (w_ty (d := TR.valOf r.parts vs pt.nm) (t := "tuple") (n := "int") (b := false) (tr := tNil) (kA := fun _ _ _ => True) hty (by rfl) ⟨_, rfl, ?_⟩ (w_var rfl ⟨rfl, rfl, rfl⟩)))
    refine s_seq (s_set (w_known (d_call [] (w_cons (w_var rfl (w_cons (w_var rfl (w_cons (w_var rfl (w_nil (call_lpack hL ht (by omega) fun q3 => ⟨q3, [q], _, [_], rfl, rfl, rfl, ?_⟩)))))))))))
    generalize hw : TR.packT rows sp n (TR.valOf r.parts vs pt.nm) = ws at hgz hpl
    have hlw : (TR.natD ws).length = ws.length := TR.natD_len _
    have hgl := congrArg List.length hgz
    refine s_mid (N := fun as ρ O => ∃ q, as = [q] ∧ ρ = [some (.lst (rows.map MR.dRow)), some (.dk (MY.spD (MY.spOf rows sp))), some (.tup (.str r.maker :: vs)), some (MR.dRow r), some (.lst ((MI.makersOf r.kind rows).map D.str)), some (.lst ((r.parts.map (·.nm)).map D.str)), some (.adr q), some (.str z), some (TR.valOf r.parts vs pt.nm), none, none, some (.lst (TR.natD ws))] ∧ O = [.lst (TR.natD (TR.tagOf rows r :: ((sp r.maker).take i).flatMap g) ++ TR.natD (if z = MY.rmp z then [] else [ws.length / 256, ws.length % 256]))]) (s_if (w_test (w_op (w_op (w_var rfl (w_int (rv_ixS (small (by have := (hstr z mz).2; omega)) hc0 (w_str (rv_eq rfl ⟨_, rfl, ?_⟩))))))))) ?_
    · show if ((⟨#[c0]⟩ : Str) == ("+" : Str)) = true then _ else _
      rw [hsgn]
      refine i_bl (fun h => ?_) fun h => ?_
      · have hz2 : z ≠ MY.rmp z := by simpa using h
        rw [if_neg hz2, List.length_cons, List.length_cons] at hgl
        refine s_set (w_let 0 (w_op (w_var rfl (w_lstF (w_cons (w_op (w_cb (w_cons (w_var rfl (w_nil (rc_len (n := ws.length) hlw.symm (w_int (rv_i (show (0 : Int) < 256 ∧ (256 : Int) < 1073741824 by decide) (w_cons (w_op (w_cb (w_cons (w_var rfl (w_nil (rc_len (n := ws.length) hlw.symm (w_int (rv_i (show (0 : Int) < 256 by decide) (w_nil ⟨show 2 ≤ sizeLine by decide, ?_⟩)))))))))))))))))))))))
        refine rv_cat (lo_o 0 rfl rfl) lo_f (small (by rw [hlp]; show _ + 2 ≤ 100000; omega)) fun p => ⟨p, rfl, rfl, ?_⟩
        rw [if_neg hz2]
        rfl
      · have hz2 : z = MY.rmp z := by simpa using h
        refine s_next ⟨q, rfl, rfl, ?_⟩
        rw [if_pos hz2]
        exact (List.append_nil _).symm ▸ rfl
    · rintro as ρ O ⟨q, rfl, rfl, rfl⟩
      refine s_set (w_let 0 (w_op (w_var rfl (w_var rfl (rv_cat (lo_o 0 rfl rfl) lo_f ?_ fun p => ?_)))))
      · refine small ?_
        rw [List.length_append, hlp, hlw, TR.natD_len]
        split at hgl
        · rename_i h
          rw [if_pos h]
          show _ + 0 + _ ≤ _
          omega
        · rename_i h
          rw [if_neg h]
          rw [List.length_cons, List.length_cons] at hgl
          show _ + 2 + _ ≤ _
          omega
      · have hg2 : g z = (if z = MY.rmp z then [] else [ws.length / 256, ws.length % 256]) ++ ws := by
          rw [hgz]
          split <;> rfl
        refine ⟨p, _, _, _, rfl, rfl, ?_⟩
        rw [et, List.flatMap_append, List.flatMap_cons, List.flatMap_nil, List.append_nil, ← List.cons_append, TR.natD_app _ (g z), hg2, TR.natD_app _ ws, ← List.append_assoc]
        rfl
theorem lp_put {rows : List MR.Row} (nd : (rows.map (·.maker)).Nodup) {g : MR.Row → D} {i : Nat} {r : MR.Row} (h : rows[i]? = some r) (d : D) : putDk ((rows.take i).map fun r => ((.inr r.maker : Key), g r)) (.inr r.maker) d = ((rows.take i).map fun r => ((.inr r.maker : Key), g r)) ++ [(.inr r.maker, d)] := by
  have hno : (((rows.take i).map fun r => ((.inr r.maker : Key), g r)).any fun kv => decide (kv.1 = (.inr r.maker : Key))) = false := by
    rw [List.any_eq_false]
    intro kv m e
    obtain ⟨q, mq, rfl⟩ := List.mem_map.mp m
    have hq : q = r := MW.map_inj nd (List.mem_of_mem_take mq) (List.mem_of_getElem? h) (Sum.inr.inj (of_decide_eq_true e))
    subst hq
    obtain ⟨j, hj⟩ := List.mem_iff_getElem?.mp mq
    rw [List.getElem?_take] at hj
    split at hj
    · rename_i hji
      have hnd2 : rows.Nodup := (List.pairwise_map.mp nd).imp fun h e => h (by rw [e])
      have := (List.getElem?_inj (by have := (List.getElem?_eq_some_iff.mp h).1; omega) hnd2).mp (hj.trans h.symm)
      omega
    · cases hj
  unfold putDk
  rw [hno, if_neg (by decide)]
def c__law_plain (K : PySem.W.Frag) : Ct := fun L as ds O k e => ∃ (rows : List MR.Row), as = [] ∧ ds = [.lst (rows.map MR.dRow)] ∧ O = [] ∧ (rows.map (·.maker)).Nodup ∧ rows.length ≤ 10 ∧ (∀ r ∈ rows, r.parts.length ≤ 4) ∧ ∀ q, k [q] (.adr q) [.dk (MY.spD (MY.spOf rows (SE.plS rows)))]
theorem l__law_plain {K : PySem.W.Frag} : ∀ L as ds O k e, c__law_plain K L as ds O k e → ds.length = 1 := fun L as ds O k e h => by
  obtain ⟨rows, _, rfl, _⟩ := h
  rfl
set_option maxHeartbeats 4000000 in
theorem ok__law_plain {P : Program} {w : World} {K : PySem.W.Frag} {mg : Str → Option Value} {base : Heap} (Z : Tx P w K mg) : FnOk P w K mg base (L2.CX P w) 1 (He.ga K "_law_plain") (fdAt K ("_law_plain", none)) ["_law_rows_here"] (spC (c__law_plain K)) := by
  refine FunD.ok (k := 0) (F__law_plain Z) sc__law_plain (sp_len (n := 1) l__law_plain) (fun cdv A outer s H vs Q E hr h => ⟨_, PSs.nox ((pss_cons (ps_set (i := 1) sc__law_plain.nd rfl (Or.inl rfl) pe_dnewK)
  (pss_cons (ps_for PassesOwn.never rfl (pi_list (pv 0)) (pg_name (i := 2) sc__law_plain.nd rfl (Or.inl rfl))
  (pss_one (ps_dput (hu_of hr) (pv 1) (pe_ix (r := rIxT K) ix_tup (pv 2) pe_int (fun _ _ => rfl)) (pe_callTy call_tuple_of (by rfl) (Z.free 17 rfl) PyProof.Rows.boot_tuple (pa_cons (pe_lc rfl sc__law_plain.nd (pi_tup (pe_ix (r := rIxT K) ix_tup (pv 2) pe_int (fun _ _ => rfl))) (blkOk_by (own := [("_law_part", 3)]) (N := N__law_plain) (sc := defScope s__law_plain) (by decide +kernel)) (fun _ _ _ _ _ => (pg_name (i := 3) sc__law_plain.nd rfl (by first | exact Or.inl rfl | exact Or.inr rfl))) (fun _ _ _ _ _ => pts_nil) (fun _ _ _ _ _ => (pe_ix (r := rIxT K) ix_tup (pv 3) pe_int (fun _ _ => rfl)))) pa_nil)) rfl)))
  (pss_one (ps_ret (pv 1)))))), enter h fun L as ds O k e c => ?_⟩)
  obtain ⟨rows, rfl, rfl, rfl, hnd, hlen, h4, hk⟩ := c
  refine s_seq (s_set (w_dnew fun w => ?_))
  refine s_seq (s_for (i_list (w_var rfl ⟨_, rfl, fun i as ρ O => ∃ x2 : Option D, as = [w] ∧ ρ = [some (.lst (rows.map MR.dRow)), some (.adr w), x2, none] ∧ O = [.dk ((rows.take i).map fun r => (.inr r.maker, MY.specD (SE.plS rows r.maker)))], ⟨none, rfl, rfl, rfl⟩, ?_, ?_⟩)))
  rotate_left
  · rintro as ρ O ⟨x2, rfl, rfl, rfl⟩
    rw [List.length_map, List.take_length]
    have hk := hk w
    unfold MY.spD MY.spOf at hk
    rw [List.map_map] at hk
    exact s_ret (w_var rfl hk)
  rintro i as ρ O c hc ⟨x2, rfl, rfl, rfl⟩
  rw [List.getElem?_map] at hc
  obtain ⟨r, hr, rfl⟩ := Option.map_eq_some_iff.mp hc
  have mr := List.mem_of_getElem? hr
  have h4r := h4 r mr
  refine g_name (s_dput (w_cb (w_cons (w_known (w_map (α := MR.Part) (wg_name (by decide)) (i_tup (w_op (w_var rfl (w_int (MI.row2 r ⟨_, rfl, r.parts, MR.dPart, fun p => .str p.nm, rfl, smallt (by omega), fun p mp => ?_, fun q => ⟨q, [w], _, [_], rfl, rfl, rfl, w_nil ?_⟩⟩))))))))))
  · exact g_name ⟨rfl, rfl, w_op (w_var rfl (w_int (MI.par0 p ⟨rfl, rfl, rfl⟩)))⟩
  refine rc_tupL (.inl (.inl rfl)) (w_var rfl (w_op (w_var rfl (w_int (MI.row1 r ⟨0, w, .inr r.maker, _, rfl, rfl, rfl, rfl, smallt (by rw [List.length_map, List.length_take]; omega), ?_⟩)))))
  rw [lp_put hnd hr]
  refine ⟨_, rfl, rfl, ?_⟩
  rw [MF.tk hr, List.map_append]
  show [_] = [_]
  congr 2
  show _ = _ ++ [((.inr r.maker : Key), MY.specD (SE.plS rows r.maker))]
  unfold MY.specD
  rw [SE.pl_of hnd mr, List.map_map]
  rfl
theorem rv_ltI {L : List Addr} {as : List Addr} {O : List D} {k : List Addr → D → List D → Prop} {KK : PySem.W.Frag} {ns ms : List Int} (z : k as (.bl (HT.lexLt ns ms)) O) : rv (rLtD KK) L as O (.lst (ns.map D.int)) (.lst (ms.map D.int)) k := fun F H x y hd ow r1 r2 Q q => by
  have dp : ∀ {v : V} {l : List Int}, R F v (.lst (l.map D.int)) → Dp KK H v (.list (l.map PyData.int)) := fun {v l} r => by
    cases r with
    | lst e2 r2 =>
      rw [r2.ints] at e2
      exact .lst (SqL.of (hd.lst e2)) (ints_dp l)
  refine ⟨_, _, dp r1, dp r2, ints_alike ns ms, (fun e => by cases e), ?_, ?_⟩
  · show min (PyData.depthAll (ns.map PyData.int) + 1) _ ≤ 64
    rw [ints_depth]
    exact Nat.le_trans (Nat.min_le_left _ _) (by decide)
  · rw [PySem.W.dataLt_list, ints_lt]
    exact q F H as O _ _ (.refl ..) hd ow (.bl _) z
theorem ll_rk {a b : List Nat} (ha : SE.Byt a) (hb : SE.Byt b) : decide (SE.rk a < SE.rk b) = if (a.length : Int) < (b.length : Int) then true else if (a.length : Int) = (b.length : Int) then HT.lexLt (a.map fun (n : Nat) => (n : Int)) (b.map fun (n : Nat) => (n : Int)) else false := by
  by_cases h : (a.length : Int) < (b.length : Int)
  · rw [if_pos h]
    exact decide_eq_true (SE.rk_short ha (by omega))
  · rw [if_neg h]
    by_cases e : (a.length : Int) = (b.length : Int)
    · have e2 : a.length = b.length := by omega
      rw [if_pos e, SE.lex_val ha hb e2]
      unfold SE.rk
      rw [e2]
      congr 1
      apply propext
      constructor <;> intro <;> omega
    · rw [if_neg e]
      have := SE.rk_short hb (a := b) (b := a) (by omega)
      exact decide_eq_false (by omega)
def c__law_less (K : PySem.W.Frag) : Ct := fun L as ds O k e => ∃ (rows : List MR.Row) (sp : Str → List Str) (d d2 : D) (kind kind2 : Str), as = [] ∧ ds = [.lst (rows.map MR.dRow), d, d2] ∧ O = [] ∧ TR.Lay rows sp ∧ TR.fitB rows 40 d kind = true ∧ TR.szT 40 d ≤ 60000 ∧ TR.fitB rows 40 d2 kind2 = true ∧ TR.szT 40 d2 ≤ 60000 ∧ k [] (.bl (decide (SE.rkT rows d < SE.rkT rows d2))) []
theorem l__law_less {K : PySem.W.Frag} : ∀ L as ds O k e, c__law_less K L as ds O k e → ds.length = 3 := fun L as ds O k e h => by
  obtain ⟨rows, sp, d, d2, kind, kind2, _, rfl, _⟩ := h
  rfl
set_option maxHeartbeats 4000000 in
theorem ok__law_less {P : Program} {w : World} {K : PySem.W.Frag} {mg : Str → Option Value} {base : Heap} (Z : Tx P w K mg) : FnOk P w K mg base (L2.CX P w) 42 (He.ga K "_law_less") (fdAt K ("_law_less", none)) ["_law_rows_here", "_law_one", "_law_other"] (spC (c__law_less K)) := by
  refine FunD.ok (k := 41) (F__law_less Z) sc__law_less (sp_len (n := 3) l__law_less) (fun cdv A outer s H vs Q E hr h => ⟨_, PSs.nox ((pss_cons (ps_set (i := 3) sc__law_less.nd rfl (Or.inl rfl) (pe_call (ok__law_pack Z 40) (hr.mono (by decide)) (by rfl) (Z.glo 44 rfl) (Z.kp 16 rfl) (b__law_pack Z) .nil passN (pa_cons (pv 0) (pa_cons (pe_call (ok__law_plain Z) (hr.mono (by decide)) (by rfl) (Z.glo 45 rfl) (Z.kp 17 rfl) (b__law_plain Z) .nil passN (pa_cons (pv 0) pa_nil)) (pa_cons (pv 1) pa_nil)))))
  (pss_cons (ps_set (i := 4) sc__law_less.nd rfl (Or.inl rfl) (pe_call (ok__law_pack Z 40) (hr.mono (by decide)) (by rfl) (Z.glo 44 rfl) (Z.kp 16 rfl) (b__law_pack Z) .nil passN (pa_cons (pv 0) (pa_cons (pe_call (ok__law_plain Z) (hr.mono (by decide)) (by rfl) (Z.glo 45 rfl) (Z.kp 17 rfl) (b__law_plain Z) .nil passN (pa_cons (pv 0) pa_nil)) (pa_cons (pv 2) pa_nil)))))
  (pss_one (ps_ret (pe_or (pe_cmpR op_lt (pe_callB (r := fun xs H Q => ∃ x n, xs = [x] ∧ LenV K x H n ∧ Q (.int n) H) call_len (by rfl) (Z.free 15 rfl) PySem.boot_len (pa_cons (pv 3) pa_nil)) (pe_callB (r := fun xs H Q => ∃ x n, xs = [x] ∧ LenV K x H n ∧ Q (.int n) H) call_len (by rfl) (Z.free 15 rfl) PySem.boot_len (pa_cons (pv 4) pa_nil)) (nomark _)) (pe_one (pe_and (pe_cmpR op_eq (pe_callB (r := fun xs H Q => ∃ x n, xs = [x] ∧ LenV K x H n ∧ Q (.int n) H) call_len (by rfl) (Z.free 15 rfl) PySem.boot_len (pa_cons (pv 3) pa_nil)) (pe_callB (r := fun xs H Q => ∃ x n, xs = [x] ∧ LenV K x H n ∧ Q (.int n) H) call_len (by rfl) (Z.free 15 rfl) PySem.boot_len (pa_cons (pv 4) pa_nil)) (nomark _)) (pe_one (pe_cmpR (op_ltD hr.units) (pv 3) (pv 4) (nomark _))))))))))), enter h fun L as ds O k e c => ?_⟩)
  obtain ⟨rows, sp, d, d2, kind, kind2, rfl, rfl, rfl, hL, hf, hs, hf2, hs2, hk⟩ := c
  have h4 : ∀ r ∈ rows, r.parts.length ≤ 4 := fun r m => (hL.neat r m).len
  have hP := SE.pl_lay hL
  refine s_seq (s_set (w_known (d_call [] (w_cons (w_var rfl (w_cons (w_known (d_call [] (w_cons (w_var rfl (w_nil ⟨(no_js (as := [])).1, (no_js (as := [])).2, rows, rfl, rfl, rfl, hL.nd, hL.len, h4, fun q => ⟨[q], [_], [], rfl, rfl, rfl, q, [], _, [], rfl, rfl, rfl, w_cons (w_var rfl (w_nil (call_lpack hP hf hs fun q2 => ⟨q2, [], _, [], rfl, rfl, rfl, ?_⟩)))⟩⟩)))))))))))
  refine s_seq (s_set (w_known (d_call [] (w_cons (w_var rfl (w_cons (w_known (d_call [] (w_cons (w_var rfl (w_nil ⟨(no_js (as := [])).1, (no_js (as := [])).2, rows, rfl, rfl, rfl, hL.nd, hL.len, h4, fun q => ⟨[q], [_], [], rfl, rfl, rfl, q, [], _, [], rfl, rfl, rfl, w_cons (w_var rfl (w_nil (call_lpack hP hf2 hs2 fun q2 => ⟨q2, [], _, [], rfl, rfl, rfl, ?_⟩)))⟩⟩)))))))))))
  have hb1 := SE.prow_byt hL (Nat.le_refl 40) hf
  have hb2 := SE.prow_byt hL (Nat.le_refl 40) hf2
  have hr := ll_rk hb1 hb2
  have hk : k [] (.bl (decide (SE.rk (SE.prow rows d) < SE.rk (SE.prow rows d2)))) [] := hk
  rw [hr] at hk
  have e1 : ∀ l : List Nat, TR.natD l = (l.map fun (n : Nat) => (n : Int)).map D.int := fun l => by
    unfold TR.natD
    rw [List.map_map]
    rfl
  have ea : TR.packT rows (SE.plS rows) 40 d = SE.prow rows d := rfl
  have eb : TR.packT rows (SE.plS rows) 40 d2 = SE.prow rows d2 := rfl
  rw [ea, eb]
  generalize SE.prow rows d = a at hk
  generalize SE.prow rows d2 = b at hk
  have hla : (TR.natD a).length = a.length := TR.natD_len a
  have hlb : (TR.natD b).length = b.length := TR.natD_len b
  refine s_ret (w_orV (w_op (w_cb (w_cons (w_var rfl (w_nil (rc_len (n := a.length) hla.symm (w_cb (w_cons (w_var rfl (w_nil (rc_len (n := b.length) hlb.symm (rv_b0 ⟨_, rfl, ?_⟩)))))))))))))
  by_cases h : (a.length : Int) < (b.length : Int)
  · rw [if_pos h] at hk
    rw [decide_eq_true h, if_pos rfl]
    exact hk
  · rw [if_neg h] at hk
    rw [decide_eq_false h, if_neg (by decide)]
    refine w_andV (w_op (w_cb (w_cons (w_var rfl (w_nil (rc_len (n := a.length) hla.symm (w_cb (w_cons (w_var rfl (w_nil (rc_len (n := b.length) hlb.symm (rv_eq rfl ⟨_, rfl, ?_⟩))))))))))))
    show if ((a.length : Int) == (b.length : Int)) = true then _ else _
    by_cases e : (a.length : Int) = (b.length : Int)
    · rw [if_pos e] at hk
      rw [beq_iff_eq.mpr e, if_pos rfl]
      refine w_op (w_var rfl (w_var rfl ?_))
      rw [e1, e1]
      exact rv_ltI hk
    · rw [if_neg e] at hk
      rw [beq_eq_false_iff_ne.mpr e, if_neg (by decide)]
      exact hk
theorem call_lless {K : PySem.W.Frag} {χ : Xk} {L as : List Addr} {ρ : DSt} {O : List D} {k : List Addr → D → List D → Prop} {rows : List MR.Row} {sp : Str → List Str} {d d2 : D} {kind kind2 : Str} (hL : TR.Lay rows sp) (h1 : TR.fitB rows 40 d kind = true) (h2 : TR.szT 40 d ≤ 60000) (h3 : TR.fitB rows 40 d2 kind2 = true) (h4 : TR.szT 40 d2 ≤ 60000) (hk : k as (.bl (decide (SE.rkT rows d < SE.rkT rows d2))) O) : cc (c__law_less K) χ ρ [] L as [.lst (rows.map MR.dRow), d, d2] O k :=
  ⟨(no_js (as := as)).1, (no_js (as := as)).2, rows, sp, d, d2, kind, kind2, rfl, rfl, rfl, hL, h1, h2, h3, h4, ck0 hk⟩
def c_law (K : PySem.W.Frag) : Ct := fun L as ds O k e => ∃ (d : D) (ns : List Int), L = [] ∧ as = [] ∧ ds = [d] ∧ O = [] ∧ lstR [] [] K d (ns.map D.int) ∧ ns.length ≤ 63 ∧ ∀ as' O', k as' (.bl true) O'
theorem l_law {K : PySem.W.Frag} : ∀ L as ds O k e, c_law K L as ds O k e → ds.length = 1 := fun L as ds O k e h => by
  obtain ⟨d, ns, _, _, rfl, _⟩ := h
  rfl
theorem sum_cap {α : Type} {f : α → Nat} {c : Nat} : ∀ {l : List α}, (∀ x ∈ l, f x ≤ c) → (l.map f).sum ≤ c * l.length
  | [], _ => Nat.zero_le _
  | x :: r, h => by
    have := sum_cap (l := r) fun y m => h y (List.mem_cons_of_mem _ m)
    have := h x List.mem_cons_self
    rw [List.map_cons, List.sum_cons, List.length_cons, Nat.mul_add]
    omega
theorem leq_rk {a b : List Nat} (ha : SE.Byt a) (h : SE.Leq a b) : ¬ SE.rk b < SE.rk a := fun q => by
  by_cases e : a.length = b.length
  · have g2 := h.2 e
    unfold SE.rk at q
    rw [e] at q
    omega
  · have := SE.rk_short ha (b := b) (by have := h.1; omega)
    omega
theorem fit_okD {nms : List Str} {rows : List MR.Row} (hTb : MR.Table nms rows) : ∀ {n : Nat} {d : D} {k : Str}, TR.fitB rows n d k = true → okD n d := by
  intro n
  induction n with
  | zero => intro d k h; cases h
  | succ n ih =>
    intro d k h
    obtain ⟨m, e, r, mr, vs, rfl, _, _, hv⟩ := TR.fit_inv h
    cases e
    refine okD_tup fun x mx => ?_
    rcases List.mem_cons.mp mx with rfl | mx
    · exact (okD_str (MY.name_ok (hTb.some.maker r mr).1)).more (Nat.zero_le _)
    · obtain ⟨i, hi⟩ := List.mem_iff_getElem?.mp mx
      have hil := (List.getElem?_eq_some_iff.mp hi).1
      have hp := List.getElem?_eq_getElem (l := r.parts) (i := i) (by rw [← hv.1]; exact hil)
      rcases hv.2 i _ x hp hi with ⟨_, b, _, rfl⟩ | ⟨_, h2⟩
      · exact okD_int.more (Nat.zero_le _)
      · exact ih h2
set_option maxHeartbeats 4000000 in
theorem ok_law {P : Program} {w : World} {K : PySem.W.Frag} {mg : Str → Option Value} {base : Heap} (Z : Tx P w K mg) : FnOk P w K mg base (L2.CX P w) 43 (He.ga K "law") (fdAt K ("law", none)) ["_law_script"] (spC (c_law K)) := by
  refine FunD.ok (k := 42) (F_law Z) sc_law (sp_len (n := 1) l_law) (fun cdv A outer s H vs Q E hr h => ⟨_, PSs.nox ((pss_cons (ps_set (i := 1) sc_law.nd rfl (Or.inl rfl) (pe_call (ok__law_pool Z) (hr.mono (by decide)) (by rfl) (Z.glo 0 rfl) (Z.kp 0 rfl) (b__law_pool Z) .nil passN (pa_cons (pv 0) pa_nil)))
  (pss_cons (ps_set (i := 2) sc_law.nd rfl (Or.inl rfl) (pe_call (ok__law_rows Z) (hr.mono (by decide)) (by rfl) (Z.glo 1 rfl) (Z.kp 1 rfl) (b__law_rows Z) .nil passN (pa_cons (pv 1) pa_nil)))
  (pss_cons (ps_set (i := 3) sc_law.nd rfl (Or.inl rfl) (pe_make (Z.mkr 3 rfl) (ok_Kinds___init__ Z) (hr.mono (by decide)) (by rfl) (Z.glo 2 rfl) (b_Kinds___init__ Z) .nil passN (pa_cons (pe_callTy call_list_of (by rfl) (Z.free 5 rfl) PyProof.Rows.boot_list (pa_cons (pv 2) pa_nil)) pa_nil)))
  (pss_cons (ps_for PassesOwn.never rfl (pi_list (pv 2)) (pg_name (i := 4) sc_law.nd rfl (Or.inl rfl))
  (pss_cons (ps_set (i := 5) sc_law.nd rfl (Or.inl rfl) (pe_meth (pv 3) (Z.cls 4 rfl) (Z.meth 6 rfl) (ok_Kinds_least Z) (hr.mono (by decide)) (b_Kinds_least Z) .nil passN (pa_cons (pe_ix (r := rIxT K) ix_tup (pv 4) pe_int (fun _ _ => rfl)) pa_nil)))
  (pss_cons (ps_if (pt_not (pt_val (pe_call (ok__law_fits Z 15) (hr.mono (by decide)) (by rfl) (Z.glo 7 rfl) (Z.kp 4 rfl) (b__law_fits Z) .nil passN (pa_cons (pv 2) (pa_cons (pv 5) (pa_cons (pe_ix (r := rIxT K) ix_tup (pv 4) pe_int (fun _ _ => rfl)) pa_nil))))))
  (pss_one (ps_ret pe_bl))
  pss_nil)
  (pss_cons (ps_set (i := 6) sc_law.nd rfl (Or.inl rfl) (pe_call (ok__law_tree Z 15) (hr.mono (by decide)) (by rfl) (Z.glo 8 rfl) (Z.kp 5 rfl) (b__law_tree Z) .nil passN (pa_cons (pv 1) (pa_cons (pv 2) (pa_cons (pe_call (ok__law_base Z) (hr.mono (by decide)) (by rfl) (Z.glo 10 rfl) (Z.kp 7 rfl) (b__law_base Z) .nil passN (pa_cons (pv 2) pa_nil)) (pa_cons (pe_ix (r := rIxT K) ix_tup (pv 4) pe_int (fun _ _ => rfl)) (pa_cons (pe_op op_add pe_int (pe_call (ok__law_take Z) (hr.mono (by decide)) (by rfl) (Z.glo 9 rfl) (Z.kp 6 rfl) (b__law_take Z) .nil passN (pa_cons (pv 1) (pa_cons pe_int pa_nil)))) (pa_cons (pe_call (ok__law_take Z) (hr.mono (by decide)) (by rfl) (Z.glo 9 rfl) (Z.kp 6 rfl) (b__law_take Z) .nil passN (pa_cons (pv 1) (pa_cons pe_int pa_nil))) pa_nil))))))))
  (pss_cons (ps_if (pt_val (pe_call (ok__law_less Z) (hr.mono (by decide)) (by rfl) (Z.glo 11 rfl) (Z.kp 8 rfl) (b__law_less Z) .nil passN (pa_cons (pv 2) (pa_cons (pv 6) (pa_cons (pv 5) pa_nil)))))
  (pss_one (ps_ret pe_bl))
  pss_nil)
  (pss_cons (ps_set (i := 7) sc_law.nd rfl (Or.inl rfl) (pe_lst pa_nil))
  (pss_cons (ps_for PassesOwn.never rfl (pi_list (pv 2)) (pg_name (i := 8) sc_law.nd rfl (Or.inl rfl))
  (pss_one (ps_if (pt_cmpR op_eq (pe_ix (r := rIxT K) ix_tup (pv 8) pe_int (fun _ _ => rfl)) (pe_ix (r := rIxT K) ix_tup (pv 4) pe_int (fun _ _ => rfl)) (nomark _))
  (pss_cons (ps_set (i := 6) sc_law.nd rfl (Or.inl rfl) (pe_tup (pa_cons (pe_ix (r := rIxT K) ix_tup (pv 8) pe_int (fun _ _ => rfl)) pa_nil)))
  (pss_cons (ps_for PassesOwn.never rfl (pi_tup (pe_ix (r := rIxT K) ix_tup (pv 8) pe_int (fun _ _ => rfl))) (pg_name (i := 9) sc_law.nd rfl (Or.inl rfl))
  (pss_one (ps_if (pt_cmpR op_eq (pe_ix (r := rIxT K) ix_tup (pv 9) pe_int (fun _ _ => rfl)) pe_str (nomark _))
  (pss_one (ps_set (i := 6) sc_law.nd rfl (Or.inl rfl) (pe_op (r := rCatA K) op_catA (pv 6) (pe_tup (pa_cons pe_int pa_nil)))))
  (pss_one (ps_set (i := 6) sc_law.nd rfl (Or.inl rfl) (pe_op (r := rCatA K) op_catA (pv 6) (pe_tup (pa_cons (pe_meth (pv 3) (Z.cls 4 rfl) (Z.meth 6 rfl) (ok_Kinds_least Z) (hr.mono (by decide)) (b_Kinds_least Z) .nil passN (pa_cons (pe_ix (r := rIxT K) ix_tup (pv 9) pe_int (fun _ _ => rfl)) pa_nil)) pa_nil))))))))
  (pss_cons (ps_expr (pe_bm PySem.F.plainAttrs_list PySem.F.slot_list_append PySem.F.type_list_append mt_append (pv 7) (pa_cons (pv 6) pa_nil)))
  (pss_one (ps_if (PW.pt (pw_or (pt_not (pt_val (pe_call (ok__law_fits Z 15) (hr.mono (by decide)) (by rfl) (Z.glo 7 rfl) (Z.kp 4 rfl) (b__law_fits Z) .nil passN (pa_cons (pv 2) (pa_cons (pv 6) (pa_cons (pe_ix (r := rIxT K) ix_tup (pv 4) pe_int (fun _ _ => rfl)) pa_nil)))))) (pw_or1 (pt_val (pe_call (ok__law_less Z) (hr.mono (by decide)) (by rfl) (Z.glo 11 rfl) (Z.kp 8 rfl) (b__law_less Z) .nil passN (pa_cons (pv 2) (pa_cons (pv 6) (pa_cons (pv 5) pa_nil))))))))
  (pss_one (ps_ret pe_bl))
  pss_nil)))))
  pss_nil)))
  (pss_one (ps_if (pt_cmpR (op_notInD hr.units) (pv 5) (pv 7) (by rfl))
  (pss_one (ps_ret pe_bl))
  pss_nil)))))))))
  (pss_one (ps_ret pe_bl))))))), enter h fun L as ds O k e c => ?_⟩)
  obtain ⟨sd, ns0, rfl, rfl, rfl, rfl, hsd, hns, hk⟩ := c
  refine s_seq (s_set (d_call [] (w_cons (w_var rfl (w_nil ⟨List.nodup_nil, (fun _ m => by cases m), sd, ns0, rfl, rfl, rfl, hsd, hns, fun p0 ns1 => ⟨[p0], [.lst (ns1.map D.int)], [], rfl, rfl, rfl, ?_⟩⟩)))))
  refine s_seq (s_set (d_call [0] (w_cons (w_var rfl (w_nil ⟨by decide, (fun j m => by simp at m; subst m; exact Nat.one_pos), p0, ns1, rfl, rfl, rfl, fun nms rows ns2 hT hsh => ⟨[], [], [.lst (ns2.map D.int)], rfl, rfl, rfl, ?_⟩⟩)))))
  have hlen : rows.length ≤ 10 := hT.some.len
  have hnd := hT.some.nd
  have hneat : ∀ r ∈ rows, MY.Neat r.parts := fun r m => by
    obtain ⟨b, h⟩ := hT.some.parts r m
    exact MY.neat_of hT.names.byte h
  have hkin : ∀ r ∈ rows, ∀ p ∈ r.parts, p.inn ≠ MR.byteS → p.inn ∈ MI.kindsOf rows := fun r m p mp hb => by
    obtain ⟨b, h⟩ := hT.some.parts r m
    rcases h.ok p mp with ⟨e, _⟩ | ⟨e, _⟩
    · exact absurd e hb
    · exact MI.kind_mem hT e
  have hspec : ∀ r ∈ rows, MY.SpecOk r.parts (SE.plS rows r.maker) := fun r m => by
    rw [SE.pl_of hnd m]
    refine ⟨r.parts.map fun p => (p, false), ?_, fun x mx e => ?_, ?_⟩
    · rw [List.map_map]
      show (r.parts.map id).Perm _
      rw [List.map_id]
    · obtain ⟨p, _, rfl⟩ := List.mem_map.mp mx
      cases e
    · rw [List.map_map]
      rfl
  have hL : TR.Lay rows (SE.plS rows) := ⟨hnd, hlen, hneat, hspec⟩
  refine s_seq (s_set (w_kinds hT rfl rfl fun tk tds fds sds hTab => ?_))
  have hO := SE.lst_ok hL hkin hTab.least
  refine s_eq (as' := [p0]) (ρ' := [some sd, some (.adr p0), some (.lst (rows.map MR.dRow)), some (MI.tabD K rows tk tds fds sds), none, none, none, none, none, none]) (O' := [.lst (ns2.map D.int)]) rfl rfl rfl ?_
  refine s_seq (s_for (i_list (w_var rfl ⟨_, rfl, fun i as ρ O => ∃ (ns : List Int) (x4 x5 x6 x7 x8 x9 : Option D), as = [p0] ∧ ρ = [some sd, some (.adr p0), some (.lst (rows.map MR.dRow)), some (MI.tabD K rows tk tds fds sds), x4, x5, x6, x7, x8, x9] ∧ O = [.lst (ns.map D.int)], ⟨ns2, none, none, none, none, none, none, rfl, rfl, rfl⟩, ?_, ?_⟩)))
  rotate_left
  · rintro as ρ O ⟨ns, x4, x5, x6, x7, x8, x9, rfl, rfl, rfl⟩
    exact s_ret (w_bl (hk _ _))
  rintro i as ρ O c hc ⟨ns, x4, x5, x6, x7, x8, x9, rfl, rfl, rfl⟩
  rw [List.getElem?_map] at hc
  obtain ⟨r, hr, rfl⟩ := Option.map_eq_some_iff.mp hc
  have mr := List.mem_of_getElem? hr
  have mk := SE.kinds_mem mr
  have hf0 := hO.fit _ mk
  have hf40 := TR.fit_mono hf0 (show 3 ≤ 40 by decide)
  have hb0 := SE.prow_byt hL (Nat.le_refl 40) hf40
  have hs0 : TR.szT 40 (SE.lstF sds r.kind) ≤ 60000 := by
    have := SE.sz_prow hL (Nat.le_refl 40) hf40
    have := hO.len _ mk
    omega
  have hmin : ∀ d, TR.fitB rows 40 d r.kind = true → decide (SE.rkT rows d < SE.rkT rows (SE.lstF sds r.kind)) = false := fun d hd => decide_eq_false (leq_rk hb0 (hO.min 40 d _ mk (Nat.le_refl 40) hd))
  refine g_name (s_seq (s_set (d_meth [] (w_var rfl ⟨⟨_, .inl rfl, rfl⟩, w_cons (w_op (w_var rfl (w_int (MI.row0 r (w_nil ?_)))))⟩))))
  refine call_Kinds_least (.inl (.inl rfl)) (.inl (.inl rfl)) (by rw [hTab.fam _ mk]; rfl) (SE.lst_get hL hTab.least mk) ?_
  refine s_seq (s_if (w_not (w_test (d_call [] (w_cons (w_var rfl (w_cons (w_var rfl (w_cons (w_op (w_var rfl (w_int (MI.row0 r (w_nil (call_lfits hT hL (TR.fit_mono hf0 (by decide)) ⟨_, rfl, s_next ?_⟩)))))))))))))))
  refine s_seq (s_set (d_call [0] (w_cons (w_var rfl (w_cons (w_var rfl (w_cons (w_known (d_call [] (w_cons (w_var rfl (w_nil (call_base hT fun q5 bs hb hall => ⟨q5, [p0], _, [_], rfl, rfl, rfl, ?_⟩)))))))))))))
  have hbl := TR.base_few hT hb
  obtain ⟨i0, r0, hr0, er0⟩ := TR.kds_at (hall _ (hT.some.kind r mr))
  have hi0 := (List.getElem?_eq_some_iff.mp hr0).1
  refine w_cons (w_op (w_var rfl (w_int (MI.row0 r (w_cons (w_op (w_int (d_call [0] (w_cons (w_var rfl (w_cons (w_int (w_nil (call_take rfl rfl (by decide) fun c ns3 c0 c1 => rv_i0 ?_))))))))))))))
  obtain ⟨cut, hcu1, hcu2, ec⟩ : ∃ cut : Nat, 1 ≤ cut ∧ cut ≤ 255 ∧ (1 : Int) + c = (cut : Nat) := ⟨(1 + c).toNat, by omega, by omega, by omega⟩
  rw [ec]
  refine w_cons (d_call [0] (w_cons (w_var rfl (w_cons (w_int (w_nil (call_take rfl rfl (by decide) fun t ns4 t0 t1 => w_nil ?_)))))))
  obtain ⟨fu, hfu, rfl⟩ : ∃ fu : Nat, fu ≤ 12 ∧ t = (fu : Nat) := ⟨t.toNat, by omega, by omega⟩
  refine call_tree (n := 14) (jj := 0) rfl rfl hr0 er0 hT hb hall hcu1 hcu2 (by omega) (by split <;> omega) fun ns5 d' h1 h2 => ?_
  have hd40 := TR.fit_mono h1 (show 14 + 1 ≤ 40 by decide)
  have hds : TR.szT 40 d' ≤ 60000 := by
    rw [TR.sz_stable h1 (show 14 + 1 ≤ 40 by decide)]
    have := TR.cap_le (fuel := fu) (i := i0) (by omega)
    omega
  refine s_seq (s_if (w_test (d_call [] (w_cons (w_var rfl (w_cons (w_var rfl (w_cons (w_var rfl (w_nil (call_lless hL hd40 hds hf40 hs0 ⟨_, rfl, ?_⟩)))))))))))
  rw [hmin d' hd40]
  refine s_next (s_seq (s_set (w_lst (w_nil ⟨Nat.zero_le _, fun q => ?_⟩))))
  refine s_eq (as' := [p0, q]) (ρ' := [some sd, some (.adr p0), some (.lst (rows.map MR.dRow)), some (MI.tabD K rows tk tds fds sds), some (MR.dRow r), some (SE.lstF sds r.kind), some d', some (.adr q), x8, x9]) (O' := [.lst (ns5.map D.int), .lst []]) rfl rfl rfl ?_
  refine s_seq (s_for (i_list (w_var rfl ⟨_, rfl, fun j as ρ O => ∃ (acc : List D) (x6 x8 x9 : Option D), as = [p0, q] ∧ ρ = [some sd, some (.adr p0), some (.lst (rows.map MR.dRow)), some (MI.tabD K rows tk tds fds sds), some (MR.dRow r), some (SE.lstF sds r.kind), x6, some (.adr q), x8, x9] ∧ O = [.lst (ns5.map D.int), .lst acc] ∧ acc = ((rows.take j).filter fun r' => decide (r'.kind = r.kind)).map fun r' => SE.nodeT r' (SE.lowV (SE.lstF sds)), ⟨[], _, _, _, rfl, rfl, rfl, rfl⟩, ?_, ?_⟩)))
  · rintro j as ρ O c2 hc2 ⟨acc, x6, x8, x9, rfl, rfl, rfl, hacc⟩
    rw [List.getElem?_map] at hc2
    obtain ⟨r', hr', rfl⟩ := Option.map_eq_some_iff.mp hc2
    have mr' := List.mem_of_getElem? hr'
    have et := MF.tk hr'
    have hn' := hneat r' mr'
    have h4' := hn'.len
    have hal : acc.length ≤ 10 := by
      rw [hacc, List.length_map]
      refine Nat.le_trans (List.length_filter_le ..) ?_
      rw [List.length_take]
      omega
    refine g_name (s_if (w_test (w_op (w_op (w_var rfl (w_int (MI.row0 r' (w_op (w_var rfl (w_int (MI.row0 r (rv_eq rfl ⟨_, rfl, ?_⟩))))))))))))
    show if (r'.kind == r.kind) = true then _ else _
    by_cases ek : r'.kind = r.kind
    rotate_left
    · rw [beq_eq_false_iff_ne.mpr ek]
      refine s_next ⟨acc, _, _, _, rfl, rfl, rfl, ?_⟩
      rw [et, List.filter_append, List.map_append, hacc]
      simp [ek]
    rw [beq_iff_eq.mpr ek]
    refine i_T rfl ?_
    refine s_seq (s_set (w_tup (w_cons (w_op (w_var rfl (w_int (MI.row1 r' (w_nil ⟨show 1 ≤ sizeLine by decide, ?_⟩))))))))
    refine s_seq (s_for (i_tup (w_op (w_var rfl (w_int (MI.row2 r' ⟨_, rfl, fun l as ρ O => ∃ (x9 : Option D), as = [p0, q] ∧ ρ = [some sd, some (.adr p0), some (.lst (rows.map MR.dRow)), some (MI.tabD K rows tk tds fds sds), some (MR.dRow r), some (SE.lstF sds r.kind), some (.tup (.str r'.maker :: (r'.parts.take l).map (SE.lowV (SE.lstF sds)))), some (.adr q), some (MR.dRow r'), x9] ∧ O = [.lst (ns5.map D.int), .lst acc], ⟨x9, rfl, rfl, rfl⟩, ?_, ?_⟩))))))
    · rintro l as ρ O c3 hc3 ⟨x9, rfl, rfl, rfl⟩
      rw [List.getElem?_map] at hc3
      obtain ⟨p, hp, rfl⟩ := Option.map_eq_some_iff.mp hc3
      have mp := List.mem_of_getElem? hp
      have etp := MF.tk hp
      have htl : (r'.parts.take l).length ≤ 4 := by rw [List.length_take]; omega
      refine g_name (s_if (w_test (w_op (w_op (w_var rfl (w_int (MI.par1 p (w_str (rv_eq rfl ⟨_, rfl, ?_⟩)))))))))
      show if (p.inn == ("byte" : Str)) = true then _ else _
      by_cases hpb : p.inn = MR.byteS
      · rw [beq_iff_eq.mpr (show p.inn = ("byte" : Str) from hpb)]
        refine i_T rfl (s_set (w_op (w_var rfl (w_tup (w_cons (w_int (w_nil ⟨show 1 ≤ sizeLine by decide, rv_catA (by rw [List.length_cons, List.length_map]; show _ + 1 + 1 ≤ 100000; omega) ⟨some (MR.dPart p), rfl, ?_, rfl⟩⟩)))))))
        rw [etp, List.map_append]
        show _ = [some sd, some (.adr p0), some (.lst (rows.map MR.dRow)), some (MI.tabD K rows tk tds fds sds), some (MR.dRow r), some (SE.lstF sds r.kind), some (.tup (.str r'.maker :: ((r'.parts.take l).map (SE.lowV (SE.lstF sds)) ++ [SE.lowV (SE.lstF sds) p]))), some (.adr q), some (MR.dRow r'), some (MR.dPart p)]
        rw [show SE.lowV (SE.lstF sds) p = .int (0 : Nat) from if_pos hpb]
        rfl
      · rw [beq_eq_false_iff_ne.mpr (show p.inn ≠ ("byte" : Str) from hpb)]
        have mk2 := hkin r' mr' p mp hpb
        refine i_F rfl (s_set (w_op (w_var rfl (w_tup (w_cons (d_meth [] (w_var rfl ⟨⟨_, .inl rfl, rfl⟩, w_cons (w_op (w_var rfl (w_int (MI.par1 p (w_nil ?_)))))⟩)))))))
        refine call_Kinds_least (.inl (.inl rfl)) (.inl (.inl rfl)) (by rw [hTab.fam _ mk2]; rfl) (SE.lst_get hL hTab.least mk2) ?_
        refine w_nil ⟨show 1 ≤ sizeLine by decide, rv_catA (by rw [List.length_cons, List.length_map]; show _ + 1 + 1 ≤ 100000; omega) ⟨some (MR.dPart p), rfl, ?_, rfl⟩⟩
        rw [etp, List.map_append]
        show _ = [some sd, some (.adr p0), some (.lst (rows.map MR.dRow)), some (MI.tabD K rows tk tds fds sds), some (MR.dRow r), some (SE.lstF sds r.kind), some (.tup (.str r'.maker :: ((r'.parts.take l).map (SE.lowV (SE.lstF sds)) ++ [SE.lowV (SE.lstF sds) p]))), some (.adr q), some (MR.dRow r'), some (MR.dPart p)]
        rw [show SE.lowV (SE.lstF sds) p = SE.lstF sds p.inn from if_neg hpb]
        rfl
    rintro as ρ O ⟨x9, rfl, rfl, rfl⟩
    rw [List.length_map, List.take_length]
    have hu := SE.low_vok hO hkin mr'
    have hfm := hu.fit hnd mr'
    rw [ek] at hfm
    have hfm40 := TR.fit_mono hfm (show 3 + 1 ≤ 40 by decide)
    have hsm : TR.szT 40 (SE.nodeT r' (SE.lowV (SE.lstF sds))) ≤ 60000 := by
      rw [TR.sz_stable hfm (show 3 + 1 ≤ 40 by decide)]
      unfold SE.nodeT
      rw [TR.sz_node]
      refine Nat.le_trans (Nat.add_le_add_left (sum_cap (c := 402) fun x mx => ?_) 2) (by rw [List.length_map]; omega)
      obtain ⟨p, mp, rfl⟩ := List.mem_map.mp mx
      rcases hu p mp with ⟨_, b, _, e⟩ | ⟨hb2, h3⟩
      · rw [e]
        show 2 + 0 ≤ 402
        decide
      · have e : SE.lowV (SE.lstF sds) p = SE.lstF sds p.inn := if_neg hb2
        have := SE.sz_prow hL (by decide) h3
        rw [e] at this ⊢
        have := hO.len _ (hkin r' mr' p mp hb2)
        omega
    have hnode : D.tup (.str r'.maker :: r'.parts.map (SE.lowV (SE.lstF sds))) = SE.nodeT r' (SE.lowV (SE.lstF sds)) := rfl
    rw [hnode]
    refine s_seq (s_drop (w_append 1 rfl rfl rfl (w_var rfl ⟨_, rfl, rfl, smallt (by omega), ?_⟩)))
    refine s_if (w_or (w_not (w_test (d_call [] (w_cons (w_var rfl (w_cons (w_var rfl (w_cons (w_op (w_var rfl (w_int (MI.row0 r (w_nil (call_lfits hT hL (TR.fit_mono hfm (by decide)) ⟨_, rfl, ?_⟩)))))))))))))))
    show dT _ _ _ _ _ _ _
    refine w_test (d_call [] (w_cons (w_var rfl (w_cons (w_var rfl (w_cons (w_var rfl (w_nil (call_lless hL hfm40 hsm hf40 hs0 ⟨_, rfl, ?_⟩)))))))))
    rw [hmin _ hfm40]
    refine s_next ⟨_, _, _, _, rfl, rfl, rfl, ?_⟩
    rw [et, List.filter_append, List.map_append, hacc]
    simp [ek]
  rintro as ρ O ⟨acc, x6, x8, x9, rfl, rfl, rfl, hacc⟩
  rw [List.length_map, List.take_length] at hacc
  obtain ⟨r1, mr1, ek1, e1⟩ := SE.lst_made hL hO hkin mk
  have hm : SE.lstF sds r.kind ∈ acc := by
    rw [hacc, e1]
    exact List.mem_map_of_mem (f := fun r' => SE.nodeT r' (SE.lowV (SE.lstF sds))) (List.mem_filter.mpr ⟨mr1, decide_eq_true ek1⟩)
  have hcan : ∀ x ∈ acc, (pdOf x).canLay0 = true := fun x m => by
    rw [hacc] at m
    obtain ⟨r', m', rfl⟩ := List.mem_map.mp m
    have mr' := (List.mem_filter.mp m').1
    exact (fit_okD hT ((SE.low_vok hO hkin mr').fit hnd mr')).1
  refine s_if (w_test (w_op (w_var rfl (w_var rfl (rv_notInD (n := 3) (rd_o 1 rfl rfl) (fit_okD hT hf0) (by decide) hcan hm ⟨_, rfl, ?_⟩)))))
  exact i_F rfl (s_let 1 (s_next ⟨ns5, _, _, _, _, _, _, rfl, rfl, rfl⟩))
theorem facts {P : Program} {w : World} {K : PySem.W.Frag} {h : Heap} {mg : Str → Option Value} {f : Addr} (X : K.In h) (G : h.Ns mainGlobals mg) (hfa : mg ("law" : Str) = some (.ref f)) (c : obsY fa fn xa sd wn ts K = valY fn sd wn ts w) (hP : PFile P) :
    ∃ fd : FuncData, (∀ (s : Shared) (v : Value), BindsTo s fd ⟨[v], []⟩ [("_law_script", v)]) ∧ ∀ base : Heap, K.In base → base.Ns mainGlobals mg → FnOk P w K mg base (L2.CX P w) 43 f fd ["_law_script"] (spC (c_law K)) := by
  have Z : Tx P w K mg := ⟨⟨h, X, G⟩, c, hP⟩
  have e := hfa.symm.trans (Z.glo 46 rfl)
  cases e
  have b := FunD.bindsA (ps := ["_law_script"]) (F_law Z) fun _ _ _ _ _ _ us hl => match us, hl with | [_], _ => rfl
  exact ⟨_, fun s v => b s [v] rfl, fun base _ _ => ok_law Z⟩
end G
open PySem PySem.W PySem.Calls PyProof.Rows
set_option maxHeartbeats 0 in
theorem PySem.Challenge.cw_bytegrove_k05_whole_least_tree_of_a_kind_holds : PySem.Challenge.rw_bytegrove_k05_whole_least_tree_of_a_kind.Holds := by
  w_on; o_law
  refine HandSHeadRun.head_any (r := OpenLaw.row PySem.Challenge.rw_bytegrove_k05_whole_least_tree_of_a_kind) (q := view (OpenLaw.row PySem.Challenge.rw_bytegrove_k05_whole_least_tree_of_a_kind).prog [30]) (H := G.hkk) (ob := G.obv) (M := 9000) (loose := G.looseN) (d := HandSHeadRun.topDef (OpenLaw.row PySem.Challenge.rw_bytegrove_k05_whole_least_tree_of_a_kind).prog 30) (kwd := []) G.obv_eq
    (by kernel_rfl) (fun s => by kernel_rfl) G.run (by kernel_rfl) (by kernel_rfl) (by kernel_rfl) (by rfl) (by first | assumption | decide +kernel) (by decide +kernel) ⟨rfl, rfl, rfl, rfl, rfl, by decide +kernel⟩ ?hw ?hc
  case hw => w_witness2
  case hc =>
    refine DL.walk_ofW (l := PySem.Challenge.rw_bytegrove_k05_whole_least_tree_of_a_kind) (n := 63) (k := 43) (x := "_law_script") (CX := fun w => L2.CX (PySem.Challenge.rw_bytegrove_k05_whole_least_tree_of_a_kind).prog w) rfl (by decide) (by kernel_rfl) ⟨rfl, by decide, by decide⟩ ?F (fun _ _ _ _ _ z => DL.cx_none z)
    intro w mg fa h Y G0 hmg0
    obtain ⟨K, KX, c⟩ := Y
    have hmg : mg ("law" : PySem.Str) = some (.ref fa) := by
      have e : (HandSHeadRun.topDef (OpenLaw.row PySem.Challenge.rw_bytegrove_k05_whole_least_tree_of_a_kind).prog 30).name = ("law" : PySem.Str) := by kernel_rfl
      rw [← e]
      exact hmg0
    obtain ⟨fd, hb, hF⟩ := G.facts (P := (PySem.Challenge.rw_bytegrove_k05_whole_least_tree_of_a_kind).prog) (w := w) KX G0 hmg c ⟨by kernel_rfl, by kernel_rfl⟩
    exact ⟨K, fd, DL.spC (G.c_law K), KX, hb, fun H a ns hl hO hS => DL.law_start hO hS fun d hd => ⟨d, ns, rfl, rfl, rfl, rfl, hd, hl, fun _ _ => rfl⟩, hF⟩
