import PyProof.Rows.All
import Wide.All
import OpenK.AllK
import Wide.FinOn
import HandS.ForMost
import HandS.ForExc
import HandS.Walk
import HandS.Style
import HandS.IsInst
import HandS.SetKeys
import HandS.Zip
import HandS.Conv
import HandS.Defaults
import HandS.HeadHook2
import HandS.HeadEnd
import HandS.Head0
import HandS.Head1
import HandS.Head2
import HandS.DictComp
import HandS.SetBool
import HandS.TupLe
import HandS.TupAny
import KE.KDictSum
import HandS.Strs
import HandS.List
import KE.LtData
import PyProof.StrOps2
import HandS.StrMore
import HandS.DictSubView
import HandS.Property
import HandS.HeadNt
import KE.KMethU
import KE.KOpsOwn
import HandS.Replace
import HandS.ReplaceDef
import HandS.ReplaceLit
import HandS.ReplaceList
import HandS.More
import HandS.FStr
import PyProof.RulesMatch
import KE.GoesMore
import KE.KFromBytes
import KE.KSuper
import KE.KExcSuper
import HandS.ExcInit
import HandS.ExcSuper
import HandS.ClsMeth
import HandS.Nested
import HandS.ExcIs
import HandS.ExcField
import HandS.HeadHook1
import HandS.Star
import HandS.HeadHook3
import KE.KIntText
import HandS.HotCalls
import HandS.Comp
import HandS.TryOnly
import KE.DataCmp
import HandS.Ends
import KE.KStateDown
import PySem.Challenge.RW_bytegrove_k03_invalid_kinds_tables
set_option Elab.async false
set_option linter.all false
set_option maxRecDepth 100000
namespace DL
open PySem PySem.Spec PyProof.Rows L2
inductive D where
  | non | bl (b : Bool) | int (i : Int) | str (x : Str) | adr (a : Addr)
  | tup (ds : List D) | lst (ds : List D) | dk (kds : List (Key × D)) | ins (C : Addr) (fds : List (Str × D))
  | ldk (a : Addr) (kds : List (Key × D))
  | zst (ds : List D) | zkl (K : PySem.W.Frag) (ds : List D) | zkt (K : PySem.W.Frag) (ds : List D)
  | exc (a C dd : Addr) (fds : List (Str × D))
  | fz (o : HO) (kds : List (Key × D))
mutual
inductive R (F : Hp) : V → D → Prop
  | non : R F .non .non
  | bl (b : Bool) : R F (.bl b) (.bl b)
  | int (i : Int) : R F (.int i) (.int i)
  | str (x : Str) : R F (.str x) (.str x)
  | adr (a : Addr) : R F (.ref a) (.adr a)
  | tup {a : Addr} {xs : List V} {ds : List D} : F a = some (.tup xs) → Rs F xs ds → R F (.ref a) (.tup ds)
  | lst {a : Addr} {xs : List V} {ds : List D} : F a = some (.lst xs) → Rs F xs ds → R F (.ref a) (.lst ds)
  | dk {a : Addr} {kvs : List (Key × V)} {kds : List (Key × D)} : F a = some (.dK kvs) → Rk F kvs kds → R F (.ref a) (.dk kds)
  | ins {a C dx : Addr} {fs : List (Str × V)} {fds : List (Str × D)} : F a = some (.ins C dx fs) → Rn F fs fds → R F (.ref a) (.ins C fds)
  | ldk {a : Addr} {kvs : List (Key × V)} {kds : List (Key × D)} : F a = some (.dK kvs) → Rk F kvs kds → R F (.ref a) (.ldk a kds)
  | zst {a : Addr} {o : Obj} {xs : List V} {ds : List D} : F a = some (.frz o (.lst xs)) → Rs F xs ds → R F (.ref a) (.zst ds)
  | zkl {K : PySem.W.Frag} {a : Addr} {xs : List V} {ds : List D} : (∀ H, SqL K H a xs) → Rs F xs ds → R F (.ref a) (.zkl K ds)
  | zkt {K : PySem.W.Frag} {a : Addr} {xs : List V} {ds : List D} : (∀ H, SqT K H a xs) → Rs F xs ds → R F (.ref a) (.zkt K ds)
  | exc {a C dd : Addr} {fs : List (Str × V)} {fds : List (Str × D)} : F dd = some (.xd fs) → Rn F fs fds → R F (.ref a) (.exc a C dd fds)
  | fz {a : Addr} {od : Obj} {kvs : List (Key × V)} {kds : List (Key × D)} : F a = some (.frz od (.dK kvs)) → Rk F kvs kds → R F (.ref a) (.fz (.frz od (.dK kvs)) kds)
inductive Rs (F : Hp) : List V → List D → Prop
  | nil : Rs F [] []
  | cons {v : V} {vs : List V} {d : D} {ds : List D} : R F v d → Rs F vs ds → Rs F (v :: vs) (d :: ds)
inductive Rk (F : Hp) : List (Key × V) → List (Key × D) → Prop
  | nil : Rk F [] []
  | cons {k : Key} {v : V} {vs : List (Key × V)} {d : D} {ds : List (Key × D)} : R F v d → Rk F vs ds → Rk F ((k, v) :: vs) ((k, d) :: ds)
inductive Rn (F : Hp) : List (Str × V) → List (Str × D) → Prop
  | nil : Rn F [] []
  | cons {k : Str} {v : V} {vs : List (Str × V)} {d : D} {ds : List (Str × D)} : R F v d → Rn F vs ds → Rn F ((k, v) :: vs) ((k, d) :: ds)
end
abbrev Ex (F F' : Hp) : Prop := ∀ a o, F a = some o → F' a = some o
mutual
theorem R.mono {F F' : Hp} (e : Ex F F') : ∀ {v : V} {d : D}, R F v d → R F' v d
  | _, _, .non => .non
  | _, _, .bl b => .bl b
  | _, _, .int i => .int i
  | _, _, .str x => .str x
  | _, _, .adr a => .adr a
  | _, _, .tup h r => .tup (e _ _ h) (Rs.mono e r)
  | _, _, .lst h r => .lst (e _ _ h) (Rs.mono e r)
  | _, _, .dk h r => .dk (e _ _ h) (Rk.mono e r)
  | _, _, .ins h r => .ins (e _ _ h) (Rn.mono e r)
  | _, _, .ldk h r => .ldk (e _ _ h) (Rk.mono e r)
  | _, _, .zst h r => .zst (e _ _ h) (Rs.mono e r)
  | _, _, .zkl h r => .zkl h (Rs.mono e r)
  | _, _, .zkt h r => .zkt h (Rs.mono e r)
  | _, _, .exc h r => .exc (e _ _ h) (Rn.mono e r)
  | _, _, .fz h r => .fz (e _ _ h) (Rk.mono e r)
theorem Rs.mono {F F' : Hp} (e : Ex F F') : ∀ {v : List V} {d : List D}, Rs F v d → Rs F' v d
  | _, _, .nil => .nil
  | _, _, .cons r t => .cons (R.mono e r) (Rs.mono e t)
theorem Rk.mono {F F' : Hp} (e : Ex F F') : ∀ {v : List (Key × V)} {d : List (Key × D)}, Rk F v d → Rk F' v d
  | _, _, .nil => .nil
  | _, _, .cons r t => .cons (R.mono e r) (Rk.mono e t)
theorem Rn.mono {F F' : Hp} (e : Ex F F') : ∀ {v : List (Str × V)} {d : List (Str × D)}, Rn F v d → Rn F' v d
  | _, _, .nil => .nil
  | _, _, .cons r t => .cons (R.mono e r) (Rn.mono e t)
end
theorem Rs.length {F : Hp} : ∀ {xs : List V} {ds : List D}, Rs F xs ds → xs.length = ds.length
  | _, _, .nil => rfl
  | _, _, .cons _ t => congrArg (· + 1) (Rs.length t)
theorem Rk.length {F : Hp} : ∀ {xs : List (Key × V)} {ds : List (Key × D)}, Rk F xs ds → xs.length = ds.length
  | _, _, .nil => rfl
  | _, _, .cons _ t => congrArg (· + 1) (Rk.length t)
theorem Rn.length {F : Hp} : ∀ {xs : List (Str × V)} {ds : List (Str × D)}, Rn F xs ds → xs.length = ds.length
  | _, _, .nil => rfl
  | _, _, .cons _ t => congrArg (· + 1) (Rn.length t)
theorem Rs.get {F : Hp} : ∀ {xs : List V} {ds : List D} {i : Nat} {d : D}, Rs F xs ds → ds[i]? = some d → ∃ v, xs[i]? = some v ∧ R F v d
  | _, _, i, _, .nil, h => by simp at h
  | _, _, 0, _, .cons r t, h => by
    simp at h
    subst h
    exact ⟨_, rfl, r⟩
  | _, _, i + 1, d, .cons r t, h => by
    obtain ⟨v, h1, h2⟩ := Rs.get (i := i) (d := d) t (by simpa using h)
    exact ⟨v, by simpa using h1, h2⟩
theorem Rs.get' {F : Hp} {xs : List V} {ds : List D} {i : Nat} {v : V} (r : Rs F xs ds) (h : xs[i]? = some v) : ∃ d, ds[i]? = some d ∧ R F v d := by
  have hi : i < xs.length := (List.getElem?_eq_some_iff.mp h).1
  obtain ⟨u, e, q⟩ := Rs.get r (List.getElem?_eq_getElem (r.length ▸ hi))
  rw [h] at e
  cases e
  exact ⟨_, List.getElem?_eq_getElem (r.length ▸ hi), q⟩
theorem Rs.snoc {F : Hp} {v : V} {d : D} (q : R F v d) : ∀ {xs : List V} {ds : List D}, Rs F xs ds → Rs F (xs ++ [v]) (ds ++ [d])
  | _, _, .nil => .cons q .nil
  | _, _, .cons r t => .cons r (Rs.snoc q t)
theorem Rs.append {F : Hp} {ys : List V} {es : List D} (q : Rs F ys es) : ∀ {xs : List V} {ds : List D}, Rs F xs ds → Rs F (xs ++ ys) (ds ++ es)
  | _, _, .nil => q
  | _, _, .cons r t => .cons r (Rs.append q t)
theorem Rs.take {F : Hp} : ∀ {xs : List V} {ds : List D} (n : Nat), Rs F xs ds → Rs F (xs.take n) (ds.take n)
  | _, _, 0, _ => .nil
  | _, _, _ + 1, .nil => .nil
  | _, _, n + 1, .cons r t => .cons r (Rs.take n t)
theorem Rs.drop {F : Hp} : ∀ {xs : List V} {ds : List D} (n : Nat), Rs F xs ds → Rs F (xs.drop n) (ds.drop n)
  | _, _, 0, h => h
  | _, _, _ + 1, .nil => .nil
  | _, _, n + 1, .cons r t => Rs.drop n t
theorem Rs.set {F : Hp} {v : V} {d : D} (q : R F v d) : ∀ {xs : List V} {ds : List D} (n : Nat), Rs F xs ds → Rs F (xs.set n v) (ds.set n d)
  | _, _, _, .nil => .nil
  | _, _, 0, .cons r t => .cons q t
  | _, _, n + 1, .cons r t => .cons r (Rs.set q n t)
theorem Rs.dropLast {F : Hp} {xs : List V} {ds : List D} (h : Rs F xs ds) : Rs F xs.dropLast ds.dropLast := by
  rw [List.dropLast_eq_take, List.dropLast_eq_take, h.length]
  exact h.take _
theorem Rs.reverse {F : Hp} : ∀ {xs : List V} {ds : List D}, Rs F xs ds → Rs F xs.reverse ds.reverse
  | _, _, .nil => .nil
  | _, _, .cons r t => by
    rw [List.reverse_cons, List.reverse_cons]
    exact (Rs.reverse t).snoc r
theorem Rs.ints {F : Hp} : ∀ {xs : List V} {ns : List Int}, Rs F xs (ns.map D.int) → xs = ns.map V.int
  | _, [], .nil => rfl
  | _, _ :: _, .cons (.int _) t => congrArg _ (Rs.ints t)
theorem Rs.strs {F : Hp} : ∀ {xs : List V} {ns : List Str}, Rs F xs (ns.map D.str) → xs = ns.map V.str
  | _, [], .nil => rfl
  | _, _ :: _, .cons (.str _) t => congrArg _ (Rs.strs t)
theorem Rs.bls {F : Hp} : ∀ {xs : List V} {ns : List Bool}, Rs F xs (ns.map D.bl) → xs = ns.map V.bl
  | _, [], .nil => rfl
  | _, _ :: _, .cons (.bl _) t => congrArg _ (Rs.bls t)
theorem rs_ints {F : Hp} : ∀ ns : List Int, Rs F (ns.map V.int) (ns.map D.int)
  | [] => .nil
  | n :: r => .cons (.int n) (rs_ints r)
inductive Cn (F : Hp) : HO → D → Prop
  | tup {xs : List V} {ds : List D} : Rs F xs ds → Cn F (.tup xs) (.tup ds)
  | lst {xs : List V} {ds : List D} : Rs F xs ds → Cn F (.lst xs) (.lst ds)
  | dk {kvs : List (Key × V)} {kds : List (Key × D)} : Rk F kvs kds → Cn F (.dK kvs) (.dk kds)
  | ins {C dx : Addr} {fs : List (Str × V)} {fds : List (Str × D)} : Rn F fs fds → Cn F (.ins C dx fs) (.ins C fds)
  | fz {od : Obj} {kvs : List (Key × V)} {kds : List (Key × D)} : Rk F kvs kds → Cn F (.frz od (.dK kvs)) (.fz (.frz od (.dK kvs)) kds)
theorem Cn.mono {F F' : Hp} (e : Ex F F') : ∀ {o : HO} {d : D}, Cn F o d → Cn F' o d
  | _, _, .tup r => .tup (r.mono e)
  | _, _, .lst r => .lst (r.mono e)
  | _, _, .dk r => .dk (r.mono e)
  | _, _, .ins r => .ins (r.mono e)
  | _, _, .fz r => .fz (r.mono e)
theorem R.of {F : Hp} {a : Addr} {o : HO} {d : D} (h : F a = some o) : Cn F o d → R F (.ref a) d
  | .tup r => .tup h r
  | .lst r => .lst h r
  | .dk r => .dk h r
  | .ins r => .ins h r
  | .fz r => .fz h r
structure Hd (L : List Addr) (F H : Hp) : Prop where
  at_ : ∀ a o, F a = some o → (a ∉ L ∧ H a = some o) ∨ (a ∈ L ∧ ∃ kvs ob, o = .dK kvs ∧ H a = some (.frz ob o)) ∨ (a ∉ L ∧ ∃ ob xs, o = .frz ob (.lst xs) ∧ H a = some (.lst xs))
  lk : ∀ a ∈ L, F a ≠ none
theorem Hd.tr {L : List Addr} {F H : Hp} (h : Hd L F H) {a : Addr} {o : HO} (e : F a = some o) : H a ≠ none := by
  rcases h.at_ a o e with ⟨_, h⟩ | ⟨_, _, _, _, h⟩ | ⟨_, _, _, _, h⟩ <;> rw [h] <;> exact fun z => by cases z
theorem Hd.free {L : List Addr} {F H : Hp} (h : Hd L F H) {a : Addr} (e : H a = none) : F a = none := by
  cases z : F a with
  | none => rfl
  | some o => exact absurd e (h.tr z)
theorem Hd.lkH {L : List Addr} {F H : Hp} (h : Hd L F H) {a : Addr} (m : a ∈ L) : H a ≠ none := fun e => h.lk a m (h.free e)
theorem Hd.lst {L : List Addr} {F H : Hp} (h : Hd L F H) {a : Addr} {xs : List V} (e : F a = some (.lst xs)) : H a = some (.lst xs) := by
  rcases h.at_ a _ e with ⟨_, h⟩ | ⟨_, _, _, z, _⟩ | ⟨_, _, _, z, _⟩
  · exact h
  · cases z
  · cases z
theorem Hd.tup {L : List Addr} {F H : Hp} (h : Hd L F H) {a : Addr} {xs : List V} (e : F a = some (.tup xs)) : H a = some (.tup xs) := by
  rcases h.at_ a _ e with ⟨_, h⟩ | ⟨_, _, _, z, _⟩ | ⟨_, _, _, z, _⟩
  · exact h
  · cases z
  · cases z
theorem Hd.ins {L : List Addr} {F H : Hp} (h : Hd L F H) {a C dx : Addr} {fs : List (Str × V)} (e : F a = some (.ins C dx fs)) : H a = some (.ins C dx fs) := by
  rcases h.at_ a _ e with ⟨_, h⟩ | ⟨_, _, _, z, _⟩ | ⟨_, _, _, z, _⟩
  · exact h
  · cases z
  · cases z
theorem Hd.zst {L : List Addr} {F H : Hp} (h : Hd L F H) {a : Addr} {ob : Obj} {xs : List V} (e : F a = some (.frz ob (.lst xs))) : H a = some (.lst xs) ∨ ∃ ob, H a = some (.frz ob (.lst xs)) := by
  rcases h.at_ a _ e with ⟨_, h⟩ | ⟨_, _, _, z, _⟩ | ⟨_, _, _, z, h⟩
  · exact .inr ⟨_, h⟩
  · cases z
  · cases z
    exact .inl h
theorem Hd.dk {L : List Addr} {F H : Hp} (h : Hd L F H) {a : Addr} {kvs : List (Key × V)} (e : F a = some (.dK kvs)) : Rd H a (.dK kvs) := by
  rcases h.at_ a _ e with ⟨_, h⟩ | ⟨_, _, ob, _, h⟩ | ⟨_, _, _, z, _⟩
  · exact .inl h
  · exact .inr ⟨ob, h⟩
  · cases z
structure Own (F H : Hp) (as : List Addr) (O : List D) : Prop where
  nd : as.Nodup
  len : as.length = O.length
  at_ : ∀ (i : Nat) (a : Addr) (d : D), as[i]? = some a → O[i]? = some d → F a = none ∧ ∃ o, H a = some o ∧ Cn F o d
inductive Sl (F : Hp) : L2.St → List (Option D) → Prop
  | nil : Sl F [] []
  | no {x : Option V} {σ : L2.St} {ρ : List (Option D)} : Sl F σ ρ → Sl F (x :: σ) (none :: ρ)
  | so {v : V} {d : D} {σ : L2.St} {ρ : List (Option D)} : R F v d → Sl F σ ρ → Sl F (some v :: σ) (some d :: ρ)
theorem Sl.mono {F F' : Hp} (e : Ex F F') : ∀ {σ : L2.St} {ρ : List (Option D)}, Sl F σ ρ → Sl F' σ ρ
  | _, _, .nil => .nil
  | _, _, .no t => .no (Sl.mono e t)
  | _, _, .so r t => .so (r.mono e) (Sl.mono e t)
theorem Sl.get {F : Hp} : ∀ {σ : L2.St} {ρ : List (Option D)} {i : Nat} {d : D}, Sl F σ ρ → ρ[i]? = some (some d) → ∃ v, σ[i]? = some (some v) ∧ R F v d
  | _, _, i, _, .nil, h => by simp at h
  | _, _, 0, _, .no t, h => by simp at h
  | _, _, i + 1, d, .no t, h => by
    obtain ⟨v, h1, h2⟩ := Sl.get (i := i) (d := d) t (by simpa using h)
    exact ⟨v, by simpa using h1, h2⟩
  | _, _, 0, _, .so r t, h => by
    simp at h
    subst h
    exact ⟨_, rfl, r⟩
  | _, _, i + 1, d, .so r t, h => by
    obtain ⟨v, h1, h2⟩ := Sl.get (i := i) (d := d) t (by simpa using h)
    exact ⟨v, by simpa using h1, h2⟩
theorem Sl.set {F : Hp} {v : V} {d : D} (r : R F v d) : ∀ {σ : L2.St} {ρ : List (Option D)} (i : Nat), Sl F σ ρ → Sl F (σ.set i (some v)) (ρ.set i (some d))
  | _, _, i, .nil => .nil
  | _, _, 0, .no t => .so r t
  | _, _, i + 1, .no t => .no (Sl.set r i t)
  | _, _, 0, .so _ t => .so r t
  | _, _, i + 1, .so q t => .so q (Sl.set r i t)
theorem Sl.forget {F : Hp} {x : Option V} : ∀ {σ : L2.St} {ρ : List (Option D)} (i : Nat), Sl F σ ρ → Sl F (σ.set i x) (ρ.set i none)
  | _, _, i, .nil => .nil
  | _, _, 0, .no t => .no t
  | _, _, i + 1, .no t => .no (Sl.forget i t)
  | _, _, 0, .so _ t => .no t
  | _, _, i + 1, .so q t => .so q (Sl.forget i t)
theorem Sl.wipe {F : Hp} {σ : L2.St} {ρ : List (Option D)} (s : Sl F σ ρ) : ∀ vs : List Nat, Sl F (L2.wipe σ vs) (vs.foldr (fun v r => r.set v none) ρ)
  | [] => s
  | v :: vs => Sl.forget v (Sl.wipe s vs)
theorem Sl.length {F : Hp} : ∀ {σ : L2.St} {ρ : List (Option D)}, Sl F σ ρ → σ.length = ρ.length
  | _, _, .nil => rfl
  | _, _, .no t => congrArg (· + 1) (Sl.length t)
  | _, _, .so _ t => congrArg (· + 1) (Sl.length t)
abbrev DSt := List (Option D)
structure Rep (L as : List Addr) (F H : Hp) (σ : L2.St) (ρ : DSt) (O : List D) : Prop where
  hd : Hd L F H
  own : Own F H as O
  sl : Sl F σ ρ
structure Go (as : List Addr) (F H : Hp) (as' : List Addr) (F' H' : Hp) : Prop where
  ex : Ex F F'
  nw : ∀ a o, F' a = some o → F a = some o ∨ H a = none ∨ a ∈ as
  kp : ∀ b o, H b = some o → b ∉ as → H' b = some o
  th : ∀ b, H' b = none → H b = none
  sub : ∀ b ∈ as', b ∈ as ∨ H b = none
theorem Go.refl (as : List Addr) (F H : Hp) : Go as F H as F H :=
  ⟨fun _ _ h => h, fun _ _ h => .inl h, fun _ _ h _ => h, fun _ h => h, fun _ h => .inl h⟩
theorem Go.trans {as as1 as2 : List Addr} {F F1 F2 H H1 H2 : Hp} (a : Go as F H as1 F1 H1) (b : Go as1 F1 H1 as2 F2 H2) : Go as F H as2 F2 H2 where
  ex := fun x o h => b.ex _ _ (a.ex _ _ h)
  nw := fun x o h => by
    rcases b.nw x o h with h | h | h
    · exact a.nw x o h
    · exact .inr (.inl (a.th _ h))
    · rcases a.sub x h with h | h
      · exact .inr (.inr h)
      · exact .inr (.inl h)
  kp := fun x o h n => b.kp x o (a.kp x o h n) fun m => by
    rcases a.sub x m with m | m
    · exact n m
    · rw [m] at h; cases h
  th := fun x h => a.th x (b.th x h)
  sub := fun x h => by
    rcases b.sub x h with h | h
    · exact a.sub x h
    · exact .inr (a.th x h)
theorem Own.get {F H : Hp} {as : List Addr} {O : List D} {j : Nat} {d : D} (w : Own F H as O) (h : O[j]? = some d) : ∃ a o, as[j]? = some a ∧ F a = none ∧ H a = some o ∧ Cn F o d := by
  have hj : j < as.length := by rw [w.len]; exact (List.getElem?_eq_some_iff.mp h).1
  obtain ⟨h1, o, h2, h3⟩ := w.at_ j _ d (List.getElem?_eq_getElem hj) h
  exact ⟨_, o, List.getElem?_eq_getElem hj, h1, h2, h3⟩
theorem Own.mem {F H : Hp} {as : List Addr} {O : List D} {a : Addr} (w : Own F H as O) (m : a ∈ as) : F a = none ∧ H a ≠ none := by
  obtain ⟨i, hi, e⟩ := List.mem_iff_getElem.mp m
  have ho : i < O.length := by rw [← w.len]; exact hi
  obtain ⟨h1, o, h2, _⟩ := w.at_ i a _ (by rw [List.getElem?_eq_getElem hi, e]) (List.getElem?_eq_getElem ho)
  exact ⟨h1, by rw [h2]; exact fun z => by cases z⟩
theorem Own.free {F H : Hp} {as : List Addr} {O : List D} {a : Addr} (w : Own F H as O) (m : a ∈ as) : F a = none := (w.mem m).1
theorem Own.tr {F H : Hp} {as : List Addr} {O : List D} {a : Addr} (w : Own F H as O) (m : a ∈ as) : H a ≠ none := (w.mem m).2
theorem Own.keep {F F' H H' : Hp} (e : Ex F F') {as : List Addr} {O : List D} (w : Own F H as O) (hf : ∀ a ∈ as, F' a = none) (hh : ∀ a ∈ as, ∀ o, H a = some o → H' a = some o) : Own F' H' as O where
  nd := w.nd
  len := w.len
  at_ := fun i a d h1 h2 => by
    obtain ⟨_, o, h3, h4⟩ := w.at_ i a d h1 h2
    have m := List.mem_of_getElem? h1
    exact ⟨hf a m, o, hh a m o h3, h4.mono e⟩
theorem nodup_ix {as : List Addr} (n : as.Nodup) {i j : Nat} {a : Addr} (h : as[i]? = some a) (h' : as[j]? = some a) : i = j := L2.nd_ix n h h'
theorem Own.put {F H : Hp} {a : Addr} {o' : HO} {d' : D} (c : Cn F o' d') {as : List Addr} {O : List D} {j : Nat} (w : Own F H as O) (h : as[j]? = some a) : Own F (upd H a o') as (O.set j d') where
  nd := w.nd
  len := by rw [List.length_set]; exact w.len
  at_ := fun i b d h1 h2 => by
    by_cases z : j = i
    · subst z
      rw [h] at h1
      cases h1
      have hj : j < O.length := by rw [← w.len]; exact (List.getElem?_eq_some_iff.mp h).1
      rw [List.getElem?_set_self hj] at h2
      cases h2
      exact ⟨w.free (List.mem_of_getElem? h), _, upd_same, c⟩
    · rw [List.getElem?_set_ne z] at h2
      obtain ⟨e1, o, e2, e3⟩ := w.at_ i b d h1 h2
      have nb : b ≠ a := fun y => z (nodup_ix w.nd h (y ▸ h1))
      exact ⟨e1, o, by rw [upd_ne nb]; exact e2, e3⟩
theorem Own.snoc {F H : Hp} {p : Addr} {o : HO} {d : D} (hf : F p = none) (hh : H p = none) (c : Cn F o d) {as : List Addr} {O : List D} (w : Own F H as O) : Own F (upd H p o) (as ++ [p]) (O ++ [d]) where
  nd := by
    rw [List.nodup_append]
    refine ⟨w.nd, by simp, fun a m b m' z => ?_⟩
    simp at m'
    subst m'; subst z
    exact w.tr m hh
  len := by simp [w.len]
  at_ := fun i b d' h1 h2 => by
    rcases Nat.lt_trichotomy i as.length with z | z | z
    · rw [List.getElem?_append_left z] at h1
      rw [List.getElem?_append_left (w.len ▸ z)] at h2
      obtain ⟨e1, o', e2, e3⟩ := w.at_ i b d' h1 h2
      exact ⟨e1, o', by rw [upd_ne (ne_of_none e2 hh)]; exact e2, e3⟩
    · rw [List.getElem?_append_right (Nat.le_of_eq z.symm)] at h1
      rw [List.getElem?_append_right (by rw [← w.len]; exact Nat.le_of_eq z.symm), ← w.len] at h2
      rw [z] at h1 h2
      simp at h1 h2
      subst h1; subst h2
      exact ⟨hf, o, upd_same, c⟩
    · rw [List.getElem?_eq_none (by simp; omega)] at h1
      cases h1
theorem mem_erase_ix {as : List Addr} {j i : Nat} {b : Addr} (h : (as.eraseIdx j)[i]? = some b) : ∃ i', i' ≠ j ∧ as[i']? = some b ∧ i' = if i < j then i else i + 1 := by
  rw [List.getElem?_eraseIdx] at h
  by_cases z : i < j
  · rw [if_pos z] at h
    exact ⟨i, by omega, h, by rw [if_pos z]⟩
  · rw [if_neg z] at h
    exact ⟨i + 1, by omega, h, by rw [if_neg z]⟩
theorem nodup_eraseIdx {as : List Addr} (n : as.Nodup) {j : Nat} {a : Addr} (h : as[j]? = some a) : a ∉ as.eraseIdx j := fun m => by
  obtain ⟨i, hi, e⟩ := List.mem_iff_getElem.mp m
  obtain ⟨i', z, e', _⟩ := mem_erase_ix (by rw [List.getElem?_eq_getElem hi, e] : (as.eraseIdx j)[i]? = some a)
  exact z (nodup_ix n e' h)
theorem Own.drop {F H : Hp} {as : List Addr} {O : List D} (j : Nat) (w : Own F H as O) : Own F H (as.eraseIdx j) (O.eraseIdx j) where
  nd := w.nd.sublist (List.eraseIdx_sublist ..)
  len := by
    rw [List.length_eraseIdx, List.length_eraseIdx, w.len]
  at_ := fun i b d h1 h2 => by
    rw [List.getElem?_eraseIdx] at h1 h2
    by_cases z : i < j
    · rw [if_pos z] at h1 h2
      exact w.at_ i b d h1 h2
    · rw [if_neg z] at h1 h2
      exact w.at_ (i + 1) b d h1 h2
theorem go_upd {as : List Addr} {F H : Hp} {a : Addr} {o : HO} (m : a ∈ as) : Go as F H as F (upd H a o) where
  ex := fun _ _ h => h
  nw := fun _ _ h => .inl h
  kp := fun b o h n => by
    rw [upd_ne (show b ≠ a from fun z => n (z ▸ m))]
    exact h
  th := fun b h => by
    by_cases z : b = a
    · subst z; rw [upd_same] at h; cases h
    · rw [upd_ne z] at h; exact h
  sub := fun _ h => .inl h
theorem go_new {as : List Addr} {F H : Hp} {p : Addr} {o : HO} (h : H p = none) : Go as F H (as ++ [p]) F (upd H p o) where
  ex := fun _ _ h => h
  nw := fun _ _ h => .inl h
  kp := fun b o e n => by
    rw [upd_ne (ne_of_none e h)]
    exact e
  th := fun b e => by
    by_cases z : b = p
    · subst z; exact h
    · rw [upd_ne z] at e; exact e
  sub := fun b m => by
    rcases List.mem_append.mp m with m | m
    · exact .inl m
    · simp at m; subst m; exact .inr h
theorem go_lay {as : List Addr} {F H : Hp} {p : Addr} {o : HO} (h : H p = none) (hf : F p = none) : Go as F H as (upd F p o) (upd H p o) where
  ex := fun a x e => by
    rw [upd_ne (ne_of_none e hf)]
    exact e
  nw := fun a x e => by
    by_cases z : a = p
    · subst z; exact .inr (.inl h)
    · rw [upd_ne z] at e; exact .inl e
  kp := fun b o e n => by
    rw [upd_ne (ne_of_none e h)]
    exact e
  th := fun b e => by
    by_cases z : b = p
    · subst z; exact h
    · rw [upd_ne z] at e; exact e
  sub := fun b m => .inl m
theorem Hd.upd {L : List Addr} {F H : Hp} {a : Addr} {o : HO} (h : Hd L F H) (hf : F a = none) : Hd L F (L2.upd H a o) where
  at_ := fun b u e => by
    rw [upd_ne (ne_of_none e hf)]
    exact h.at_ b u e
  lk := h.lk
theorem Hd.lay {L : List Addr} {F H : Hp} {p : Addr} {o : HO} (h : Hd L F H) (hh : H p = none) : Hd L (L2.upd F p o) (L2.upd H p o) where
  at_ := fun b u e => by
    by_cases z : b = p
    · subst z
      rw [upd_same] at e
      cases e
      exact .inl ⟨fun m => h.lkH m hh, upd_same⟩
    · rw [upd_ne z] at e
      rw [upd_ne z]
      exact h.at_ b u e
  lk := fun b m e => by
    by_cases z : b = p
    · subst z; rw [upd_same] at e; cases e
    · rw [upd_ne z] at e; exact h.lk b m e
theorem ex_lay {F : Hp} {p : Addr} {o : HO} (hf : F p = none) : Ex F (upd F p o) := fun a x e => by
  rw [upd_ne (ne_of_none e hf)]
  exact e
theorem Own.lay {F H : Hp} {p : Addr} {o : HO} {as : List Addr} {O : List D} (w : Own F H as O) (hh : H p = none) (hf : F p = none) : Own (upd F p o) (upd H p o) as O :=
  w.keep (ex_lay hf) (fun a m => by
    have : a ≠ p := fun z => w.tr m (z ▸ hh)
    rw [upd_ne this]; exact w.free m) fun a m o' e => by
    rw [upd_ne (ne_of_none e hh)]; exact e
theorem go_frz {as : List Addr} {F H : Hp} {a : Addr} {o : HO} {j : Nat} (hf : F a = none) (ha : as[j]? = some a) : Go as F H (as.eraseIdx j) (upd F a o) H where
  ex := ex_lay hf
  nw := fun b x e => by
    by_cases z : b = a
    · subst z; exact .inr (.inr (List.mem_of_getElem? ha))
    · rw [upd_ne z] at e; exact .inl e
  kp := fun _ _ h _ => h
  th := fun _ h => h
  sub := fun b m => .inl (List.mem_of_mem_eraseIdx m)
theorem Rep.frz {L as : List Addr} {F H : Hp} {σ : L2.St} {ρ : DSt} {O : List D} {a : Addr} {o : HO} {c : D} {j : Nat} (S : Rep L as F H σ ρ O) (ha : as[j]? = some a) (hc : O[j]? = some c) (hf : F a = none) (ho : H a = some o) (cn : Cn F o c) :
    Rep L (as.eraseIdx j) (upd F a o) H σ ρ (O.eraseIdx j) where
  hd := {
    at_ := fun b u e => by
      by_cases z : b = a
      · subst z
        rw [upd_same] at e
        cases e
        exact .inl ⟨fun m => S.hd.lk _ m hf, ho⟩
      · rw [upd_ne z] at e
        exact S.hd.at_ b u e
    lk := fun b m e => by
      by_cases z : b = a
      · subst z; rw [upd_same] at e; cases e
      · rw [upd_ne z] at e; exact S.hd.lk b m e }
  own := (S.own.drop j).keep (ex_lay hf) (fun b m => by
    have z : b ≠ a := fun y => nodup_eraseIdx S.own.nd ha (y ▸ m)
    rw [upd_ne z]
    exact S.own.free (List.mem_of_mem_eraseIdx m)) fun _ _ _ h => h
  sl := S.sl.mono (ex_lay hf)
structure GoX (L as : List Addr) (F H : Hp) (L' as' : List Addr) (F' H' : Hp) : Prop where
  ex : Ex F F'
  nw : ∀ a o, F' a = some o → F a = some o ∨ H a = none ∨ a ∈ as
  kp : ∀ b o, H b = some o → b ∉ as → H' b = some o ∨ (b ∈ L' ∧ b ∉ L ∧ ∃ kvs ob, o = .dK kvs ∧ H' b = some (.frz ob o))
  th : ∀ b, H' b = none → H b = none
  sub : ∀ b ∈ as', b ∈ as ∨ H b = none
theorem Go.x {as as' L : List Addr} {F H F' H' : Hp} (g : Go as F H as' F' H') : GoX L as F H L as' F' H' :=
  ⟨g.ex, g.nw, fun b o h n => .inl (g.kp b o h n), g.th, g.sub⟩
theorem Go.transX {L L' as as1 as2 : List Addr} {F F1 F2 H H1 H2 : Hp} (a : Go as F H as1 F1 H1) (b : GoX L as1 F1 H1 L' as2 F2 H2) : GoX L as F H L' as2 F2 H2 where
  ex := fun x o h => b.ex _ _ (a.ex _ _ h)
  nw := fun x o h => by
    rcases b.nw x o h with h | h | h
    · exact a.nw x o h
    · exact .inr (.inl (a.th _ h))
    · rcases a.sub x h with h | h
      · exact .inr (.inr h)
      · exact .inr (.inl h)
  kp := fun x o h n => b.kp x o (a.kp x o h n) fun m => by
    rcases a.sub x m with m | m
    · exact n m
    · rw [m] at h; cases h
  th := fun x h => a.th x (b.th x h)
  sub := fun x h => by
    rcases b.sub x h with h | h
    · exact a.sub x h
    · exact .inr (a.th x h)
structure Xk where
  E : WX
  e : List Addr → Addr → List (Str × D) → List Addr → DSt → List D → Prop
def XD (F' H H' : Hp) (d : Option Addr) (fds : List (Str × D)) : Prop := match d with
  | none => fds = []
  | some d => H d = none ∧ ∃ fs, H' d = some (.xd fs) ∧ Rn F' fs fds
theorem XD.imp {F' H H1 H' : Hp} {d : Option Addr} {fds : List (Str × D)} (h : XD F' H1 H' d fds) (i : ∀ b, H1 b = none → H b = none) : XD F' H H' d fds := by
  cases d with
  | none => exact h
  | some d => exact ⟨i _ h.1, h.2⟩
def XP (χ : Xk) (L as : List Addr) (F H : Hp) : Prop :=
  ∀ F' H' L' as' σ' ρ' O' cls d fds, GoX L as F H L' as' F' H' → Rep L' as' F' H' σ' ρ' O' → XD F' H H' d fds → χ.e L' cls fds as' ρ' O' → χ.E (.ref cls) d σ' H'
theorem XP.go {χ : Xk} {L as as1 : List Addr} {F H F1 H1 : Hp} (x : XP χ L as F H) (g : Go as F H as1 F1 H1) : XP χ L as1 F1 H1 :=
  fun F' H' L' as' σ' ρ' O' cls d fds g' S n => x F' H' L' as' σ' ρ' O' cls d fds (g.transX g') S (n.imp g.th)
def X0 : Xk := ⟨fun _ _ _ _ => False, fun _ _ _ _ _ _ => False⟩
theorem xp0 {L as : List Addr} {F H : Hp} : XP X0 L as F H := fun _ _ _ _ _ _ _ _ _ _ _ _ _ z => z
def dW {α β : Type} (rel : Hp → α → β → Prop) (χ : Xk) (t : L2.St → Hp → (α → Hp → Prop) → Prop) (L as : List Addr) (ρ : DSt) (O : List D) (k : List Addr → β → List D → Prop) : Prop :=
  ∀ F H σ, Rep L as F H σ ρ O → XP χ L as F H → ∀ Q : α → Hp → Prop, (∀ F' H' as' O' x y, Go as F H as' F' H' → Rep L as' F' H' σ ρ O' → rel F' x y → k as' y O' → Q x H') → t σ H Q
abbrev dE : Xk → TE → List Addr → List Addr → DSt → List D → (List Addr → D → List D → Prop) → Prop := dW R
abbrev dT : Xk → TT → List Addr → List Addr → DSt → List D → (List Addr → Bool → List D → Prop) → Prop := dW (fun _ (a b : Bool) => a = b)
abbrev dA : Xk → TA → List Addr → List Addr → DSt → List D → (List Addr → List D → List D → Prop) → Prop   := dW Rs
def rv (r : R2) (L as : List Addr) (O : List D) (d1 d2 : D) (k : List Addr → D → List D → Prop) : Prop :=
  ∀ F H x y, Hd L F H → Own F H as O → R F x d1 → R F y d2 → ∀ Q : VK, (∀ F' H' as' O' v d, Go as F H as' F' H' → Hd L F' H' → Own F' H' as' O' → R F' v d → k as' d O' → Q v H') → r x y H Q
def ru (r : V → Hp → VK → Prop) (L as : List Addr) (O : List D) (d1 : D) (k : List Addr → D → List D → Prop) : Prop :=
  ∀ F H x, Hd L F H → Own F H as O → R F x d1 → ∀ Q : VK, (∀ F' H' as' O' v d, Go as F H as' F' H' → Hd L F' H' → Own F' H' as' O' → R F' v d → k as' d O' → Q v H') → r x H Q
def rc (r : List V → Hp → VK → Prop) (L as : List Addr) (O : List D) (ds : List D) (k : List Addr → D → List D → Prop) : Prop :=
  ∀ F H xs, Hd L F H → Own F H as O → Rs F xs ds → ∀ Q : VK, (∀ F' H' as' O' v d, Go as F H as' F' H' → Hd L F' H' → Own F' H' as' O' → R F' v d → k as' d O' → Q v H') → r xs H Q
structure Kt where
  nx : List Addr → DSt → List D → Prop
  rt : List Addr → D → List D → Prop
  bk : List Addr → DSt → List D → Prop := fun _ _ _ => False
  ct : List Addr → DSt → List D → Prop := fun _ _ _ => False
structure Zk (L as : List Addr) (F H : Hp) (k : Kt) (Z : Ends) : Prop where
  nx : ∀ F' H' as' σ' ρ' O', Go as F H as' F' H' → Rep L as' F' H' σ' ρ' O' → k.nx as' ρ' O' → Z.nx σ' H'
  rt : ∀ F' H' as' O' v d, Go as F H as' F' H' → Hd L F' H' → Own F' H' as' O' → R F' v d → k.rt as' d O' → Z.rt v H'
  bk : ∀ F' H' as' σ' ρ' O', Go as F H as' F' H' → Rep L as' F' H' σ' ρ' O' → k.bk as' ρ' O' → Z.bk σ' H'
  ct : ∀ F' H' as' σ' ρ' O', Go as F H as' F' H' → Rep L as' F' H' σ' ρ' O' → k.ct as' ρ' O' → Z.ct σ' H'
theorem Zk.go {L as as1 : List Addr} {F H F1 H1 : Hp} {k : Kt} {Z : Ends} (z : Zk L as F H k Z) (g : Go as F H as1 F1 H1) : Zk L as1 F1 H1 k Z where
  nx := fun F' H' as' σ' ρ' O' g' => z.nx F' H' as' σ' ρ' O' (g.trans g')
  rt := fun F' H' as' O' v d g' => z.rt F' H' as' O' v d (g.trans g')
  bk := fun F' H' as' σ' ρ' O' g' => z.bk F' H' as' σ' ρ' O' (g.trans g')
  ct := fun F' H' as' σ' ρ' O' g' => z.ct F' H' as' σ' ρ' O' (g.trans g')
def dS (χ : Xk) (t : TS) (L as : List Addr) (ρ : DSt) (O : List D) (k : Kt) : Prop :=
  ∀ F H σ, Rep L as F H σ ρ O → XP χ L as F H → ∀ Z : Ends, Zk L as F H k Z → t Z σ H
def dG (χ : Xk) (g : TG) (d : D) (L as : List Addr) (ρ : DSt) (O : List D) (k : List Addr → DSt → List D → Prop) : Prop :=
  ∀ F H σ v, Rep L as F H σ ρ O → XP χ L as F H → R F v d → ∀ Q : L2.St → Hp → Prop, (∀ F' H' as' σ' ρ' O', Go as F H as' F' H' → Rep L as' F' H' σ' ρ' O' → k as' ρ' O' → Q σ' H') → g v σ H Q
def dGs (χ : Xk) (g : TGs) (ds : List D) (L as : List Addr) (ρ : DSt) (O : List D) (k : List Addr → DSt → List D → Prop) : Prop :=
  ∀ F H σ vs, Rep L as F H σ ρ O → XP χ L as F H → Rs F vs ds → ∀ Q : L2.St → Hp → Prop, (∀ F' H' as' σ' ρ' O', Go as F H as' F' H' → Rep L as' F' H' σ' ρ' O' → k as' ρ' O' → Q σ' H') → g vs σ H Q
def ItD (L as : List Addr) (F H : Hp) (J : It) (ds : List D) : Prop := ∃ G Y, Walk J ds.length G Y ∧ (∀ F2 H2 as2, Go as F H as2 F2 H2 → Hd L F2 H2 → G H2) ∧
  ∀ i as H H' x F2 O, i < ds.length → Ex F F2 → Hd L F2 H → Own F2 H as O → Y i H x H' → ∃ F3 d, ds[i]? = some d ∧ Go as F2 H as F3 H' ∧ Hd L F3 H' ∧ Own F3 H' as O ∧ R F3 x d
def dI (χ : Xk) (wi : TI) (L as : List Addr) (ρ : DSt) (O : List D) (k : List Addr → List D → List D → Prop) : Prop :=
  ∀ F H σ, Rep L as F H σ ρ O → XP χ L as F H → ∀ Q : It → Hp → Prop, (∀ F' H' as' O' J ds, Go as F H as' F' H' → Rep L as' F' H' σ ρ O' → ItD L as' F' H' J ds → k as' ds O' → Q J H') → wi σ H Q
section
variable {χ : Xk} {L as : List Addr} {ρ : DSt} {O : List D} {k : List Addr → D → List D → Prop} {kT : List Addr → Bool → List D → Prop} {kA : List Addr → List D → List D → Prop} {ta tb te : TE} {tt tu : TT} {d d1 d2 : D}
theorem dW.imp {α β : Type} {rel : Hp → α → β → Prop} {t : L2.St → Hp → (α → Hp → Prop) → Prop} {k k' : List Addr → β → List D → Prop} (h : dW rel χ t L as ρ O k) (i : ∀ a b c, k a b c → k' a b c) : dW rel χ t L as ρ O k' :=
  fun F H σ S x Q q => h F H σ S x Q fun F' H' as' O' a b g S' r z => q F' H' as' O' a b g S' r (i _ _ _ z)
theorem w_var {i : Nat} (h : ρ[i]? = some (some d)) (z : k as d O) : dE χ (tVar i) L as ρ O k := fun F H σ S _ Q q => by
  obtain ⟨v, e, r⟩ := S.sl.get h
  exact ⟨v, e, q F H as O v d (.refl ..) S r z⟩
theorem w_c {v : V} (r : ∀ F, R F v d) (z : k as d O) : dE χ (tC v) L as ρ O k := fun F H σ S _ Q q => q F H as O v d (.refl ..) S (r F) z
theorem w_int {i : Int} (z : k as (.int i) O) : dE χ (tC (.int i)) L as ρ O k := w_c (fun _ => .int i) z
theorem w_bl {b : Bool} (z : k as (.bl b) O) : dE χ (tC (.bl b)) L as ρ O k := w_c (fun _ => .bl b) z
theorem w_str {x : Str} (z : k as (.str x) O) : dE χ (tC (.str x)) L as ρ O k := w_c (fun _ => .str x) z
theorem w_non (z : k as .non O) : dE χ (tC .non) L as ρ O k := w_c (fun _ => .non) z
theorem w_op {r : R2} (h : dE χ ta L as ρ O fun as d1 O => dE χ tb L as ρ O fun as d2 O => rv r L as O d1 d2 k) : dE χ (tOp r ta tb) L as ρ O k := fun F H σ S x Q q =>
  h F H σ S x _ fun F1 H1 as1 O1 v1 d1 g1 S1 r1 z1 => z1 F1 H1 σ S1 (x.go g1) _ fun F2 H2 as2 O2 v2 d2 g2 S2 r2 z2 =>
    z2 F2 H2 v1 v2 S2.hd S2.own (r1.mono g2.ex) r2 _ fun F3 H3 as3 O3 v d g3 hd ow r3 z3 =>
      q F3 H3 as3 O3 v d (g1.trans (g2.trans g3)) ⟨hd, ow, S2.sl.mono g3.ex⟩ r3 z3
theorem w_un {r : V → Hp → VK → Prop} (h : dE χ ta L as ρ O fun as d1 O => ru r L as O d1 k) : dE χ (tUn r ta) L as ρ O k := fun F H σ S x Q q =>
  h F H σ S x _ fun F1 H1 as1 O1 v1 d1 g1 S1 r1 z1 =>
    z1 F1 H1 v1 S1.hd S1.own r1 _ fun F3 H3 as3 O3 v d g3 hd ow r3 z3 =>
      q F3 H3 as3 O3 v d (g1.trans g3) ⟨hd, ow, S1.sl.mono g3.ex⟩ r3 z3
theorem w_nil (z : kA as [] O) : dA χ tNil L as ρ O kA := fun F H σ S _ Q q => q F H as O [] [] (.refl ..) S .nil z
theorem w_cons {tr : TA} (h : dE χ te L as ρ O fun as d O => dA χ tr L as ρ O fun as ds O => kA as (d :: ds) O) : dA χ (tCons te tr) L as ρ O kA := fun F H σ S x Q q =>
  h F H σ S x _ fun F1 H1 as1 O1 v d1 g1 S1 r1 z1 => z1 F1 H1 σ S1 (x.go g1) _ fun F2 H2 as2 O2 y d2 g2 S2 r2 z2 =>
    q F2 H2 as2 O2 (v :: y) (d1 :: d2) (g1.trans g2) S2 (.cons (r1.mono g2.ex) r2) z2
theorem w_cb {r : List V → Hp → VK → Prop} {ta : TA} (h : dA χ ta L as ρ O fun as ds O => rc r L as O ds k) : dE χ (tCB r ta) L as ρ O k := fun F H σ S x Q q =>
  h F H σ S x _ fun F1 H1 as1 O1 v1 d1 g1 S1 r1 z1 =>
    z1 F1 H1 v1 S1.hd S1.own r1 _ fun F3 H3 as3 O3 v d g3 hd ow r3 z3 =>
      q F3 H3 as3 O3 v d (g1.trans g3) ⟨hd, ow, S1.sl.mono g3.ex⟩ r3 z3
theorem Rep.lay {F H : Hp} {σ : L2.St} {p : Addr} {o : HO} (S : Rep L as F H σ ρ O) (h : H p = none) : Rep L as (upd F p o) (upd H p o) σ ρ O :=
  ⟨S.hd.lay h, S.own.lay h (S.hd.free h), S.sl.mono (ex_lay (S.hd.free h))⟩
theorem Rep.new {F H : Hp} {σ : L2.St} {p : Addr} {o : HO} {d : D} (S : Rep L as F H σ ρ O) (h : H p = none) (c : Cn F o d) : Rep L (as ++ [p]) F (upd H p o) σ ρ (O ++ [d]) :=
  ⟨S.hd.upd (S.hd.free h), S.own.snoc (S.hd.free h) h c, S.sl⟩
theorem w_tup {t : TA} (h : dA χ t L as ρ O fun as ds O => ds.length ≤ sizeLine ∧ k as (.tup ds) O) : dE χ (tTup t) L as ρ O k := fun F H σ S x Q q =>
  h F H σ S x _ fun F1 H1 as1 O1 xs ds g1 S1 r1 z1 => ⟨by rw [r1.length]; exact z1.1, fun p hp =>
    q _ _ _ _ _ _ (g1.trans (go_lay hp (S1.hd.free hp))) (S1.lay (o := .tup xs) hp) (.tup upd_same (r1.mono (ex_lay (S1.hd.free hp)))) z1.2⟩
theorem w_lst {t : TA} (h : dA χ t L as ρ O fun as ds O => ds.length ≤ sizeLine ∧ ∀ p, k (as ++ [p]) (.adr p) (O ++ [.lst ds])) : dE χ (tLst t) L as ρ O k := fun F H σ S x Q q =>
  h F H σ S x _ fun F1 H1 as1 O1 xs ds g1 S1 r1 z1 =>
    ⟨by rw [r1.length]; exact z1.1, fun p hp => q _ _ _ _ _ _ (g1.trans (go_new hp)) (S1.new hp (.lst r1)) (.adr p) (z1.2 p)⟩
theorem w_lstF {t : TA} (h : dA χ t L as ρ O fun as ds O => ds.length ≤ sizeLine ∧ k as (.lst ds) O) : dE χ (tLst t) L as ρ O k := fun F H σ S x Q q =>
  h F H σ S x _ fun F1 H1 as1 O1 xs ds g1 S1 r1 z1 => ⟨by rw [r1.length]; exact z1.1, fun p hp =>
    q _ _ _ _ _ _ (g1.trans (go_lay hp (S1.hd.free hp))) (S1.lay (o := .lst xs) hp) (.lst upd_same (r1.mono (ex_lay (S1.hd.free hp)))) z1.2⟩
theorem w_dnew (z : ∀ p, k (as ++ [p]) (.adr p) (O ++ [.dk []])) : dE χ tDNewK L as ρ O k := fun F H σ S _ Q q p hp =>
  q _ _ _ _ _ _ (go_new hp) (S.new hp (.dk .nil)) (.adr p) (z p)
theorem w_test (h : dE χ te L as ρ O fun as d O => ∃ b, d = .bl b ∧ kT as b O) : dT χ (tTest te) L as ρ O kT := fun F H σ S x Q q =>
  h F H σ S x _ fun F1 H1 as1 O1 v d g1 S1 r1 z1 => by
    obtain ⟨b, rfl, z⟩ := z1
    cases r1
    exact ⟨b, rfl, q _ _ _ _ _ _ g1 S1 rfl z⟩
theorem w_tB (h : dE χ te L as ρ O fun as d O => ∃ b, d = .bl b ∧ kT as b O) : dT χ (tB te) L as ρ O kT := w_test h
theorem w_and (h : dT χ tt L as ρ O fun as b O => if b = true then dT χ tu L as ρ O kT else kT as false O) : dT χ (tAnd tt tu) L as ρ O kT := fun F H σ S x Q q =>
  h F H σ S x _ fun F1 H1 as1 O1 v b g1 S1 r1 z1 => by
    cases r1
    cases v with
    | true => exact z1 F1 H1 σ S1 (x.go g1) _ fun F2 H2 as2 O2 y b2 g2 S2 r2 z2 => q _ _ _ _ _ _ (g1.trans g2) S2 r2 z2
    | false => exact q _ _ _ _ _ _ g1 S1 rfl z1
theorem w_or (h : dT χ tt L as ρ O fun as b O => if b = true then kT as true O else dT χ tu L as ρ O kT) : dT χ (tOr tt tu) L as ρ O kT := fun F H σ S x Q q =>
  h F H σ S x _ fun F1 H1 as1 O1 v b g1 S1 r1 z1 => by
    cases r1
    cases v with
    | false => exact z1 F1 H1 σ S1 (x.go g1) _ fun F2 H2 as2 O2 y b2 g2 S2 r2 z2 => q _ _ _ _ _ _ (g1.trans g2) S2 r2 z2
    | true => exact q _ _ _ _ _ _ g1 S1 rfl z1
theorem w_not (h : dT χ tt L as ρ O fun as b O => kT as (!b) O) : dT χ (tNot tt) L as ρ O kT := fun F H σ S x Q q =>
  h F H σ S x _ fun F1 H1 as1 O1 v b g1 S1 r1 z1 => by
    cases r1
    exact q _ _ _ _ _ _ g1 S1 rfl z1
theorem w_andV (h : dE χ ta L as ρ O fun as d O => ∃ b, d = .bl b ∧ if b = true then dE χ tb L as ρ O k else k as (.bl false) O) : dE χ (tAndV ta tb) L as ρ O k := fun F H σ S x Q q =>
  h F H σ S x _ fun F1 H1 as1 O1 v d g1 S1 r1 z1 => by
    obtain ⟨b, rfl, z⟩ := z1
    cases r1
    refine ⟨b, rfl, ?_⟩
    cases b with
    | true => exact z F1 H1 σ S1 (x.go g1) _ fun F2 H2 as2 O2 y b2 g2 S2 r2 z2 => q _ _ _ _ _ _ (g1.trans g2) S2 r2 z2
    | false => exact q _ _ _ _ _ _ g1 S1 (.bl _) z
theorem w_orV (h : dE χ ta L as ρ O fun as d O => ∃ b, d = .bl b ∧ if b = true then k as (.bl true) O else dE χ tb L as ρ O k) : dE χ (tOrV ta tb) L as ρ O k := fun F H σ S x Q q =>
  h F H σ S x _ fun F1 H1 as1 O1 v d g1 S1 r1 z1 => by
    obtain ⟨b, rfl, z⟩ := z1
    cases r1
    refine ⟨b, rfl, ?_⟩
    cases b with
    | false => exact z F1 H1 σ S1 (x.go g1) _ fun F2 H2 as2 O2 y b2 g2 S2 r2 z2 => q _ _ _ _ _ _ (g1.trans g2) S2 r2 z2
    | true => exact q _ _ _ _ _ _ g1 S1 (.bl _) z
theorem w_notV (h : dE χ ta L as ρ O fun as d O => ∃ b, d = .bl b ∧ k as (.bl (!b)) O) : dE χ (tNotV ta) L as ρ O k := fun F H σ S x Q q =>
  h F H σ S x _ fun F1 H1 as1 O1 v d g1 S1 r1 z1 => by
    obtain ⟨b, rfl, z⟩ := z1
    cases r1
    exact ⟨b, rfl, q _ _ _ _ _ _ g1 S1 (.bl _) z⟩
theorem w_if (h : dT χ tt L as ρ O fun as b O => if b = true then dE χ ta L as ρ O k else dE χ tb L as ρ O k) : dE χ (tIf tt ta tb) L as ρ O k := fun F H σ S x Q q =>
  h F H σ S x _ fun F1 H1 as1 O1 v b g1 S1 r1 z1 => by
    cases r1
    cases v with
    | true => exact z1 F1 H1 σ S1 (x.go g1) _ fun F2 H2 as2 O2 y b2 g2 S2 r2 z2 => q _ _ _ _ _ _ (g1.trans g2) S2 r2 z2
    | false => exact z1 F1 H1 σ S1 (x.go g1) _ fun F2 H2 as2 O2 y b2 g2 S2 r2 z2 => q _ _ _ _ _ _ (g1.trans g2) S2 r2 z2
theorem rv_I0 {g : Int → Int → V} {i j : Int} (r : ∀ F, R F (g i j) d) (z : k as d O) : rv (rI0 g) L as O (.int i) (.int j) k := fun F H x y hd ow r1 r2 Q q => by
  cases r1
  cases r2
  exact ⟨i, j, rfl, rfl, q F H as O _ d (.refl ..) hd ow (r F) z⟩
theorem rv_I {C : Int → Int → Prop} {g : Int → Int → V} {i j : Int} (r : ∀ F, R F (g i j) d) (z : C i j ∧ k as d O) : rv (rI C g) L as O (.int i) (.int j) k := fun F H x y hd ow r1 r2 Q q => by
  cases r1
  cases r2
  exact ⟨i, j, rfl, rfl, z.1, q F H as O _ d (.refl ..) hd ow (r F) z.2⟩
theorem rv_i0 {g : Int → Int → Int} {i j : Int} (z : k as (.int (g i j)) O) : rv (rI0 fun i j => .int (g i j)) L as O (.int i) (.int j) k := rv_I0 (fun _ => .int _) z
theorem rv_b0 {g : Int → Int → Bool} {i j : Int} (z : k as (.bl (g i j)) O) : rv (rI0 fun i j => .bl (g i j)) L as O (.int i) (.int j) k := rv_I0 (fun _ => .bl _) z
theorem rv_i {C : Int → Int → Prop} {g : Int → Int → Int} {i j : Int} (hc : C i j) (z : k as (.int (g i j)) O) : rv (rI C fun i j => .int (g i j)) L as O (.int i) (.int j) k := rv_I (fun _ => .int _) ⟨hc, z⟩
def eqD : D → D → Bool
  | .non, .non => true
  | .bl a, .bl b => a == b
  | .int a, .int b => a == b
  | .str a, .str b => a == b
  | _, _ => false
def scalD : D → D → Bool
  | .non, .non => true | .non, .int _ => true | .int _, .non => true | .non, .bl _ => true | .bl _, .non => true | .non, .str _ => true | .str _, .non => true
  | .int _, .int _ => true | .bl _, .bl _ => true | .str _, .str _ => true
  | .int _, .str _ => true | .str _, .int _ => true | .bl _, .str _ => true | .str _, .bl _ => true
  | _, _ => false
theorem scal_of {F : Hp} {x y : V} {d1 d2 : D} (r1 : R F x d1) (r2 : R F y d2) (h : scalD d1 d2 = true) : scal x y = true ∧ decide (x = y) = eqD d1 d2 := by
  cases r1 <;> cases r2 <;> first
    | (simp [scalD] at h; done)
    | exact ⟨rfl, rfl⟩
    | exact ⟨rfl, dec_int⟩
    | exact ⟨rfl, dec_bl⟩
    | exact ⟨rfl, dec_str⟩
theorem rv_eq (h : scalD d1 d2 = true) (z : k as (.bl (eqD d1 d2)) O) : rv rEq L as O d1 d2 k := fun F H x y hd ow r1 r2 Q q => by
  obtain ⟨e1, e2⟩ := scal_of r1 r2 h
  exact ⟨e1, e2 ▸ q F H as O _ _ (.refl ..) hd ow (.bl _) z⟩
theorem rv_ne (h : scalD d1 d2 = true) (z : k as (.bl (!eqD d1 d2)) O) : rv rNe L as O d1 d2 k := fun F H x y hd ow r1 r2 Q q => by
  obtain ⟨e1, e2⟩ := scal_of r1 r2 h
  exact ⟨e1, e2 ▸ q F H as O _ _ (.refl ..) hd ow (.bl _) z⟩
section
variable {ts tw : TS} {K : Kt} {g : TG}
theorem s_seq (h : dS χ ts L as ρ O { K with nx := fun as ρ O => dS χ tw L as ρ O K }) : dS χ (tSeq ts tw) L as ρ O K := fun F H σ S x Z z =>
  h F H σ S x _ ⟨fun F1 H1 as1 σ1 ρ1 O1 g1 S1 z1 => z1 F1 H1 σ1 S1 (x.go g1) Z (z.go g1), z.rt, z.bk, z.ct⟩
theorem s_next (h : K.nx as ρ O) : dS χ tNext L as ρ O K := fun F H σ S _ Z z => z.nx F H as σ ρ O (.refl ..) S h
theorem s_cont (h : K.ct as ρ O) : dS χ tCont L as ρ O K := fun F H σ S _ Z z => z.ct F H as σ ρ O (.refl ..) S h
theorem s_asg (h : dE χ te L as ρ O fun as d O => dG χ g d L as ρ O K.nx) : dS χ (tAsg te g) L as ρ O K := fun F H σ S x Z z =>
  h F H σ S x _ fun F1 H1 as1 O1 v d g1 S1 r1 z1 => z1 F1 H1 σ v S1 (x.go g1) r1 _ fun F2 H2 as2 σ2 ρ2 O2 g2 => z.nx F2 H2 as2 σ2 ρ2 O2 (g1.trans g2)
theorem g_name {kG : List Addr → DSt → List D → Prop} {i : Nat} (z : kG as (ρ.set i (some d)) O) : dG χ (gName i) d L as ρ O kG := fun F H σ v S _ r Q q =>
  q F H as _ _ O (.refl ..) ⟨S.hd, S.own, S.sl.set r i⟩ z
theorem s_set {i : Nat} (h : dE χ te L as ρ O fun as d O => K.nx as (ρ.set i (some d)) O) : dS χ (tAsg te (gName i)) L as ρ O K := s_asg (h.imp fun _ _ _ z => g_name z)
theorem s_drop (h : dE χ te L as ρ O fun as d O => K.nx as ρ O) : dS χ (tDrop te) L as ρ O K := fun F H σ S x Z z =>
  h F H σ S x _ fun F1 H1 as1 O1 v d g1 S1 r1 z1 => z.nx F1 H1 as1 σ ρ O1 g1 S1 z1
theorem s_ret (h : dE χ te L as ρ O K.rt) : dS χ (tRet te) L as ρ O K := fun F H σ S x Z z =>
  h F H σ S x _ fun F1 H1 as1 O1 v d g1 S1 r1 z1 => z.rt F1 H1 as1 O1 v d g1 S1.hd S1.own r1 z1
theorem s_if (h : dT χ tt L as ρ O fun as b O => if b = true then dS χ ts L as ρ O K else dS χ tw L as ρ O K) : dS χ (tIfS tt ts tw) L as ρ O K := fun F H σ S x Z z =>
  h F H σ S x _ fun F1 H1 as1 O1 v b g1 S1 r1 z1 => by
    cases r1
    cases v with
    | true => exact z1 F1 H1 σ S1 (x.go g1) Z (z.go g1)
    | false => exact z1 F1 H1 σ S1 (x.go g1) Z (z.go g1)
theorem gs_nil {kG : List Addr → DSt → List D → Prop} (z : kG as ρ O) : dGs χ gNil [] L as ρ O kG := fun F H σ vs S _ r Q q => by
  cases r
  exact ⟨rfl, q F H as σ ρ O (.refl ..) S z⟩
theorem gs_cons {kG : List Addr → DSt → List D → Prop} {gs : TGs} {ds : List D} (h : dG χ g d L as ρ O fun as ρ O => dGs χ gs ds L as ρ O kG) : dGs χ (gCons g gs) (d :: ds) L as ρ O kG := fun F H σ vs S x r Q q => by
  cases r with
  | cons r1 r2 =>
    exact ⟨_, _, rfl, h F H σ _ S x r1 _ fun F1 H1 as1 σ1 ρ1 O1 g1 S1 z1 => z1 F1 H1 σ1 _ S1 (x.go g1) (r2.mono g1.ex) _ fun F2 H2 as2 σ2 ρ2 O2 g2 => q F2 H2 as2 σ2 ρ2 O2 (g1.trans g2)⟩
theorem g_tup {kG : List Addr → DSt → List D → Prop} {KK : PySem.W.Frag} {n : Nat} {gs : TGs} {ds : List D} (hn : ds.length = n) (h : dGs χ gs ds L as ρ O kG) : dG χ (gTup KK n gs) (.tup ds) L as ρ O kG := fun F H σ v S x r Q q => by
  cases r with
  | tup e r => exact ⟨_, _, rfl, SqT.of (S.hd.tup e), by rw [r.length]; exact hn, h F H σ _ S x r Q q⟩
theorem s_for {wi : TI} (h : dI χ wi L as ρ O fun as1 ds O1 => ∃ I : Nat → List Addr → DSt → List D → Prop, I 0 as1 ρ O1 ∧
    (∀ i as ρ O d, ds[i]? = some d → I i as ρ O → dG χ g d L as ρ O fun as ρ O => dS χ tw L as ρ O { nx := I (i + 1), ct := I (i + 1), bk := K.nx, rt := K.rt }) ∧ ∀ as ρ O, I ds.length as ρ O → K.nx as ρ O) :
    dS χ (tFor wi g tw) L as ρ O K := fun F H σ S x Z z =>
  h F H σ S x _ fun F1 H1 as1 O1 J ds g1 S1 ⟨G, Y, wk, hG, hY⟩ ⟨I, i0, is, ie⟩ => by
    refine for_it wk (fun i σ' H' => ∃ F' as' ρ' O', Go as1 F1 H1 as' F' H' ∧ Rep L as' F' H' σ' ρ' O' ∧ I i as' ρ' O') ⟨F1, as1, ρ, O1, .refl .., S1, i0⟩ ?_ ?_ ?_
    · rintro i σ' H' _ ⟨F', as', ρ', O', g', S', _⟩
      exact hG F' H' as' g' S'.hd
    · rintro i v σ' H' H2 hi ⟨F', as', ρ', O', g', S', z'⟩ hy
      obtain ⟨F3, d, hd, g3, hd3, ow3, r3⟩ := hY i as' H' H2 v F' O' hi g'.ex S'.hd S'.own hy
      have S3 : Rep L as' F3 H2 σ' ρ' O' := ⟨hd3, ow3, S'.sl.mono g3.ex⟩
      refine is i as' ρ' O' d hd z' F3 H2 σ' v S3 (x.go (g1.trans (g'.trans g3))) r3 _ fun F4 H4 as4 σ4 ρ4 O4 g4 S4 z4 => ?_
      have gg := g'.trans (g3.trans g4)
      exact z4 F4 H4 σ4 S4 (x.go (g1.trans gg)) _ ⟨fun F5 H5 as5 σ5 ρ5 O5 g5 S5 z5 => ⟨F5, as5, ρ5, O5, gg.trans g5, S5, z5⟩,
        (z.go (g1.trans gg)).rt, (z.go (g1.trans gg)).nx, fun F5 H5 as5 σ5 ρ5 O5 g5 S5 z5 => ⟨F5, as5, ρ5, O5, gg.trans g5, S5, z5⟩⟩
    · rintro σ' H' ⟨F', as', ρ', O', g', S', z'⟩
      exact z.nx F' H' as' σ' ρ' O' (g1.trans g') S' (ie as' ρ' O' z')
theorem s_while (I : Nat → List Addr → DSt → List D → Prop) (m0 : Nat) (i0 : I m0 as ρ O)
    (h : ∀ m as ρ O, I m as ρ O → dT χ tt L as ρ O fun as b O => if b = true then dS χ tw L as ρ O { nx := fun as ρ O => ∃ m', m' < m ∧ I m' as ρ O, ct := fun as ρ O => ∃ m', m' < m ∧ I m' as ρ O, bk := K.nx, rt := K.rt } else K.nx as ρ O) :
    dS χ (tWhile tt tw) L as ρ O K := fun F H σ S x Z z => by
  refine ⟨fun m σ' H' => ∃ F' as' ρ' O', Go as F H as' F' H' ∧ Rep L as' F' H' σ' ρ' O' ∧ I m as' ρ' O', ⟨m0, F, as, ρ, O, .refl .., S, i0⟩, ?_⟩
  rintro m σ' H' ⟨F', as', ρ', O', g', S', z'⟩
  refine h m as' ρ' O' z' F' H' σ' S' (x.go g') _ fun F2 H2 as2 O2 v b g2 S2 r2 z2 => ?_
  cases r2
  cases v with
  | false => exact z.nx F2 H2 as2 σ' ρ' O2 (g'.trans g2) S2 z2
  | true =>
    have gg := g'.trans g2
    refine ⟨fun σ3 H3 => ∃ m', m' < m ∧ ∃ F' as' ρ' O', Go as F H as' F' H3 ∧ Rep L as' F' H3 σ3 ρ' O' ∧ I m' as' ρ' O', fun _ _ h => h, ?_⟩
    exact z2 F2 H2 σ' S2 (x.go gg) _ ⟨fun F5 H5 as5 σ5 ρ5 O5 g5 S5 ⟨m', hm, z5⟩ => ⟨m', hm, F5, as5, ρ5, O5, gg.trans g5, S5, z5⟩, (z.go gg).rt, (z.go gg).nx,
      fun F5 H5 as5 σ5 ρ5 O5 g5 S5 ⟨m', hm, z5⟩ => ⟨m', hm, F5, as5, ρ5, O5, gg.trans g5, S5, z5⟩⟩
theorem s_freeze (j : Nat) (a : Addr) (c : D) (i : Nat) (ha : as[j]? = some a) (hc : O[j]? = some c) (hi : ρ[i]? = some (some (.adr a))) (h : dS χ ts L (as.eraseIdx j) (ρ.set i (some c)) (O.eraseIdx j) K) : dS χ ts L as ρ O K := fun F H σ S x Z z => by
  obtain ⟨hf, o, ho, cn⟩ := S.own.at_ j a c ha hc
  have S' := S.frz ha hc hf ho cn
  have g : Go as F H (as.eraseIdx j) (upd F a o) H := go_frz hf ha
  obtain ⟨v, e, r⟩ := S.sl.get hi
  cases r
  have r' : R (upd F a o) (.ref a) c := .of upd_same (cn.mono (ex_lay hf))
  have hs : σ.set i (some (.ref a)) = σ := by
    apply List.ext_getElem?
    intro n
    by_cases q : i = n
    · subst q
      rw [List.getElem?_set_self (List.getElem?_eq_some_iff.mp e).1, e]
    · rw [List.getElem?_set_ne q]
  have S2 : Rep L (as.eraseIdx j) (upd F a o) H σ (ρ.set i (some c)) (O.eraseIdx j) := ⟨S'.hd, S'.own, by rw [← hs]; exact S'.sl.set r' i⟩
  exact h _ _ σ S2 (x.go g) Z (z.go g)
end
end
end DL
namespace DL
open PySem PySem.Spec PyProof.Rows L2
theorem pe_gi {X : Cx} {x : Str} {i : Int} {pos : Pos} (hg : Gl X x) (h : ∃ t, X.mg x = some (.int i t)) (hd : (x == ("__debug__" : Str)) = false := by decide) : PE X (.Name x pos) (tC (.int i)) := by
  obtain ⟨t, e⟩ := h
  exact pe_glob hg e ⟨t, rfl⟩ hd
theorem pe_gs {X : Cx} {x z : Str} {pos : Pos} (hg : Gl X x) (h : ∃ t, X.mg x = some (.str z t)) (hd : (x == ("__debug__" : Str)) = false := by decide) : PE X (.Name x pos) (tC (.str z)) := by
  obtain ⟨t, e⟩ := h
  exact pe_glob hg e ⟨t, rfl⟩ hd
def fdAt (K : PySem.W.Frag) (p : Str × Option Str) : FuncData := match K.lookup (He.fAd K p) with
  | some ⟨_, _, .func fd, _⟩ => fd
  | _ => default
section
variable {χ : Xk} {L as : List Addr} {ρ : DSt} {O : List D} {k : List Addr → D → List D → Prop} {kT : List Addr → Bool → List D → Prop} {kA : List Addr → List D → List D → Prop} {ta tb te : TE} {tt tu : TT} {d d1 d2 : D} {KK : PySem.W.Frag}
def putAll : List D → List Nat → List D → List D
  | O, j :: js, c :: cs => (putAll O js cs).set j c
  | O, _, _ => O
theorem putAll_len : ∀ (O : List D) (js : List Nat) (cs : List D), (putAll O js cs).length = O.length
  | O, [], [] => rfl
  | O, [], _ :: _ => rfl
  | O, _ :: _, [] => rfl
  | O, j :: js, c :: cs => by
    show ((putAll O js cs).set j c).length = _
    rw [List.length_set, putAll_len O js cs]
theorem putAll_out : ∀ {O : List D} {js : List Nat} {cs : List D} {i : Nat}, i ∉ js → (putAll O js cs)[i]? = O[i]?
  | O, [], [], _, _ => rfl
  | O, [], _ :: _, _, _ => rfl
  | O, _ :: _, [], _, _ => rfl
  | O, j :: js, c :: cs, i, h => by
    show ((putAll O js cs).set j c)[i]? = _
    rw [List.getElem?_set_ne (show j ≠ i from fun z => h (z ▸ List.mem_cons_self)), putAll_out fun m => h (List.mem_cons_of_mem _ m)]
theorem putAll_in : ∀ {O : List D} {js : List Nat} {cs : List D} {t i : Nat} {d : D}, js.Nodup → js[t]? = some i → (∀ j ∈ js, j < O.length) → js.length = cs.length → (putAll O js cs)[i]? = some d → cs[t]? = some d
  | O, [], cs, t, i, d, _, h, _, _, _ => by simp at h
  | O, j :: js, [], t, i, d, _, _, _, h, _ => by simp at h
  | O, j :: js, c :: cs, 0, i, d, n, h, hl, _, e => by
    simp at h
    subst h
    have e' : ((putAll O js cs).set j c)[j]? = some d := e
    rw [List.getElem?_set_self (by rw [putAll_len]; exact hl j List.mem_cons_self)] at e'
    exact e'
  | O, j :: js, c :: cs, t + 1, i, d, n, h, hl, hc, e => by
    have h : js[t]? = some i := by simpa using h
    obtain ⟨n1, n2⟩ := List.nodup_cons.mp n
    have ne : j ≠ i := fun z => n1 (z ▸ List.mem_of_getElem? h)
    have e' : ((putAll O js cs).set j c)[i]? = some d := e
    rw [List.getElem?_set_ne ne] at e'
    exact putAll_in (t := t) n2 h (fun j m => hl j (List.mem_cons_of_mem _ m)) (by simpa using hc) e'
abbrev selA (as : List Addr) (js : List Nat) : List Addr := js.map fun j => as.getD j 0
abbrev selO (O : List D) (js : List Nat) : List D := js.map fun j => O.getD j .non
theorem selA_at {as : List Addr} {js : List Nat} {t : Nat} {a : Addr} (hl : ∀ j ∈ js, j < as.length) (h : (selA as js)[t]? = some a) : ∃ j, js[t]? = some j ∧ as[j]? = some a := by
  rw [List.getElem?_map] at h
  cases e : js[t]? with
  | none => rw [e] at h; cases h
  | some j =>
    rw [e] at h
    have hj := hl j (List.mem_of_getElem? e)
    refine ⟨j, rfl, ?_⟩
    rw [List.getElem?_eq_getElem hj]
    simp [List.getD_eq_getElem?_getD, List.getElem?_eq_getElem hj] at h
    rw [h]
theorem selA_mem {as : List Addr} {js : List Nat} {a : Addr} (hl : ∀ j ∈ js, j < as.length) (h : a ∈ selA as js) : a ∈ as := by
  obtain ⟨t, ht, e⟩ := List.mem_iff_getElem.mp h
  obtain ⟨j, _, e'⟩ := selA_at hl (by rw [List.getElem?_eq_getElem ht, e] : (selA as js)[t]? = some a)
  exact List.mem_of_getElem? e'
theorem Own.sel {F H : Hp} {js : List Nat} (w : Own F H as O) (n : js.Nodup) (hl : ∀ j ∈ js, j < as.length) : Own F H (selA as js) (selO O js) where
  nd := by
    rw [List.nodup_iff_pairwise_ne, List.pairwise_iff_getElem]
    intro s t hs ht hlt e
    obtain ⟨i, h1, h2⟩ := selA_at hl (List.getElem?_eq_getElem hs)
    obtain ⟨j, h3, h4⟩ := selA_at hl (List.getElem?_eq_getElem ht)
    rw [← e] at h4
    have := nodup_ix w.nd h2 h4
    subst this
    have := L2.nd_ix n h1 h3
    omega
  len := by simp
  at_ := fun t a d h1 h2 => by
    obtain ⟨j, e1, e2⟩ := selA_at hl h1
    have hj := hl j (List.mem_of_getElem? e1)
    rw [List.getElem?_map, e1] at h2
    have hj2 : j < O.length := w.len ▸ hj
    have e3 : O[j]? = some d := by
      simp [List.getD_eq_getElem?_getD, List.getElem?_eq_getElem hj2] at h2
      rw [List.getElem?_eq_getElem hj2, h2]
    exact w.at_ j a d e2 e3
theorem GoX.go {L as as' : List Addr} {F H F' H' : Hp} (g : GoX L as F H L as' F' H') : Go as F H as' F' H' where
  ex := g.ex
  nw := g.nw
  kp := fun b o h n => by
    rcases g.kp b o h n with z | ⟨z, z', _⟩
    · exact z
    · exact absurd z z'
  th := g.th
  sub := g.sub
theorem Own.backX {F H F' H' : Hp} {L' : List Addr} {js : List Nat} {new : List Addr} {cnew Oc : List D} (w : Own F H as O) (n : js.Nodup) (hl : ∀ j ∈ js, j < as.length) (g : GoX L (selA as js) F H L' (selA as js ++ new) F' H')
    (hd' : Hd L' F' H') (w' : Own F' H' (selA as js ++ new) (Oc ++ cnew)) (lo : Oc.length = js.length) : Own F' H' (as ++ new) (putAll O js Oc ++ cnew) ∧ GoX L as F H L' (as ++ new) F' H' := by
  have lA : (selA as js).length = js.length := by simp
  have nnew : ∀ a ∈ new, a ∉ selA as js := fun a m m' => by
    have := w'.nd
    rw [List.nodup_append] at this
    exact this.2.2 a m' a m rfl
  have hnew : ∀ a ∈ new, a ∉ as := fun a m m' => by
    rcases g.sub a (List.mem_append_right _ m) with z | z
    · exact nnew a m z
    · exact w.tr m' z
  have ln : new.length = cnew.length := by
    have := w'.len
    simp at this
    omega
  refine ⟨⟨?_, ?_, ?_⟩, ⟨g.ex, fun a o h => ?_, fun b o h m => g.kp b o h fun z => m (selA_mem hl z), g.th, fun b m => ?_⟩⟩
  · rw [List.nodup_append]
    refine ⟨w.nd, ?_, fun a m b m' z => hnew b m' (z ▸ m)⟩
    have := w'.nd
    rw [List.nodup_append] at this
    exact this.2.1
  · rw [List.length_append, List.length_append, putAll_len, w.len, ln]
  · intro i a d h1 h2
    rcases Nat.lt_or_ge i as.length with z | z
    · rw [List.getElem?_append_left z] at h1
      rw [List.getElem?_append_left (by rw [putAll_len, ← w.len]; exact z)] at h2
      by_cases m : i ∈ js
      · obtain ⟨t, ht, e⟩ := List.mem_iff_getElem.mp m
        have et : js[t]? = some i := by rw [List.getElem?_eq_getElem ht, e]
        have h3 := putAll_in n et (fun j q => w.len ▸ hl j q) lo.symm h2
        have h4 : (selA as js)[t]? = some a := by
          rw [List.getElem?_map, et]
          simp [List.getD_eq_getElem?_getD, h1]
        refine w'.at_ t a d ?_ ?_
        · rw [List.getElem?_append_left (by rw [lA]; exact ht)]; exact h4
        · rw [List.getElem?_append_left (by rw [lo]; exact ht)]; exact h3
      · rw [putAll_out m] at h2
        obtain ⟨e1, o, e2, e3⟩ := w.at_ i a d h1 h2
        have na : a ∉ selA as js := fun q => by
          obtain ⟨t, ht, e⟩ := List.mem_iff_getElem.mp q
          obtain ⟨j, f1, f2⟩ := selA_at hl (by rw [List.getElem?_eq_getElem ht, e] : (selA as js)[t]? = some a)
          have := nodup_ix w.nd h1 f2
          subst this
          exact m (List.mem_of_getElem? f1)
        have fa : F' a = none := by
          cases q : F' a with
          | none => rfl
          | some u =>
            rcases g.nw a u q with q | q | q
            · rw [e1] at q; cases q
            · rw [e2] at q; cases q
            · exact absurd q na
        refine ⟨fa, o, ?_, e3.mono g.ex⟩
        rcases g.kp a o e2 na with q | ⟨q, _⟩
        · exact q
        · exact absurd fa (hd'.lk a q)
    · rw [List.getElem?_append_right z] at h1
      rw [List.getElem?_append_right (by rw [putAll_len, ← w.len]; exact z), putAll_len, ← w.len] at h2
      refine w'.at_ (js.length + (i - as.length)) a d ?_ ?_
      · rw [List.getElem?_append_right (by rw [lA]; omega), lA]
        rw [show js.length + (i - as.length) - js.length = i - as.length by omega]; exact h1
      · rw [List.getElem?_append_right (by rw [lo]; omega), lo]
        rw [show js.length + (i - as.length) - js.length = i - as.length by omega]; exact h2
  · rcases g.nw a o h with z | z | z
    · exact .inl z
    · exact .inr (.inl z)
    · exact .inr (.inr (selA_mem hl z))
  · rcases List.mem_append.mp m with m | m
    · exact .inl m
    · rcases g.sub b (List.mem_append_right _ m) with z | z
      · exact .inl (selA_mem hl z)
      · exact .inr z
theorem Own.back {F H F' H' : Hp} {js : List Nat} {new : List Addr} {cnew Oc : List D} (w : Own F H as O) (n : js.Nodup) (hl : ∀ j ∈ js, j < as.length) (g : Go (selA as js) F H (selA as js ++ new) F' H')
    (hd' : Hd L F' H') (w' : Own F' H' (selA as js ++ new) (Oc ++ cnew)) (lo : Oc.length = js.length) : Own F' H' (as ++ new) (putAll O js Oc ++ cnew) ∧ Go as F H (as ++ new) F' H' := by
  obtain ⟨a, b⟩ := w.backX n hl (g.x (L := L)) hd' w' lo
  exact ⟨a, b.go⟩
abbrev KN := List Addr → D → List D → Prop
abbrev KX := List Addr → Addr → List (Str × D) → List Addr → List D → Prop
abbrev Ct := List Addr → List Addr → List D → List D → KN → KX → Prop
def spC (C : Ct) : Sp := fun vs H Q E => ∃ L F as ds O k e, Hd L F H ∧ Own F H as O ∧ Rs F vs ds ∧ C L as ds O k e ∧
  (∀ F' H' as' O' v d, Go as F H as' F' H' → Hd L F' H' → Own F' H' as' O' → R F' v d → k as' d O' → Q v H') ∧
  ∀ F' H' L' as' O' cls d fds, GoX L as F H L' as' F' H' → Hd L' F' H' → Own F' H' as' O' → XD F' H H' d fds → e L' cls fds as' O' → E (.ref cls) d H'
def χE (E : XK) (e : KX) : Xk := ⟨fun cls d _ H => E cls d H, fun L cls fds as _ O => e L cls fds as O⟩
def ρ0 (N : List Str) (ds : List D) : DSt := ds.map some ++ List.replicate (N.length - ds.length) none
theorem sl_start {F : Hp} : ∀ {vs : List V} {ds : List D}, Rs F vs ds → ∀ n, Sl F (vs.map some ++ List.replicate n none) (ds.map some ++ List.replicate n none)
  | _, _, .nil, 0 => .nil
  | _, _, .nil, n + 1 => .no (sl_start .nil n)
  | _, _, .cons r t, n => .so r (sl_start t n)
theorem sp_len {C : Ct} {n : Nat} (hC : ∀ L as ds O k e, C L as ds O k e → ds.length = n) : ∀ vs H Q E, spC C vs H Q E → vs.length = n := fun vs H Q E h => by
  obtain ⟨L, F, as, ds, O, k, e, hd, ow, r, c, _, _⟩ := h
  rw [r.length]
  exact hC _ _ _ _ _ _ c
theorem enter {C : Ct} {t : TS} {N : List Str} {vs : List V} {H : Hp} {Q : VK} {E : XK} (h : spC C vs H Q E)
    (hw : ∀ L as ds O k e, C L as ds O k e → dS (χE E e) t L as (ρ0 N ds) O { nx := fun as _ O => k as .non O, rt := k }) : t { nx := fun _ H' => Q .non H', rt := Q } (L2.start N vs) H := by
  obtain ⟨L, F, as, ds, O, k, e, hd, ow, r, c, q, x⟩ := h
  have el := r.length
  refine hw L as ds O k e c F H (L2.start N vs) ⟨hd, ow, ?_⟩ (fun F' H' L' as' σ' ρ' O' cls d fds g S n z => x F' H' L' as' O' cls d fds g S.hd S.own n z) _
    ⟨fun F' H' as' σ' ρ' O' g S z => q F' H' as' O' _ _ g S.hd S.own .non z, q, fun _ _ _ _ _ _ _ _ z => z, fun _ _ _ _ _ _ _ _ z => z⟩
  unfold L2.start ρ0
  rw [el]
  exact sl_start r _
def cc (C : Ct) (χ : Xk) (ρ : DSt) (js : List Nat) (L as : List Addr) (ds O : List D) (k : List Addr → D → List D → Prop) : Prop :=
  js.Nodup ∧ (∀ j ∈ js, j < as.length) ∧ C L (selA as js) ds (selO O js)
    (fun as' d O' => ∃ new cnew Oc, as' = selA as js ++ new ∧ O' = Oc ++ cnew ∧ Oc.length = js.length ∧ k (as ++ new) d (putAll O js Oc ++ cnew))
    fun L' cls fds as' O' => ∃ new cnew Oc, as' = selA as js ++ new ∧ O' = Oc ++ cnew ∧ Oc.length = js.length ∧ χ.e L' cls fds (as ++ new) ρ (putAll O js Oc ++ cnew)
theorem cc_sp {C : Ct} {js : List Nat} {ds : List D} {F H : Hp} {σ : L2.St} {vs : List V} {E : XK} {Q : VK} (S : Rep L as F H σ ρ O) (x : XP χ L as F H) (r : Rs F vs ds) (c : cc C χ ρ js L as ds O k) (hE : ∀ cls d H, χ.E cls d σ H → E cls d H)
    (q : ∀ F' H' as' O' v d, Go as F H as' F' H' → Rep L as' F' H' σ ρ O' → R F' v d → k as' d O' → Q v H') : spC C vs H Q E := by
  obtain ⟨n, hl, c⟩ := c
  refine ⟨L, F, _, ds, _, _, _, S.hd, S.own.sel n hl, r, c, ?_, ?_⟩
  · rintro F' H' as' O' v d g hd ow r' ⟨new, cnew, Oc, rfl, rfl, lo, z⟩
    obtain ⟨ow', g'⟩ := S.own.back n hl g hd ow lo
    exact q _ _ _ _ _ _ g' ⟨hd, ow', S.sl.mono g'.ex⟩ r' z
  · rintro F' H' L' as' O' cls d fds g hd ow nx ⟨new, cnew, Oc, rfl, rfl, lo, z⟩
    obtain ⟨ow', g'⟩ := S.own.backX n hl g hd ow lo
    exact hE _ _ _ (x _ _ _ _ _ _ _ _ _ _ g' ⟨hd, ow', S.sl.mono g'.ex⟩ nx z)
theorem d_call {C : Ct} (js : List Nat) {ta : TA} {E : XK} (h : dA χ ta L as ρ O fun as ds O => cc C X0 ρ js L as ds O k) : dE χ (tCall (spC C) [] E ta) L as ρ O k := fun F H σ S x Q q =>
  h F H σ S x _ fun F1 H1 as1 O1 vs ds g1 S1 r1 z1 => by
    rw [List.append_nil]
    exact cc_sp S1 xp0 r1 z1 (fun _ _ _ z => z.elim) fun F' H' as' O' v d g => q F' H' as' O' v d (g1.trans g)
def insOf (as : List Addr) (O : List D) (d : D) (C : Addr) (fds : List (Str × D)) : Prop :=
  d = .ins C fds ∨ ∃ (j : Nat) (a : Addr), d = .adr a ∧ as[j]? = some a ∧ O[j]? = some (D.ins C fds)
theorem Rn.lookup {F : Hp} {m : Str} : ∀ {fs : List (Str × V)} {fds : List (Str × D)}, Rn F fs fds → fds.lookup m = none → fs.lookup m = none
  | _, _, .nil, _ => rfl
  | _, _, .cons (k := k) r t, h => by
    rw [List.lookup_cons] at h ⊢
    cases e : m == k with
    | true => rw [e] at h; cases h
    | false => rw [e] at h; exact Rn.lookup t h
theorem Rn.get {F : Hp} {m : Str} {d : D} : ∀ {fs : List (Str × V)} {fds : List (Str × D)}, Rn F fs fds → fds.lookup m = some d → ∃ v, fs.lookup m = some v ∧ R F v d
  | _, _, .nil, h => by cases h
  | _, _, .cons (k := k) r t, h => by
    rw [List.lookup_cons] at h ⊢
    cases e : m == k with
    | true => rw [e] at h; cases h; exact ⟨_, rfl, r⟩
    | false => rw [e] at h; exact Rn.get t h
theorem ins_at {F H : Hp} {v : V} {C : Addr} {fds : List (Str × D)} (hd : Hd L F H) (ow : Own F H as O) (r : R F v d) (i : insOf as O d C fds) : ∃ a dx fs, v = .ref a ∧ H a = some (.ins C dx fs) ∧ Rn F fs fds := by
  rcases i with rfl | ⟨j, a, rfl, e1, e2⟩
  · cases r with
    | ins e r => exact ⟨_, _, _, rfl, hd.ins e, r⟩
  · cases r
    obtain ⟨_, o, e3, e4⟩ := ow.at_ j a _ e1 e2
    cases e4 with
    | ins r => exact ⟨_, _, _, rfl, e3, r⟩
theorem d_meth {C : Ct} {cl : Addr} {m : Str} (js : List Nat) {ta : TE} {t : TA} {E : XK}
    (h : dE χ ta L as ρ O fun as d O => (∃ fds, insOf as O d cl fds ∧ fds.lookup m = none) ∧ dA χ t L as ρ O fun as ds O => cc C X0 ρ js L as (d :: ds) O k) :
    dE χ (tMeth cl m (spC C) [] E ta t) L as ρ O k := fun F H σ S x Q q =>
  h F H σ S x _ fun F1 H1 as1 O1 v d g1 S1 r1 ⟨⟨fds, i, ln⟩, z1⟩ => by
    obtain ⟨a, dx, fs, rfl, e, rn⟩ := ins_at S1.hd S1.own r1 i
    refine ⟨a, dx, fs, rfl, e, rn.lookup ln, ?_⟩
    refine z1 F1 H1 σ S1 (x.go g1) _ fun F2 H2 as2 O2 vs ds g2 S2 r2 z2 => ?_
    rw [List.append_nil]
    exact cc_sp S2 xp0 (.cons (r1.mono g2.ex) r2) z2 (fun _ _ _ z => z.elim) fun F' H' as' O' v d g => q F' H' as' O' v d ((g1.trans g2).trans g)
theorem sel1 {j : Nat} {a : Addr} {c : D} (ha : as[j]? = some a) (ho : O[j]? = some c) : [j].Nodup ∧ (∀ i ∈ [j], i < as.length) ∧ selA as [j] = [a] ∧ selO O [j] = [c] ∧ as.getD j 0 = a := by
  have hj := (List.getElem?_eq_some_iff.mp ha).1
  refine ⟨by simp, fun i m => by simp at m; omega, ?_, ?_, ?_⟩
  · simp [List.getD_eq_getElem?_getD, ha]
  · simp [List.getD_eq_getElem?_getD, ho]
  · simp [List.getD_eq_getElem?_getD, ha]
theorem no_js : ([] : List Nat).Nodup ∧ ∀ i ∈ ([] : List Nat), i < as.length := ⟨List.nodup_nil, fun _ m => by cases m⟩
theorem ck0 {k : KN} (z : k as d O) : ∃ new cnew Oc, ([] : List Addr) = selA as [] ++ new ∧ ([] : List D) = Oc ++ cnew ∧ Oc.length = ([] : List Nat).length ∧ k (as ++ new) d (putAll O [] Oc ++ cnew) :=
  ⟨[], [], [], rfl, rfl, rfl, by simpa [putAll] using z⟩
theorem ck1 {k : KN} {j : Nat} {a : Addr} {c : D} (ha : as.getD j 0 = a) (z : k as d (O.set j c)) : ∃ new cnew Oc, [a] = selA as [j] ++ new ∧ [c] = Oc ++ cnew ∧ Oc.length = [j].length ∧ k (as ++ new) d (putAll O [j] Oc ++ cnew) :=
  ⟨[], [], [c], by simp [← ha], rfl, rfl, by simpa [putAll] using z⟩
theorem rv_ixL {ds : List D} {i : Int} (h : atI ds i = some d) (z : k as d O) : rv (rIxL KK) L as O (.lst ds) (.int i) k := fun F H x y hd ow r1 r2 Q q => by
  cases r2
  cases r1 with
  | lst e r =>
    unfold atI at h
    rw [← r.length] at h
    cases e1 : ixN _ i with
    | none => rw [e1] at h; cases h
    | some j =>
      rw [e1] at h
      obtain ⟨v, e2, r2⟩ := r.get (show _ = some d from h)
      exact ⟨_, _, i, v, rfl, rfl, SqL.of (hd.lst e), by unfold atI; rw [e1]; exact e2, q F H as O v d (.refl ..) hd ow r2 z⟩
theorem rv_ixO {ds : List D} {i : Int} {a : Addr} (j : Nat) (ha : as[j]? = some a) (hc : O[j]? = some (.lst ds)) (h : atI ds i = some d) (z : k as d O) : rv (rIxL KK) L as O (.adr a) (.int i) k := fun F H x y hd ow r1 r2 Q q => by
  cases r2
  cases r1
  obtain ⟨_, o, e, c⟩ := ow.at_ j a _ ha hc
  cases c with
  | lst r =>
    unfold atI at h
    rw [← r.length] at h
    cases e1 : ixN _ i with
    | none => rw [e1] at h; cases h
    | some j =>
      rw [e1] at h
      obtain ⟨v, e2, r2⟩ := r.get (show _ = some d from h)
      exact ⟨_, _, i, v, rfl, rfl, SqL.of e, by unfold atI; rw [e1]; exact e2, q F H as O v d (.refl ..) hd ow r2 z⟩
theorem rv_ixT {ds : List D} {i : Int} (h : atI ds i = some d) (z : k as d O) : rv (rIxT KK) L as O (.tup ds) (.int i) k := fun F H x y hd ow r1 r2 Q q => by
  cases r2
  cases r1 with
  | tup e r =>
    unfold atI at h
    rw [← r.length] at h
    cases e1 : ixN _ i with
    | none => rw [e1] at h; cases h
    | some j =>
      rw [e1] at h
      obtain ⟨v, e2, r2⟩ := r.get (show _ = some d from h)
      exact ⟨_, _, i, v, rfl, rfl, SqT.of (hd.tup e), by unfold atI; rw [e1]; exact e2, q F H as O v d (.refl ..) hd ow r2 z⟩
theorem rv_ixS {z : Str} {i : Int} {c : Nat} (hl : z.length ≤ sizeLine) (h : atI z.cps.toList i = some c) (hk : k as (.str ⟨#[c]⟩) O) : rv rIxS L as O (.str z) (.int i) k := fun F H x y hd ow r1 r2 Q q => by
  cases r1
  cases r2
  exact ⟨z, i, c, rfl, rfl, hl, h, q F H as O _ _ (.refl ..) hd ow (.str _) hk⟩
def lenD (as : List Addr) (O : List D) (d : D) (n : Nat) : Prop := match d with
  | .str z => z.length ≤ sizeLine ∧ n = z.length
  | .lst ds => n = ds.length
  | .tup ds => n = ds.length
  | .adr a => ∃ (j : Nat) (ds : List D), as[j]? = some a ∧ O[j]? = some (.lst ds) ∧ n = ds.length
  | _ => False
theorem rc_len {n : Nat} (h : lenD as O d n) (z : k as (.int n) O) : rc (fun xs H Q => ∃ x n, xs = [x] ∧ LenV KK x H n ∧ Q (.int n) H) L as O [d] k := fun F H xs hd ow r Q q => by
  cases r with
  | cons r1 r2 =>
    cases r2
    refine ⟨_, n, rfl, ?_, q F H as O _ _ (.refl ..) hd ow (.int _) z⟩
    cases r1 with
    | str x => exact h
    | lst e r => exact .inl ⟨_, SqL.of (hd.lst e), by rw [r.length]; exact h⟩
    | tup e r => exact .inr ⟨_, SqT.of (hd.tup e), by rw [r.length]; exact h⟩
    | adr a =>
      obtain ⟨j, ds, e1, e2, e3⟩ := h
      obtain ⟨_, o, e, c⟩ := ow.at_ j a _ e1 e2
      cases c with
      | lst r => exact .inl ⟨_, SqL.of e, by rw [r.length]; exact e3⟩
    | non => exact h.elim
    | bl => exact h.elim
    | int => exact h.elim
    | dk => exact h.elim
    | ins => exact h.elim
    | ldk => exact h.elim
    | zst => exact h.elim
    | zkl => exact h.elim
    | zkt => exact h.elim
    | exc => exact h.elim
    | fz => exact h.elim
theorem rc_int {i : Int} (z : k as (.int i) O) : rc (fun xs H Q => (∃ i, xs = [.int i] ∧ Q (.int i) H) ∨ ∃ b, xs = [.bl b] ∧ Q (.int (if b then 1 else 0)) H) L as O [.int i] k := fun F H xs hd ow r Q q => by
  cases r with
  | cons r1 r2 =>
    cases r2
    cases r1
    exact .inl ⟨i, rfl, q F H as O _ _ (.refl ..) hd ow (.int _) z⟩
def blsOf (as : List Addr) (O : List D) (d : D) (bs : List Bool) : Prop := d = .lst (bs.map D.bl) ∨ ∃ (j : Nat) (a : Addr), d = .adr a ∧ as[j]? = some a ∧ O[j]? = some (D.lst (bs.map D.bl))
theorem sq_of {F H : Hp} {v : V} {ds : List D} (hd : Hd L F H) (ow : Own F H as O) (r : R F v d) (h : d = .lst ds ∨ ∃ (j : Nat) (a : Addr), d = .adr a ∧ as[j]? = some a ∧ O[j]? = some (D.lst ds)) : ∃ a xs, v = .ref a ∧ H a = some (.lst xs) ∧ Rs F xs ds := by
  rcases h with rfl | ⟨j, a, rfl, e1, e2⟩
  · cases r with
    | lst e r => exact ⟨_, _, rfl, hd.lst e, r⟩
  · cases r
    obtain ⟨_, o, e3, e4⟩ := ow.at_ j a _ e1 e2
    cases e4 with
    | lst r => exact ⟨_, _, rfl, e3, r⟩
theorem rc_all {bs : List Bool} (h : blsOf as O d bs) (z : k as (.bl (bs.all id)) O) : rc (rAll KK) L as O [d] k := fun F H xs hd ow r Q q => by
  cases r with
  | cons r1 r2 =>
    cases r2
    obtain ⟨a, xs, rfl, e, r⟩ := sq_of hd ow r1 h
    rw [r.bls] at e
    exact ⟨a, bs, rfl, SqL.of e, q F H as O _ _ (.refl ..) hd ow (.bl _) z⟩
theorem w_bm {T : String} {r : V → List V → Hp → VK → Prop} {ta : TE} {t : TA} (a : Addr) (h : dE χ ta L as ρ O fun as1 d O1 => d = .adr a ∧ (∃ (j : Nat) (ds : List D), as1[j]? = some a ∧ O1[j]? = some (D.lst ds)) ∧ T = "list" ∧ dA χ t L as1 ρ O1 fun as2 ds O2 => rc (fun vs H Q => r (.ref a) vs H Q) L as2 O2 ds k) :
    dE χ (tBM KK T r ta t) L as ρ O k := fun F H σ S x Q q =>
  h F H σ S x _ fun F1 H1 as1 O1 v d g1 S1 r1 ⟨ed, ⟨j, ds, e1, e2⟩, eT, z1⟩ => by
    subst ed
    subst eT
    cases r1
    obtain ⟨_, o, e, c⟩ := S1.own.at_ j a _ e1 e2
    cases c with
    | lst rr =>
      refine ⟨.inl ⟨rfl, _, SqL.of e⟩, z1 F1 H1 σ S1 (x.go g1) _ fun F2 H2 as2 O2 vs ds g2 S2 r2 z2 => ?_⟩
      exact z2 F2 H2 vs S2.hd S2.own r2 _ fun F3 H3 as3 O3 v d g3 hd ow r3 z3 => q F3 H3 as3 O3 v d (g1.trans (g2.trans g3)) ⟨hd, ow, S2.sl.mono g3.ex⟩ r3 z3
theorem w_bm0 {T : String} {r : V → List V → Hp → VK → Prop} {ta : TE} (a : Addr) (h : dE χ ta L as ρ O fun as1 d O1 => d = .adr a ∧ (∃ (j : Nat) (ds : List D), as1[j]? = some a ∧ O1[j]? = some (D.lst ds)) ∧ T = "list" ∧ rc (fun vs H Q => r (.ref a) vs H Q) L as1 O1 [] k) :
    dE χ (tBM0 KK T r ta) L as ρ O k := fun F H σ S x Q q =>
  h F H σ S x _ fun F1 H1 as1 O1 v d g1 S1 r1 ⟨ed, ⟨j, ds, e1, e2⟩, eT, z1⟩ => by
    subst ed
    subst eT
    cases r1
    obtain ⟨_, o, e, c⟩ := S1.own.at_ j a _ e1 e2
    cases c with
    | lst rr =>
      refine ⟨.inl ⟨rfl, _, SqL.of e⟩, ?_⟩
      exact z1 F1 H1 [] S1.hd S1.own .nil _ fun F3 H3 as3 O3 v d g3 hd ow r3 z3 => q F3 H3 as3 O3 v d (g1.trans g3) ⟨hd, ow, S1.sl.mono g3.ex⟩ r3 z3
theorem Own.lst {F H : Hp} {j : Nat} {a : Addr} {ds : List D} (ow : Own F H as O) (e1 : as[j]? = some a) (e2 : O[j]? = some (.lst ds)) : ∃ xs, H a = some (.lst xs) ∧ Rs F xs ds := by
  obtain ⟨_, o, e, c⟩ := ow.at_ j a _ e1 e2
  cases c with
  | lst r => exact ⟨_, e, r⟩
theorem rc_append {a : Addr} {ds : List D} (j : Nat) (e1 : as[j]? = some a) (e2 : O[j]? = some (.lst ds)) (hl : ds.length < sizeLine) (z : k as .non (O.set j (.lst (ds ++ [d])))) : rc (fun vs H Q => rAppend (.ref a) vs H Q) L as O [d] k := fun F H xs hd ow r Q q => by
  cases r with
  | cons r1 r2 =>
    cases r2
    obtain ⟨ys, e, r⟩ := ow.lst e1 e2
    have m := List.mem_of_getElem? e1
    exact ⟨a, ys, _, rfl, rfl, e, by rw [r.length]; exact hl, q F _ as _ _ _ (go_upd m) (hd.upd (ow.free m)) (ow.put (.lst (r.snoc r1)) e1) .non z⟩
theorem rc_pop {a : Addr} {ds : List D} (j : Nat) (e1 : as[j]? = some a) (e2 : O[j]? = some (.lst ds)) (hl : ds[ds.length - 1]? = some d) (z : k as d (O.set j (.lst ds.dropLast))) : rc (fun vs H Q => rPop (.ref a) vs H Q) L as O [] k := fun F H xs hd ow r Q q => by
  cases r
  obtain ⟨ys, e, r⟩ := ow.lst e1 e2
  have m := List.mem_of_getElem? e1
  obtain ⟨v, e3, r3⟩ := r.get hl
  exact ⟨a, ys, v, rfl, rfl, e, by rw [r.length]; exact e3, q F _ as _ _ _ (go_upd m) (hd.upd (ow.free m)) (ow.put (.lst r.dropLast) e1) r3 z⟩
theorem rv_isNil {a : Addr} {ns : List Int} (j : Nat) (e1 : as[j]? = some a) (e2 : O[j]? = some (.lst (ns.map D.int))) (z : k as (.bl ns.isEmpty) O) : rv (rEqD KK) L as O (.adr a) (.lst []) k := fun F H x y hd ow r1 r2 Q q => by
  cases r1
  cases r2 with
  | lst e r =>
    cases r
    obtain ⟨ys, e3, r3⟩ := ow.lst e1 e2
    rw [r3.ints] at e3
    have dp : ∀ ns : List Int, DpAll KK H (ns.map V.int) (ns.map PyData.int) := fun ns => by
      induction ns with
      | nil => exact .nil
      | cons n r ih => exact .cons (.int n) ih
    have cl : ∀ ns : List Int, PyData.canLayAll0 (ns.map PyData.int) = true := fun ns => by
      induction ns with
      | nil => rfl
      | cons n r ih =>
        show (PyData.canLay0 (.int n) && PyData.canLayAll0 (r.map PyData.int)) = true
        rw [ih]; rfl
    have dq : ∀ ns : List Int, PyData.depthAll (ns.map PyData.int) = 0 := fun ns => by
      induction ns with
      | nil => rfl
      | cons n r ih =>
        show max 0 (PyData.depthAll (r.map PyData.int)) = 0
        rw [ih]; rfl
    refine ⟨.list (ns.map PyData.int), .list [], .lst (SqL.of e3) (dp ns), .lst (SqL.of (hd.lst e)) .nil, ?_, rfl, ?_⟩
    · show (PyData.canLayAll0 (ns.map PyData.int) && decide (PyData.depthAll (ns.map PyData.int) + 1 ≤ 64)) = true
      rw [cl, dq]; rfl
    · have : PyData.eqv (.list (ns.map PyData.int)) (.list []) = ns.isEmpty := by
        cases ns <;> rfl
      rw [this]
      exact q F H as O _ _ (.refl ..) hd ow (.bl _) z
end
end DL
namespace DL
open PySem PySem.Spec PyProof.Rows L2
section
variable {χ : Xk} {L : List Addr} {as : List Addr} {ρ : DSt} {O : List D} {k : List Addr → D → List D → Prop} {kT : List Addr → Bool → List D → Prop} {kA kI : List Addr → List D → List D → Prop} {ta tb te : TE} {tt tu : TT} {d d1 d2 : D} {KK : PySem.W.Frag}
theorem itd_at {F H1 : Hp} {J : It} {ds : List D} {xs : List V} {G : Hp → Prop} (w : Walk J xs.length G (YAt xs)) (r : Rs F xs ds) (g : ∀ F2 H2, Ex F F2 → Hd L F2 H2 → G H2) : ItD L as F H1 J ds := by
  refine ⟨G, YAt xs, by rw [← r.length]; exact w, fun F2 H2 _ gg => g F2 H2 gg.ex, fun i as H H' x F2 O hi e hd ow y => ?_⟩
  obtain ⟨rfl, hx⟩ := y
  obtain ⟨d, hd', rd⟩ := r.get' hx
  exact ⟨F2, d, hd', .refl .., hd, ow, rd.mono e⟩
theorem i_list (h : dE χ te L as ρ O fun as d O => ∃ ds, d = .lst ds ∧ kI as ds O) : dI χ (iList KK te) L as ρ O kI := fun F H σ S x Q q =>
  h F H σ S x _ fun F1 H1 as1 O1 v d g1 S1 r1 z1 => by
    obtain ⟨ds, rfl, z⟩ := z1
    cases r1 with
    | lst e r =>
      exact ⟨_, rfl, ⟨_, SqL.of (S1.hd.lst e)⟩, q F1 H1 as1 O1 _ ds g1 S1 (itd_at walk_list r fun F2 H2 ee hd => SqL.of (hd.lst (ee _ _ e))) z⟩
theorem i_tup (h : dE χ te L as ρ O fun as d O => ∃ ds, d = .tup ds ∧ kI as ds O) : dI χ (iTup KK te) L as ρ O kI := fun F H σ S x Q q =>
  h F H σ S x _ fun F1 H1 as1 O1 v d g1 S1 r1 z1 => by
    obtain ⟨ds, rfl, z⟩ := z1
    cases r1 with
    | tup e r =>
      exact ⟨_, rfl, ⟨_, SqT.of (S1.hd.tup e)⟩, q F1 H1 as1 O1 _ ds g1 S1 (itd_at walk_tup r fun F2 H2 ee hd => SqT.of (hd.tup (ee _ _ e))) z⟩
def upto (n : Nat) : List D := (List.range n).map fun i => D.int (i : Nat)
theorem upto_len (n : Nat) : (upto n).length = n := by simp [upto]
theorem upto_at {n i : Nat} {d : D} (h : (upto n)[i]? = some d) : i < n ∧ d = .int (i : Nat) := by
  have hi : i < n := by
    have := (List.getElem?_eq_some_iff.mp h).1
    rwa [upto_len] at this
  refine ⟨hi, ?_⟩
  unfold upto at h
  rw [List.getElem?_map, List.getElem?_range hi] at h
  exact (Option.some.inj h).symm
theorem i_range {ta : TA} (h : dA χ ta L as ρ O fun as ds O => ∃ j : Int, ds = [.int j] ∧ j < 2 ^ 62 ∧ -(2 ^ 62) ≤ j ∧ kI as (upto j.toNat) O) : dI χ (iRng1 ta) L as ρ O kI := fun F H σ S x Q q =>
  h F H σ S x _ fun F1 H1 as1 O1 vs ds g1 S1 r1 z1 => by
    obtain ⟨j, rfl, b1, b2, z⟩ := z1
    cases r1 with
    | cons r1 r2 =>
      cases r2
      cases r1
      refine ⟨j, rfl, b2, b1, q F1 H1 as1 O1 _ _ g1 S1 ⟨_, _, by rw [upto_len]; exact walk_range, fun _ _ _ _ _ => trivial, fun i as H H' x F2 O hi e hd ow y => ?_⟩ z⟩
      obtain ⟨rfl, rfl⟩ := y
      rw [upto_len] at hi
      refine ⟨F2, .int (i : Nat), ?_, .refl .., hd, ow, ?_⟩
      · unfold upto
        rw [List.getElem?_map, List.getElem?_range hi]
        rfl
      · show R F2 (V.int (0 + (i : Nat))) _
        rw [Int.zero_add]; exact .int _
def signs (z : Str) : List D := z.cps.toList.map fun c => D.str ⟨#[c]⟩
theorem i_str (h : dE χ te L as ρ O fun as d O => ∃ z, d = .str z ∧ kI as (signs z) O) : dI χ (iStr te) L as ρ O kI := fun F H σ S x Q q =>
  h F H σ S x _ fun F1 H1 as1 O1 v d g1 S1 r1 z1 => by
    obtain ⟨z, rfl, zz⟩ := z1
    cases r1
    refine ⟨z, rfl, q F1 H1 as1 O1 _ _ g1 S1 ⟨_, _, by simpa [signs] using walk_str (z := z), fun _ _ _ _ _ => trivial, fun i as H H' x F2 O hi e hd ow y => ?_⟩ zz⟩
    obtain ⟨rfl, c, hc, rfl⟩ := y
    refine ⟨F2, .str ⟨#[c]⟩, ?_, .refl .., hd, ow, .str _⟩
    unfold signs
    rw [List.getElem?_map, Array.getElem?_toList, hc]
    rfl
def enumD (ds : List D) : List D := ds.zipIdx.map fun p => D.tup [.int (p.2 : Nat), p.1]
theorem enum_at {ds : List D} {i : Nat} {d : D} (h : (enumD ds)[i]? = some d) : ∃ e, ds[i]? = some e ∧ d = .tup [.int (i : Nat), e] := by
  unfold enumD at h
  rw [List.getElem?_map, List.getElem?_zipIdx] at h
  cases e : ds[i]? with
  | none => rw [e] at h; cases h
  | some x => rw [e] at h; simp at h; exact ⟨x, rfl, h.symm⟩
theorem enum_len (ds : List D) : (enumD ds).length = ds.length := by simp [enumD]
theorem lay_pair {F H : Hp} {T : Addr} {x y : V} {dx dy : D} (hd : Hd L F H) (ow : Own F H as O) (hT : H T = none) (rx : R F x dx) (ry : R F y dy) :
    ∃ F3, Go as F H as F3 (upd H T (.tup [x, y])) ∧ Hd L F3 (upd H T (.tup [x, y])) ∧ Own F3 (upd H T (.tup [x, y])) as O ∧ R F3 (.ref T) (.tup [dx, dy]) := by
  have hf := hd.free hT
  have e : Ex F (upd F T (.tup [x, y])) := ex_lay hf
  exact ⟨upd F T (.tup [x, y]), go_lay hT hf, hd.lay hT, ow.lay hT hf, .tup upd_same (.cons (rx.mono e) (.cons (ry.mono e) .nil))⟩
def WG (g : TG) (vs : List Nat) : Prop := ∀ v σ H (Q Q' : L2.St → Hp → Prop), (∀ σ' H', L2.wipe σ' vs = L2.wipe σ vs → Q σ' H' → Q' σ' H') → g v σ H Q → g v σ H Q'
theorem wipe_set {σ : L2.St} {i : Nat} {x : Option V} : ∀ {vs : List Nat}, i ∈ vs → L2.wipe (σ.set i x) vs = L2.wipe σ vs
  | [], h => by cases h
  | v :: vs, h => by
    show (L2.wipe (σ.set i x) vs).set v none = (L2.wipe σ vs).set v none
    by_cases z : i ∈ vs
    · rw [wipe_set z]
    · have : i = v := by
        rcases List.mem_cons.mp h with h | h
        · exact h
        · exact absurd h z
      subst this
      apply List.ext_getElem?
      intro n
      by_cases q : i = n
      · subst q
        by_cases l : i < σ.length
        · rw [List.getElem?_set_self (by rw [wipe_length, List.length_set]; exact l), List.getElem?_set_self (by rw [wipe_length]; exact l)]
        · rw [List.getElem?_eq_none (by rw [List.length_set, wipe_length, List.length_set]; omega), List.getElem?_eq_none (by rw [List.length_set, wipe_length]; omega)]
      · rw [List.getElem?_set_ne q, List.getElem?_set_ne q]
        by_cases m : n ∈ vs
        · by_cases l : n < σ.length
          · rw [wipe_in m (by rw [List.length_set]; exact l), wipe_in m l]
          · rw [List.getElem?_eq_none (by rw [wipe_length, List.length_set]; omega), List.getElem?_eq_none (by rw [wipe_length]; omega)]
        · rw [wipe_out m, wipe_out m, List.getElem?_set_ne q]
where
  wipe_in {σ : L2.St} {n : Nat} : ∀ {vs : List Nat}, n ∈ vs → n < σ.length → (L2.wipe σ vs)[n]? = some none
    | [], h, _ => by cases h
    | v :: vs, h, l => by
      show ((L2.wipe σ vs).set v none)[n]? = some none
      by_cases q : v = n
      · subst q; rw [List.getElem?_set_self (by rw [wipe_length]; exact l)]
      · rw [List.getElem?_set_ne q]
        rcases List.mem_cons.mp h with h | h
        · exact absurd h.symm q
        · exact wipe_in h l
theorem wipe_wipe {σ : L2.St} : ∀ {us vs : List Nat}, (∀ i ∈ us, i ∈ vs) → L2.wipe (L2.wipe σ us) vs = L2.wipe σ vs
  | [], _, _ => rfl
  | u :: us, vs, h => by
    show L2.wipe ((L2.wipe σ us).set u none) vs = _
    rw [wipe_set (h u List.mem_cons_self), wipe_wipe fun i m => h i (List.mem_cons_of_mem _ m)]
theorem wg_name {i : Nat} {vs : List Nat} (h : i ∈ vs) : WG (gName i) vs := fun v σ H Q Q' m q => m _ _ (wipe_set h) q
abbrev wρ (ρ : DSt) (vs : List Nat) : DSt := vs.foldr (fun v r => r.set v none) ρ
theorem w_lcA {wi : TI} {g : TG} {vs : List Nat} (hg : WG g vs) (h : dI χ wi L as ρ O fun as1 ds O1 => ∃ acc : Nat → List D, acc 0 = [] ∧ ds.length < sizeLine ∧
    (∀ i d, ds[i]? = some d → dG X0 g d L as1 (wρ ρ vs) O1 fun as2 ρ2 O2 => as2 = as1 ∧ O2 = O1 ∧ dT X0 tt L as1 ρ2 O1 fun as3 b O3 => as3 = as1 ∧ O3 = O1 ∧
      if b = true then dE X0 te L as1 ρ2 O1 fun as4 y O4 => as4 = as1 ∧ O4 = O1 ∧ acc (i + 1) = acc i ++ [y] else acc (i + 1) = acc i) ∧
    ∀ p, k (as1 ++ [p]) (.adr p) (O1 ++ [.lst (acc ds.length)])) : dE χ (tLc wi g tt te vs) L as ρ O k := fun F H σ S x Q q =>
  h F H σ S x _ fun F1 H1 as1 O1 J ds g1 S1 ⟨G, Y, wk, hG, hY⟩ ⟨acc, a0, al, as_, ae⟩ N hN => by
    have hNf := S1.hd.free hN
    refine lc_it wk (fun i H' => ∃ F' xs, Go as1 F1 H1 as1 F' H' ∧ Hd L F' H' ∧ Own F' H' as1 O1 ∧ F' N = none ∧ H' N = some (.lst xs) ∧ Rs F' xs (acc i) ∧ (acc i).length ≤ i)
      ⟨F1, [], ?_, S1.hd.upd hNf, ?_, hNf, upd_same, by rw [a0]; exact .nil, by rw [a0]; exact Nat.le_refl _⟩ ?_ ?_ ?_
    · exact ⟨fun _ _ h => h, fun _ _ h => .inl h, fun b o e _ => by rw [upd_ne (ne_of_none e hN)]; exact e, fun b e => by
        by_cases z : b = N
        · subst z; exact hN
        · rw [upd_ne z] at e; exact e, fun _ m => .inl m⟩
    · exact S1.own.keep (fun _ _ h => h) (fun a m => S1.own.free m) fun a m o e => by rw [upd_ne (ne_of_none e hN)]; exact e
    · rintro i H' _ ⟨F', xs, g', hd', ow', f', e', r', _⟩
      exact hG F' H' as1 g' hd'
    · rintro i v H' H2 hi ⟨F', xs, g', hd', ow', f', e', r', l'⟩ hy
      obtain ⟨F3, d, hdi, g3, hd3, ow3, r3⟩ := hY i as1 H' H2 v F' O1 hi g'.ex hd' ow' hy
      have keepN : ∀ {Fa Fb : Hp} {Ha Hb : Hp} {xs : List V}, Go as1 Fa Ha as1 Fb Hb → Own Fa Ha as1 O1 → Fa N = none → Ha N = some (.lst xs) → N ∉ as1 → Fb N = none ∧ Hb N = some (.lst xs) := fun {Fa Fb Ha Hb xs} g _ f e n => by
        refine ⟨?_, g.kp _ _ e n⟩
        cases z : Fb N with
        | none => rfl
        | some u =>
          rcases g.nw N u z with z | z | z
          · rw [f] at z; cases z
          · rw [e] at z; cases z
          · exact absurd z n
      have nN : N ∉ as1 := fun m => S1.own.tr m hN
      obtain ⟨f3, e3⟩ := keepN g3 ow' f' e' nN
      have S3 : Rep L as1 F3 H2 (L2.wipe σ vs) (wρ ρ vs) O1 := ⟨hd3, ow3, (S1.sl.mono fun a o h => g3.ex _ _ (g'.ex _ _ h)).wipe vs⟩
      have step := as_ i d hdi F3 H2 (L2.wipe σ vs) v S3 xp0 r3
      refine hg v _ _ _ _ (fun σ2 H3 ew q2 => ⟨ew.trans (wipe_wipe fun _ m => m), q2⟩) (step _ fun F4 H4 as4 σ4 ρ4 O4 g4 S4 ⟨e1, e2, z4⟩ => ?_)
      subst e1
      subst e2
      obtain ⟨f4, e4⟩ := keepN g4 ow3 f3 e3 nN
      refine z4 F4 H4 σ4 S4 xp0 _ fun F5 H5 as5 O5 b b' g5 S5 rb ⟨e1, e2, z5⟩ => ?_
      cases rb
      subst e1
      subst e2
      obtain ⟨f5, e5⟩ := keepN g5 S4.own f4 e4 nN
      have gg := g'.trans (g3.trans (g4.trans g5))
      have r5 := r'.mono fun a o h => g5.ex _ _ (g4.ex _ _ (g3.ex _ _ h))
      cases b with
      | false =>
        simp only [Bool.false_eq_true, if_false] at z5 ⊢
        exact ⟨F5, xs, gg, S5.hd, S5.own, f5, e5, by rw [z5]; exact r5, by rw [z5]; omega⟩
      | true =>
        simp only [if_true] at z5 ⊢
        refine z5 F5 H5 σ4 S5 xp0 _ fun F6 H6 as6 O6 y dy g6 S6 r6 ⟨e1, e2, z6⟩ => ?_
        subst e1
        subst e2
        obtain ⟨f6, e6⟩ := keepN g6 S5.own f5 e5 nN
        refine ⟨xs, e6, by rw [r'.length]; omega, F6, _, ?_, S6.hd.upd f6, ?_, f6, upd_same, ?_, ?_⟩
        · refine ⟨(gg.trans g6).ex, (gg.trans g6).nw, fun b o e n => ?_, fun b e => ?_, (gg.trans g6).sub⟩
          · have h6 := (gg.trans g6).kp b o e n
            rw [upd_ne (ne_of_none e hN)]
            exact h6
          · by_cases z : b = N
            · subst z; exact hN
            · rw [upd_ne z] at e; exact (gg.trans g6).th b e
        · exact S6.own.keep (fun _ _ h => h) (fun a m => S6.own.free m) fun a m o e => by
            have : a ≠ N := fun z => nN (z ▸ m)
            rw [upd_ne this]; exact e
        · rw [z6]
          exact (r5.mono g6.ex).snoc r6
        · rw [z6, List.length_append]
          show (acc i).length + 1 ≤ i + 1
          omega
    · rintro H' ⟨F', xs, g', hd', ow', f', e', r', l'⟩
      refine q F' H' (as1 ++ [N]) (O1 ++ [.lst (acc ds.length)]) _ _ ?_ ⟨hd', ?_, S1.sl.mono g'.ex⟩ (.adr N) (ae N)
      · have gg := g1.trans g'
        exact ⟨gg.ex, gg.nw, gg.kp, gg.th, fun b m => by
          rcases List.mem_append.mp m with m | m
          · exact gg.sub b m
          · simp at m; subst m; exact .inr (g1.th _ hN)⟩
      · have nN : N ∉ as1 := fun m => S1.own.tr m hN
        refine ⟨?_, by simp [ow'.len], fun i b d' h1 h2 => ?_⟩
        · rw [List.nodup_append]
          refine ⟨ow'.nd, by simp, fun a m b m' z => ?_⟩
          simp at m'
          subst m'; subst z
          exact nN m
        · rcases Nat.lt_trichotomy i as1.length with z | z | z
          · rw [List.getElem?_append_left z] at h1
            rw [List.getElem?_append_left (ow'.len ▸ z)] at h2
            exact ow'.at_ i b d' h1 h2
          · rw [List.getElem?_append_right (Nat.le_of_eq z.symm)] at h1
            rw [List.getElem?_append_right (by rw [← ow'.len]; exact Nat.le_of_eq z.symm), ← ow'.len] at h2
            rw [z] at h1 h2
            simp at h1 h2
            subst h1; subst h2
            exact ⟨f', _, e', .lst r'⟩
          · rw [List.getElem?_eq_none (by simp; omega)] at h1
            cases h1
theorem w_lc {α : Type} {wi : TI} {g : TG} {vs : List Nat} (hg : WG g vs) (h : dI χ wi L as ρ O fun as1 ds O1 => ∃ (xs : List α) (em : α → D) (p : α → Bool) (f : α → D), ds = xs.map em ∧ xs.length < sizeLine ∧
    (∀ x ∈ xs, dG X0 g (em x) L as1 (wρ ρ vs) O1 fun as2 ρ2 O2 => as2 = as1 ∧ O2 = O1 ∧ dT X0 tt L as1 ρ2 O1 fun as3 b O3 => as3 = as1 ∧ O3 = O1 ∧ b = p x ∧
      (p x = true → dE X0 te L as1 ρ2 O1 fun as4 y O4 => as4 = as1 ∧ O4 = O1 ∧ y = f x)) ∧
    ∀ q, k (as1 ++ [q]) (.adr q) (O1 ++ [.lst ((xs.filter p).map f)])) : dE χ (tLc wi g tt te vs) L as ρ O k := by
  refine w_lcA hg fun F H σ S x Q q => h F H σ S x Q fun F1 H1 as1 O1 J ds g1 S1 it ⟨xs, em, p, f, e, hl, st, fin⟩ => q F1 H1 as1 O1 J ds g1 S1 it ⟨fun i => ((xs.take i).filter p).map f, rfl, by rw [e, List.length_map]; exact hl, fun i d hd => ?_, fun q => ?_⟩
  · rw [e, List.getElem?_map] at hd
    cases ex : xs[i]? with
    | none => rw [ex] at hd; cases hd
    | some a =>
      rw [ex] at hd
      cases hd
      have hm := List.mem_of_getElem? ex
      have et : xs.take (i + 1) = xs.take i ++ [a] := by rw [List.take_add_one, ex]; rfl
      intro F H σ v S x r Q q
      refine st a hm F H σ v S x r Q fun F' H' as' σ' ρ' O' g S' ⟨e1, e2, z⟩ => q F' H' as' σ' ρ' O' g S' ⟨e1, e2, z.imp fun a3 b O3 ⟨e3, e4, eb, z'⟩ => ⟨e3, e4, ?_⟩⟩
      subst eb
      cases hp : p a with
      | true =>
        simp only [if_true]
        refine (z' hp).imp fun a4 y O4 ⟨e5, e6, ey⟩ => ⟨e5, e6, ?_⟩
        subst ey
        rw [et, List.filter_append, List.map_append]
        simp [hp]
      | false =>
        simp only [Bool.false_eq_true, if_false]
        rw [et, List.filter_append, List.map_append]
        simp [hp]
  · have := fin q
    rw [e, List.length_map]
    show k _ _ (O1 ++ [.lst (((xs.take xs.length).filter p).map f)])
    rw [List.take_length]
    exact this
end
end DL
namespace DL
open PySem PySem.Spec PyProof.Rows L2
section
variable {χ : Xk} {L as : List Addr} {ρ : DSt} {O : List D} {k : List Addr → D → List D → Prop} {kT : List Addr → Bool → List D → Prop} {kA kI : List Addr → List D → List D → Prop} {ta tb te : TE} {tt tu : TT} {d d1 d2 : D} {KK : PySem.W.Frag}
theorem w_known (h : dE χ te L as ρ O fun as' d' O' => ∃ p as0 c O0, as' = as0 ++ [p] ∧ d' = .adr p ∧ O' = O0 ++ [c] ∧ k as0 c O0) : dE χ te L as ρ O k := fun F H σ S x Q q =>
  h F H σ S x _ fun F1 H1 as1 O1 v d1 g1 S1 r1 ⟨p, as0, c, O0, e1, e2, e3, z⟩ => by
    subst e1
    subst e2
    subst e3
    cases r1
    have l0 : as0.length = O0.length := by
      have := S1.own.len
      simp at this
      exact this
    have ha : (as0 ++ [p])[as0.length]? = some p := by simp
    have hc : (O0 ++ [c])[as0.length]? = some c := by rw [l0]; simp
    obtain ⟨hf, o, ho, cn⟩ := S1.own.at_ _ _ _ ha hc
    have S2 := S1.frz ha hc hf ho cn
    have g2 : Go (as0 ++ [p]) F1 H1 ((as0 ++ [p]).eraseIdx as0.length) (upd F1 p o) H1 := go_frz hf ha
    have ea : (as0 ++ [p]).eraseIdx as0.length = as0 := by
      rw [List.eraseIdx_append_of_length_le (Nat.le_refl _)]
      simp
    have eo : (O0 ++ [c]).eraseIdx as0.length = O0 := by
      rw [l0, List.eraseIdx_append_of_length_le (Nat.le_refl _)]
      simp
    rw [ea, eo] at S2
    rw [ea] at g2
    exact q _ _ _ _ _ _ (g1.trans g2) S2 (.of upd_same (cn.mono (ex_lay hf))) z
theorem go_let {as as1 : List Addr} {F H F1 H1 : Hp} (g : Go as F H as1 F1 H1) (j : Nat) : Go as F H (as1.eraseIdx j) F1 H1 :=
  ⟨g.ex, g.nw, g.kp, g.th, fun b m => g.sub b (List.mem_of_mem_eraseIdx m)⟩
theorem w_let (j : Nat) (h : dE χ te L as ρ O fun as' d' O' => k (as'.eraseIdx j) d' (O'.eraseIdx j)) : dE χ te L as ρ O k := fun F H σ S x Q q =>
  h F H σ S x _ fun F1 H1 as1 O1 v d1 g1 S1 r1 z => q _ _ _ _ _ _ (go_let g1 j) ⟨S1.hd, S1.own.drop j, S1.sl⟩ r1 z
theorem s_let {ts : TS} {K : Kt} (j : Nat) (h : dS χ ts L (as.eraseIdx j) ρ (O.eraseIdx j) K) : dS χ ts L as ρ O K := fun F H σ S x Z z =>
  have g : Go as F H (as.eraseIdx j) F H := go_let (.refl ..) j
  h F H σ ⟨S.hd, S.own.drop j, S.sl⟩ (x.go g) Z (z.go g)
def lstOf (as : List Addr) (O : List D) (d : D) (ds : List D) : Prop := d = .lst ds ∨ ∃ (j : Nat) (a : Addr), d = .adr a ∧ as[j]? = some a ∧ O[j]? = some (D.lst ds)
theorem lo_f {ds : List D} : lstOf as O (.lst ds) ds := .inl rfl
theorem lo_o {ds : List D} {a : Addr} (j : Nat) (h1 : as[j]? = some a) (h2 : O[j]? = some (D.lst ds)) : lstOf as O (.adr a) ds := .inr ⟨j, a, rfl, h1, h2⟩
def lstR (as : List Addr) (O : List D) (K : PySem.W.Frag) (d : D) (ds : List D) : Prop := lstOf as O d ds ∨ d = .zst ds ∨ d = .zkl K ds
theorem lstR.more {K : PySem.W.Frag} {ds : List D} (h : lstR [] [] K d ds) : lstR as O K d ds := by
  rcases h with (h | ⟨j, a, _, h, _⟩) | h
  · exact .inl (.inl h)
  · simp at h
  · exact .inr h
theorem lr_at {F H : Hp} {v : V} {ds : List D} (hd : Hd L F H) (ow : Own F H as O) (r : R F v d) (h : lstR as O KK d ds) : ∃ a xs, v = .ref a ∧ SqL KK H a xs ∧ Rs F xs ds := by
  rcases h with h | rfl | rfl
  · obtain ⟨a, xs, e1, e2, e3⟩ := sq_of hd ow r h
    exact ⟨a, xs, e1, SqL.of e2, e3⟩
  · cases r with
    | zst e r => exact ⟨_, _, rfl, .inl (hd.zst e), r⟩
  · cases r with
    | zkl e r => exact ⟨_, _, rfl, e H, r⟩
abbrev dO (χ : Xk) (t : TO) (L as : List Addr) (ρ : DSt) (O : List D) (k : List Addr → Option Int → List D → Prop) : Prop := dW (fun _ (a b : Option Int) => a = b) χ t L as ρ O k
theorem o_none {kO : List Addr → Option Int → List D → Prop} (z : kO as none O) : dO χ tNoPart L as ρ O kO := fun F H σ S x Q q => q F H as O none none (.refl ..) S rfl z
theorem o_some {kO : List Addr → Option Int → List D → Prop} (h : dE χ te L as ρ O fun as d O => ∃ i, d = .int i ∧ kO as (some i) O) : dO χ (tPart te) L as ρ O kO := fun F H σ S x Q q =>
  h F H σ S x _ fun F1 H1 as1 O1 v d g1 S1 r1 ⟨i, e, z⟩ => by
    subst e
    cases r1
    exact ⟨i, rfl, q F1 H1 as1 O1 _ _ g1 S1 rfl z⟩
def rs (r : V → Option Int → Option Int → Hp → VK → Prop) (L as : List Addr) (O : List D) (d1 : D) (lo hi : Option Int) (k : List Addr → D → List D → Prop) : Prop :=
  ∀ F H x, Hd L F H → Own F H as O → R F x d1 → ∀ Q : VK, (∀ F' H' as' O' v d, Go as F H as' F' H' → Hd L F' H' → Own F' H' as' O' → R F' v d → k as' d O' → Q v H') → r x lo hi H Q
theorem w_sl {r : V → Option Int → Option Int → Hp → VK → Prop} {tl th : TO} (h : dE χ te L as ρ O fun as d O => dO χ tl L as ρ O fun as lo O => dO χ th L as ρ O fun as hi O => rs r L as O d lo hi k) : dE χ (tSl r te tl th) L as ρ O k := fun F H σ S x Q q =>
  h F H σ S x _ fun F1 H1 as1 O1 v d g1 S1 r1 z1 => z1 F1 H1 σ S1 (x.go g1) _ fun F2 H2 as2 O2 lo lo' g2 S2 e2 z2 => by
    subst e2
    refine z2 F2 H2 σ S2 (x.go (g1.trans g2)) _ fun F3 H3 as3 O3 hi hi' g3 S3 e3 z3 => ?_
    subst e3
    refine z3 F3 H3 v S3.hd S3.own ((r1.mono g2.ex).mono g3.ex) _ fun F4 H4 as4 O4 v d g4 hd ow r4 z4 => ?_
    exact q F4 H4 as4 O4 v d (g1.trans (g2.trans (g3.trans g4))) ⟨hd, ow, S3.sl.mono g4.ex⟩ r4 z4
def cutD (ds : List D) (lo hi : Option Int) : List D := (ds.drop (HT.sIx ds.length 0 lo)).take (HT.sIx ds.length ds.length hi - HT.sIx ds.length 0 lo)
theorem Rs.cut {F : Hp} {xs : List V} {ds : List D} (r : Rs F xs ds) (lo hi : Option Int) : Rs F (cutV xs lo hi) (cutD ds lo hi) := by
  unfold cutV cutD
  rw [r.length]
  exact (r.drop _).take _
theorem new_lst {F H : Hp} {xs : List V} {ds : List D} {Q : VK} (hd : Hd L F H) (ow : Own F H as O) (r : Rs F xs ds) (z : ∀ p, k (as ++ [p]) (.adr p) (O ++ [.lst ds]))
    (q : ∀ F' H' as' O' v d, Go as F H as' F' H' → Hd L F' H' → Own F' H' as' O' → R F' v d → k as' d O' → Q v H') (p : Addr) (hp : H p = none) : Q (.ref p) (upd H p (.lst xs)) :=
  q F _ _ _ _ _ (go_new hp) (hd.upd (hd.free hp)) (ow.snoc (hd.free hp) hp (.lst r)) (.adr p) (z p)
theorem new_tup {F H : Hp} {xs : List V} {ds : List D} {Q : VK} (hd : Hd L F H) (ow : Own F H as O) (r : Rs F xs ds) (z : k as (.tup ds) O)
    (q : ∀ F' H' as' O' v d, Go as F H as' F' H' → Hd L F' H' → Own F' H' as' O' → R F' v d → k as' d O' → Q v H') (p : Addr) (hp : H p = none) : Q (.ref p) (upd H p (.tup xs)) :=
  q _ _ _ _ _ _ (go_lay hp (hd.free hp)) (hd.lay hp) (ow.lay hp (hd.free hp)) (.tup upd_same (r.mono (ex_lay (hd.free hp)))) z
theorem rs_list {ds : List D} {lo hi : Option Int} (h : lstR as O KK d ds) (z : ∀ p, k (as ++ [p]) (.adr p) (O ++ [.lst (cutD ds lo hi)])) : rs (rSlL KK) L as O d lo hi k := fun F H v hd ow r Q q => by
  obtain ⟨a, xs, rfl, s, r'⟩ := lr_at hd ow r h
  exact ⟨a, xs, rfl, s, new_lst hd ow (r'.cut lo hi) z q⟩
theorem w_rev (h : dE χ te L as ρ O fun as d O => ∃ ds, lstR as O KK d ds ∧ ∀ p, k (as ++ [p]) (.adr p) (O ++ [.lst ds.reverse])) : dE χ (tRevL KK te) L as ρ O k := fun F H σ S x Q q =>
  h F H σ S x _ fun F1 H1 as1 O1 v d g1 S1 r1 ⟨ds, hl, z⟩ => by
    obtain ⟨a, xs, rfl, s, r'⟩ := lr_at S1.hd S1.own r1 hl
    exact ⟨a, xs, rfl, s, new_lst S1.hd S1.own r'.reverse z fun F' H' as' O' v d g hd ow r z => q F' H' as' O' v d (g1.trans g) ⟨hd, ow, S1.sl.mono g.ex⟩ r z⟩
theorem rv_cat {ds es : List D} (h1 : lstOf as O d1 ds) (h2 : lstOf as O d2 es) (hl : ds.length + es.length ≤ sizeLine) (z : ∀ p, k (as ++ [p]) (.adr p) (O ++ [.lst (ds ++ es)])) : rv rCat L as O d1 d2 k := fun F H x y hd ow r1 r2 Q q => by
  obtain ⟨a, xs, rfl, e1, q1⟩ := sq_of hd ow r1 h1
  obtain ⟨b, ys, rfl, e2, q2⟩ := sq_of hd ow r2 h2
  exact ⟨a, b, xs, ys, rfl, rfl, e1, e2, by rw [q1.length, q2.length]; exact hl, new_lst hd ow (q2.append q1) z q⟩
theorem rc_listL {ds : List D} (h : lstR as O KK d ds) (z : ∀ p, k (as ++ [p]) (.adr p) (O ++ [.lst ds])) : rc (fun xs H Q => ∃ p ys, xs = [V.ref p] ∧ (SqL KK H p ys ∨ SqT KK H p ys) ∧ ∀ l, H l = none → Q (.ref l) (upd H l (.lst ys))) L as O [d] k := fun F H xs hd ow r Q q => by
  cases r with
  | cons r1 r2 =>
    cases r2
    obtain ⟨a, xs, rfl, s, r'⟩ := lr_at hd ow r1 h
    exact ⟨a, xs, rfl, .inl s, new_lst hd ow r' z q⟩
theorem rc_tupL {ds : List D} (h : lstR as O KK d ds) (z : k as (.tup ds) O) : rc (fun xs H Q => ∃ p ys, xs = [V.ref p] ∧ ((SqL KK H p ys ∧ ∀ l, H l = none → Q (.ref l) (upd H l (.tup ys))) ∨ (SqT KK H p ys ∧ Q (.ref p) H))) L as O [d] k := fun F H xs hd ow r Q q => by
  cases r with
  | cons r1 r2 =>
    cases r2
    obtain ⟨a, xs, rfl, s, r'⟩ := lr_at hd ow r1 h
    exact ⟨a, xs, rfl, .inl ⟨s, new_tup hd ow r' z q⟩⟩
theorem rc_tupT {ds : List D} (z : k as (.tup ds) O) : rc (fun xs H Q => ∃ p ys, xs = [V.ref p] ∧ ((SqL KK H p ys ∧ ∀ l, H l = none → Q (.ref l) (upd H l (.tup ys))) ∨ (SqT KK H p ys ∧ Q (.ref p) H))) L as O [.tup ds] k := fun F H xs hd ow r Q q => by
  cases r with
  | cons r1 r2 =>
    cases r2
    cases r1 with
    | tup e r' => exact ⟨_, _, rfl, .inr ⟨SqT.of (hd.tup e), q F H as O _ _ (.refl ..) hd ow (.tup e r') z⟩⟩
theorem rc_extend {a : Addr} {ds es : List D} (j : Nat) (e1 : as[j]? = some a) (e2 : O[j]? = some (.lst ds)) (h : lstOf as O d es) (hl : ds.length + es.length ≤ sizeLine) (z : k as .non (O.set j (.lst (ds ++ es)))) : rc (fun vs H Q => rExtend (.ref a) vs H Q) L as O [d] k := fun F H xs hd ow r Q q => by
  cases r with
  | cons r1 r2 =>
    cases r2
    obtain ⟨ys, e, r⟩ := ow.lst e1 e2
    obtain ⟨b, zs, rfl, eb, rb⟩ := sq_of hd ow r1 h
    have m := List.mem_of_getElem? e1
    exact ⟨a, b, ys, zs, rfl, rfl, e, eb, by rw [r.length, rb.length]; exact hl, q F _ as _ _ _ (go_upd m) (hd.upd (ow.free m)) (ow.put (.lst (rb.append r)) e1) .non z⟩
theorem cut_mem {ds : List D} {lo hi : Option Int} {i : Nat} (h : (cutD ds lo hi)[i]? = some d) : d ∈ ds :=
  List.mem_of_mem_drop (List.mem_of_mem_take (List.mem_of_getElem? h))
theorem cut_len (ds : List D) (lo hi : Option Int) : (cutD ds lo hi).length ≤ ds.length := by
  unfold cutD
  rw [List.length_take, List.length_drop]
  omega
theorem rv_addS {i j : Str} (hl : i.length + j.length ≤ sizeLine) (z : k as (.str (i ++ j)) O) : rv (fun x y H Q => ∃ i j, x = V.str i ∧ y = V.str j ∧ i.length + j.length ≤ sizeLine ∧ Q (.str (i ++ j)) H) L as O (.str i) (.str j) k := fun F H x y hd ow r1 r2 Q q => by
  cases r1
  cases r2
  exact ⟨i, j, rfl, rfl, hl, q F H as O _ _ (.refl ..) hd ow (.str _) z⟩
theorem rv_inS {c : Nat} {y : Str} (z : k as (.bl (decide (c ∈ y.cps.toList))) O) : rv (fun x y H Q => ∃ (c : Nat) (z : Str), x = V.str ⟨#[c]⟩ ∧ y = .str z ∧ Q (.bl (decide (c ∈ z.cps.toList))) H) L as O (.str ⟨#[c]⟩) (.str y) k := fun F H x y hd ow r1 r2 Q q => by
  cases r1
  cases r2
  exact ⟨c, _, rfl, rfl, q F H as O _ _ (.refl ..) hd ow (.bl _) z⟩
theorem rv_ninS {c : Nat} {y : Str} (z : k as (.bl (!decide (c ∈ y.cps.toList))) O) : rv (fun x y H Q => ∃ (c : Nat) (z : Str), x = V.str ⟨#[c]⟩ ∧ y = .str z ∧ Q (.bl (!decide (c ∈ z.cps.toList))) H) L as O (.str ⟨#[c]⟩) (.str y) k := fun F H x y hd ow r1 r2 Q q => by
  cases r1
  cases r2
  exact ⟨c, _, rfl, rfl, q F H as O _ _ (.refl ..) hd ow (.bl _) z⟩
theorem inV_strs {x : Str} : ∀ {zs : List Str}, inV (.str x) (zs.map V.str) = decide (x ∈ zs)
  | [] => by simp [inV]
  | y :: zs => by
    have ih := inV_strs (x := x) (zs := zs)
    unfold inV at ih ⊢
    rw [List.map_cons, List.any_cons, ih]
    show ((y == x) || decide (x ∈ zs)) = decide (x ∈ y :: zs)
    by_cases e : x = y
    · subst e; simp
    · have : (y == x) = false := by simp; exact fun z => e z.symm
      rw [this]; simp [e]
theorem flat_strs : ∀ zs : List Str, (zs.map V.str).all flatV = true
  | [] => rfl
  | _ :: zs => flat_strs zs
theorem rv_inL {x : Str} {zs : List Str} {neg : Bool} (h : lstR as O KK d2 (zs.map D.str)) (z : k as (.bl (if neg then !decide (x ∈ zs) else decide (x ∈ zs))) O) : rv (rIn KK neg) L as O (.str x) d2 k := fun F H u y hd ow r1 r2 Q q => by
  cases r1
  obtain ⟨a, xs, rfl, s, r'⟩ := lr_at hd ow r2 h
  have ex := r'.strs
  subst ex
  refine ⟨a, _, rfl, .inl s, rfl, flat_strs zs, ?_⟩
  rw [inV_strs]
  exact q F H as O _ _ (.refl ..) hd ow (.bl _) z
def tyD : D → Option String
  | .non => some "NoneType" | .bl _ => some "bool" | .int _ => some "int" | .str _ => some "str"
  | .tup _ => some "tuple" | .lst _ => some "list" | _ => none
theorem ty_of {F H : Hp} {v : V} {a : String} (hd : Hd L F H) (r : R F v d) (h : tyD d = some a) : TyX KK H v (.type a) := by
  cases r with
  | non => cases h; exact .base .non
  | bl b => cases h; exact .base (.bl b)
  | int i => cases h; exact .base (.int i)
  | str x => cases h; exact .base (.str x)
  | tup e r => cases h; exact .base (.tup (hd.tup e))
  | lst e r => cases h; exact .base (.lst (hd.lst e))
  | adr a => cases h
  | dk e r => cases h
  | ins e r => cases h
  | ldk e r => cases h
  | zst e r => cases h
  | zkl e r => cases h
  | zkt e r => cases h
  | exc e r => cases h
  | fz e r => cases h
theorem w_ty {n : String} {tr : TA} {kA : List Addr → List D → List D → Prop} {b : Bool} {t : String} (hd : tyD d = some t) (hb : kitB t n = some b) (z : k as (.bl b) O) (h : dE χ te L as ρ O fun as' d' O' => d' = d ∧ as' = as ∧ O' = O) :
    dE χ (tCB (rIsi KK) (tCons te (tCons (tC (.ty n)) tNil))) L as ρ O k := fun F H σ S x Q q =>
  h F H σ S x _ fun F1 H1 as1 O1 v d' g1 S1 r1 ⟨e1, e2, e3⟩ => by
    subst e1
    subst e2
    subst e3
    exact ⟨v, .ty n, .type t, .type n, b, rfl, .ty n, ty_of S1.hd r1 hd, kit_ty hb, q F1 H1 _ _ _ _ g1 S1 (.bl b) z⟩
theorem s_append {K : Kt} {i : Nat} {a : Addr} {ds0 : List D} (j : Nat) (hv : ρ[i]? = some (some (.adr a))) (ha : as[j]? = some a) (ho : O[j]? = some (.lst ds0))
    (h : dE χ te L as ρ O fun as d O => ∃ ds, as[j]? = some a ∧ O[j]? = some (.lst ds) ∧ ds.length < sizeLine ∧ K.nx as ρ (O.set j (.lst (ds ++ [d])))) : dS χ (tDrop (tBM KK "list" rAppend (tVar i) (tCons te tNil))) L as ρ O K :=
  s_drop (w_bm a (w_var hv ⟨rfl, ⟨j, _, ha, ho⟩, rfl, w_cons (h.imp fun as d O ⟨ds, e1, e2, hl, z⟩ => w_nil (rc_append j e1 e2 hl z))⟩))
theorem b_dec {c : Prop} [Decidable c] {A B : Prop} (h1 : c → A) (h2 : ¬ c → B) : ∃ b, D.bl (decide c) = .bl b ∧ if b = true then A else B := by
  refine ⟨_, rfl, ?_⟩
  by_cases h : c
  · rw [decide_eq_true h]; exact h1 h
  · rw [decide_eq_false h]; exact h2 h
theorem i_bl {x : Bool} {A B : Prop} (h1 : x = true → A) (h2 : x = false → B) : if x = true then A else B := by
  cases x with
  | true => exact h1 rfl
  | false => exact h2 rfl
theorem i_dec {c : Prop} [Decidable c] {A B : Prop} (h1 : c → A) (h2 : ¬ c → B) : if decide c = true then A else B := by
  by_cases h : c
  · rw [decide_eq_true h]; exact h1 h
  · rw [decide_eq_false h]; exact h2 h
theorem small {n : Nat} (h : n ≤ 100000) : n ≤ sizeLine := Nat.le_trans h (by decide)
theorem smallt {n : Nat} (h : n < 100000) : n < sizeLine := Nat.lt_of_lt_of_le h (by decide)
end
end DL
namespace DL
open PySem PySem.Spec PyProof.Rows L2
mutual
inductive Cz : D → Prop
  | non : Cz .non
  | bl (b : Bool) : Cz (.bl b)
  | int (i : Int) : Cz (.int i)
  | str (x : Str) : Cz (.str x)
  | adr (a : Addr) : Cz (.adr a)
  | tup {ds : List D} : Czs ds → Cz (.tup ds)
  | lst {ds : List D} : Czs ds → Cz (.lst ds)
  | dk {kds : List (Key × D)} : Czk kds → Cz (.dk kds)
  | ins {C : Addr} {fds : List (Str × D)} : Czn fds → Cz (.ins C fds)
  | ldk {a : Addr} {kds : List (Key × D)} : Czk kds → Cz (.ldk a kds)
inductive Czs : List D → Prop
  | nil : Czs []
  | cons {d : D} {ds : List D} : Cz d → Czs ds → Czs (d :: ds)
inductive Czk : List (Key × D) → Prop
  | nil : Czk []
  | cons {k : Key} {d : D} {ds : List (Key × D)} : Cz d → Czk ds → Czk ((k, d) :: ds)
inductive Czn : List (Str × D) → Prop
  | nil : Czn []
  | cons {k : Str} {d : D} {ds : List (Str × D)} : Cz d → Czn ds → Czn ((k, d) :: ds)
end
theorem czs_of : ∀ {ds : List D}, (∀ d ∈ ds, Cz d) → Czs ds
  | [], _ => .nil
  | _ :: _, h => .cons (h _ List.mem_cons_self) (czs_of fun d m => h d (List.mem_cons_of_mem _ m))
def cutF (F : Hp) (a : Addr) : Hp := fun b => if b = a then none else F b
theorem cutF_ne {F : Hp} {a b : Addr} (h : b ≠ a) : cutF F a b = F b := if_neg h
theorem cutF_same {F : Hp} {a : Addr} : cutF F a a = none := if_pos rfl
theorem cutF_at {F : Hp} {a b : Addr} {o u : HO} (fa : F a = some o) (e : F b = some u) (n : u ≠ o) : cutF F a b = some u := by
  rw [cutF_ne (show b ≠ a from fun z => by subst z; rw [fa] at e; exact n (Option.some.inj e).symm)]
  exact e
theorem Cz.tupI {ds : List D} (c : Cz (.tup ds)) : Czs ds := by cases c; assumption
theorem Cz.lstI {ds : List D} (c : Cz (.lst ds)) : Czs ds := by cases c; assumption
theorem Cz.dkI {ds : List (Key × D)} (c : Cz (.dk ds)) : Czk ds := by cases c; assumption
theorem Cz.ldkI {a : Addr} {ds : List (Key × D)} (c : Cz (.ldk a ds)) : Czk ds := by cases c; assumption
theorem Cz.insI {C : Addr} {ds : List (Str × D)} (c : Cz (.ins C ds)) : Czn ds := by cases c; assumption
theorem Czs.hd {d : D} {ds : List D} (c : Czs (d :: ds)) : Cz d := by cases c; assumption
theorem Czs.tl {d : D} {ds : List D} (c : Czs (d :: ds)) : Czs ds := by cases c; assumption
theorem Czk.hd {k : Key} {d : D} {ds : List (Key × D)} (c : Czk ((k, d) :: ds)) : Cz d := by cases c; assumption
theorem Czk.tl {k : Key} {d : D} {ds : List (Key × D)} (c : Czk ((k, d) :: ds)) : Czk ds := by cases c; assumption
theorem Czn.hd {k : Str} {d : D} {ds : List (Str × D)} (c : Czn ((k, d) :: ds)) : Cz d := by cases c; assumption
theorem Czn.tl {k : Str} {d : D} {ds : List (Str × D)} (c : Czn ((k, d) :: ds)) : Czn ds := by cases c; assumption
theorem Cz.noZ {ds : List D} (c : Cz (.zst ds)) : False := by cases c
theorem Cz.noZl {K : PySem.W.Frag} {ds : List D} (c : Cz (.zkl K ds)) : False := by cases c
theorem Cz.noE {a C dd : Addr} {fds : List (Str × D)} (c : Cz (.exc a C dd fds)) : False := by cases c
theorem Cz.noF {o : HO} {ds : List (Key × D)} (c : Cz (.fz o ds)) : False := by cases c
theorem Cz.noZt {K : PySem.W.Frag} {ds : List D} (c : Cz (.zkt K ds)) : False := by cases c
section
variable {F : Hp} {a : Addr} {ob : Obj} {xs0 : List V} (fa : F a = some (.frz ob (.lst xs0)))
include fa
mutual
theorem R.cut : ∀ {v : V} {d : D}, R F v d → Cz d → R (cutF F a) v d
  | _, _, .non, _ => .non
  | _, _, .bl b, _ => .bl b
  | _, _, .int i, _ => .int i
  | _, _, .str x, _ => .str x
  | _, _, .adr a, _ => .adr a
  | _, _, .tup h r, c => .tup (cutF_at fa h (fun z => nomatch z)) (Rs.cut' r c.tupI)
  | _, _, .lst h r, c => .lst (cutF_at fa h (fun z => nomatch z)) (Rs.cut' r c.lstI)
  | _, _, .dk h r, c => .dk (cutF_at fa h (fun z => nomatch z)) (Rk.cut r c.dkI)
  | _, _, .ins h r, c => .ins (cutF_at fa h (fun z => nomatch z)) (Rn.cut r c.insI)
  | _, _, .ldk h r, c => .ldk (cutF_at fa h (fun z => nomatch z)) (Rk.cut r c.ldkI)
  | _, _, .zst _ _, c => c.noZ.elim
  | _, _, .zkl _ _, c => c.noZl.elim
  | _, _, .zkt _ _, c => c.noZt.elim
  | _, _, .exc _ _, c => c.noE.elim
  | _, _, .fz _ _, c => c.noF.elim
theorem Rs.cut' : ∀ {v : List V} {d : List D}, Rs F v d → Czs d → Rs (cutF F a) v d
  | _, _, .nil, _ => .nil
  | _, _, .cons r t, c => .cons (R.cut r c.hd) (Rs.cut' t c.tl)
theorem Rk.cut : ∀ {v : List (Key × V)} {d : List (Key × D)}, Rk F v d → Czk d → Rk (cutF F a) v d
  | _, _, .nil, _ => .nil
  | _, _, .cons r t, c => .cons (R.cut r c.hd) (Rk.cut t c.tl)
theorem Rn.cut : ∀ {v : List (Str × V)} {d : List (Str × D)}, Rn F v d → Czn d → Rn (cutF F a) v d
  | _, _, .nil, _ => .nil
  | _, _, .cons r t, c => .cons (R.cut r c.hd) (Rn.cut t c.tl)
end
end
theorem Cn.cut {F : Hp} {a : Addr} {ob : Obj} {xs0 : List V} (fa : F a = some (.frz ob (.lst xs0))) : ∀ {o : HO} {d : D}, Cn F o d → Cz d → Cn (cutF F a) o d
  | _, _, .tup r, c => .tup (Rs.cut' fa r c.tupI)
  | _, _, .lst r, c => .lst (Rs.cut' fa r c.lstI)
  | _, _, .dk r, c => .dk (Rk.cut fa r c.dkI)
  | _, _, .ins r, c => .ins (Rn.cut fa r c.insI)
  | _, _, .fz _, c => c.noF.elim
section
variable {χ : Xk} {L : List Addr} {as : List Addr} {ρ : DSt} {O : List D} {k : List Addr → D → List D → Prop} {kT : List Addr → Bool → List D → Prop} {kA kI : List Addr → List D → List D → Prop} {ta tb td ty te : TE} {tt tu : TT} {d d1 d2 : D} {KK : PySem.W.Frag}
theorem w_lend (j i : Nat) (a : Addr) (ds : List D) (ha : as[j]? = some a) (hc : O[j]? = some (.lst ds)) (hi : ρ[i]? = some (some (.adr a)))
    (h : dE X0 te L (as.eraseIdx j) (ρ.set i (some (.zst ds))) (O.eraseIdx j) fun as' d' O' => Cz d' ∧ (∀ c ∈ O', Cz c) ∧ k (as' ++ [a]) d' (O' ++ [.lst ds])) : dE χ te L as ρ O k := fun F H σ S x Q q => by
  obtain ⟨hf, o, ho, cn⟩ := S.own.at_ j a _ ha hc
  cases cn with
  | @lst xs _ rr =>
    let F1 : Hp := upd F a (.frz default (.lst xs))
    have fa : F1 a = some (.frz default (.lst xs)) := upd_same
    have ex1 : Ex F F1 := ex_lay hf
    have nL : a ∉ L := fun m => S.hd.lk a m hf
    have hd1 : Hd L F1 H := {
      at_ := fun b u e => by
        by_cases z : b = a
        · subst z
          rw [fa] at e
          cases e
          exact .inr (.inr ⟨nL, _, _, rfl, ho⟩)
        · have e : upd F a _ b = some u := e
          rw [upd_ne z] at e
          exact S.hd.at_ b u e
      lk := fun b m e => by
        have e : upd F a _ b = none := e
        by_cases z : b = a
        · subst z; rw [upd_same] at e; cases e
        · rw [upd_ne z] at e; exact S.hd.lk b m e }
    have own1 : Own F1 H (as.eraseIdx j) (O.eraseIdx j) := (S.own.drop j).keep ex1 (fun b m => by
      have z : b ≠ a := fun y => nodup_eraseIdx S.own.nd ha (y ▸ m)
      show upd F a _ b = none
      rw [upd_ne z]
      exact S.own.free (List.mem_of_mem_eraseIdx m)) fun _ _ _ h => h
    obtain ⟨v, e, r⟩ := S.sl.get hi
    cases r
    have r' : R F1 (.ref a) (.zst ds) := .zst fa (rr.mono ex1)
    have hs : σ.set i (some (.ref a)) = σ := by
      apply List.ext_getElem?
      intro n
      by_cases q : i = n
      · subst q
        rw [List.getElem?_set_self (List.getElem?_eq_some_iff.mp e).1, e]
      · rw [List.getElem?_set_ne q]
    have S1 : Rep L (as.eraseIdx j) F1 H σ (ρ.set i (some (.zst ds))) (O.eraseIdx j) := ⟨hd1, own1, by rw [← hs]; exact (S.sl.mono ex1).set r' i⟩
    refine h F1 H σ S1 xp0 _ fun F2 H2 as2 O2 v2 d2 g2 S2 r2 ⟨c2, cO, z2⟩ => ?_
    have fa2 : F2 a = some (.frz default (.lst xs)) := g2.ex _ _ fa
    have nA : a ∉ as.eraseIdx j := nodup_eraseIdx S.own.nd ha
    have h2 : H2 a = some (.lst xs) := g2.kp a _ ho nA
    have exc : Ex F (cutF F2 a) := fun b u e => by
      have z : b ≠ a := fun z => by rw [z, hf] at e; cases e
      rw [cutF_ne z]
      exact g2.ex _ _ (ex1 _ _ e)
    have nA2 : a ∉ as2 := fun m => by
      rcases g2.sub a m with m | m
      · exact nA m
      · rw [ho] at m; cases m
    refine q (cutF F2 a) H2 (as2 ++ [a]) (O2 ++ [.lst ds]) v2 d2 ?_ ⟨?_, ?_, S.sl.mono exc⟩ (R.cut fa2 r2 c2) z2
    · refine ⟨exc, fun b u e => ?_, fun b u e n => g2.kp b u e fun m => n (List.mem_of_mem_eraseIdx m), g2.th, fun b m => ?_⟩
      · by_cases z : b = a
        · rw [z]; exact .inr (.inr (List.mem_of_getElem? ha))
        · rw [cutF_ne z] at e
          rcases g2.nw b u e with e | e | e
          · have e : upd F a _ b = some u := e
            rw [upd_ne z] at e; exact .inl e
          · exact .inr (.inl e)
          · exact .inr (.inr (List.mem_of_mem_eraseIdx e))
      · rcases List.mem_append.mp m with m | m
        · rcases g2.sub b m with m | m
          · exact .inl (List.mem_of_mem_eraseIdx m)
          · exact .inr m
        · simp at m; subst m; exact .inl (List.mem_of_getElem? ha)
    · refine ⟨fun b u e => ?_, fun b m e => ?_⟩
      · by_cases z : b = a
        · rw [z, cutF_same] at e; cases e
        · rw [cutF_ne z] at e; exact S2.hd.at_ b u e
      · by_cases z : b = a
        · exact nL (z ▸ m)
        · rw [cutF_ne z] at e; exact S2.hd.lk b m e
    · refine ⟨?_, by simp [S2.own.len], fun i b d' e1 e2 => ?_⟩
      · rw [List.nodup_append]
        refine ⟨S2.own.nd, by simp, fun x m y m' z => ?_⟩
        simp at m'
        subst m'; subst z
        exact nA2 m
      · rcases Nat.lt_trichotomy i as2.length with z | z | z
        · rw [List.getElem?_append_left z] at e1
          rw [List.getElem?_append_left (S2.own.len ▸ z)] at e2
          obtain ⟨f1, o', f2, f3⟩ := S2.own.at_ i b d' e1 e2
          have nb : b ≠ a := fun y => nA2 (y ▸ List.mem_of_getElem? e1)
          exact ⟨by rw [cutF_ne nb]; exact f1, o', f2, Cn.cut fa2 f3 (cO _ (List.mem_of_getElem? e2))⟩
        · rw [List.getElem?_append_right (Nat.le_of_eq z.symm)] at e1
          rw [List.getElem?_append_right (by rw [← S2.own.len]; exact Nat.le_of_eq z.symm), ← S2.own.len] at e2
          rw [z] at e1 e2
          simp at e1 e2
          subst e1; subst e2
          exact ⟨cutF_same, _, h2, .lst (rr.mono exc)⟩
        · rw [List.getElem?_eq_none (by simp; omega)] at e1
          cases e1
def lstF (K : PySem.W.Frag) (d : D) (ds : List D) : Prop := d = .lst ds ∨ d = .zst ds ∨ d = .zkl K ds
theorem lf_at {F : Hp} {v : V} {ds : List D} (r : R F v d) (h : lstF KK d ds) : ∃ a xs, v = .ref a ∧ Rs F xs ds ∧ ∀ F2 H2, Ex F F2 → Hd L F2 H2 → SqL KK H2 a xs := by
  rcases h with rfl | rfl | rfl
  · cases r with
    | lst e r => exact ⟨_, _, rfl, r, fun F2 H2 ee hd => SqL.of (hd.lst (ee _ _ e))⟩
  · cases r with
    | zst e r => exact ⟨_, _, rfl, r, fun F2 H2 ee hd => .inl (hd.zst (ee _ _ e))⟩
  · cases r with
    | zkl e r => exact ⟨_, _, rfl, r, fun F2 H2 _ _ => e H2⟩
theorem i_listF (h : dE χ te L as ρ O fun as d O => ∃ ds, lstF KK d ds ∧ kI as ds O) : dI χ (iList KK te) L as ρ O kI := fun F H σ S x Q q =>
  h F H σ S x _ fun F1 H1 as1 O1 v d g1 S1 r1 ⟨ds, hl, z⟩ => by
    obtain ⟨a, xs, rfl, r, hs⟩ := lf_at (L := L) r1 hl
    exact ⟨_, rfl, ⟨_, hs _ _ (fun _ _ h => h) S1.hd⟩, q F1 H1 as1 O1 _ ds g1 S1 (itd_at walk_list r hs) z⟩
theorem i_enumF {ta : TA} (h : dA χ ta L as ρ O fun as ds O => ∃ d es, ds = [d] ∧ lstF KK d es ∧ kI as (enumD es) O) : dI χ (iEnum KK ta) L as ρ O kI := fun F H σ S x Q q =>
  h F H σ S x _ fun F1 H1 as1 O1 vs ds g1 S1 r1 ⟨d, es, hd, hl, z⟩ => by
    subst hd
    cases r1 with
    | cons r1 r2 =>
      cases r2
      obtain ⟨a, xs, rfl, r, hs⟩ := lf_at (L := L) r1 hl
      refine ⟨a, xs, rfl, hs _ _ (fun _ _ h => h) S1.hd, q F1 H1 as1 O1 _ (enumD es) g1 S1 ⟨_, _, by rw [enum_len, ← r.length]; exact walk_enum, fun F2 H2 _ gg hd => hs _ _ gg.ex hd, fun i as H H' x F2 O hi ee hd ow y => ?_⟩ z⟩
      obtain ⟨T, x1, x2, rfl, hT, rfl, f1, f2⟩ := y
      cases f1
      obtain ⟨d, e2, rd⟩ := r.get' f2
      obtain ⟨F3, g3, h3, o3, r3⟩ := lay_pair hd ow hT (.int (i : Nat)) (rd.mono ee)
      refine ⟨F3, _, ?_, g3, h3, o3, r3⟩
      unfold enumD
      rw [List.getElem?_map, List.getElem?_zipIdx, e2]
      simp
theorem rc_lenF {ds : List D} (h : lstF KK d ds) (z : k as (.int ds.length) O) : rc (fun xs H Q => ∃ x n, xs = [x] ∧ LenV KK x H n ∧ Q (.int n) H) L as O [d] k := fun F H xs hd ow r Q q => by
  cases r with
  | cons r1 r2 =>
    cases r2
    obtain ⟨a, xs, rfl, r, hs⟩ := lf_at (L := L) r1 h
    exact ⟨_, _, rfl, .inl ⟨_, hs _ _ (fun _ _ h => h) hd, r.length.symm⟩, q F H as O _ _ (.refl ..) hd ow (.int _) z⟩
theorem w_fld {f : Str} (h : dE χ ta L as ρ O fun as d O => ∃ C fds d', insOf as O d C fds ∧ Cls KK C ∧ NoAttr KK C f ∧ fds.lookup f = some d' ∧ k as d' O) : dE χ (tFld KK ta f) L as ρ O k := fun F H σ S x Q q =>
  h F H σ S x _ fun F1 H1 as1 O1 v d g1 S1 r1 ⟨C, fds, d', i, hc, hn, hl, z⟩ => by
    obtain ⟨a, dx, fs, rfl, e, rn⟩ := ins_at S1.hd S1.own r1 i
    obtain ⟨v', e', r'⟩ := rn.get hl
    exact ⟨a, C, dx, fs, v', rfl, e, hc, hn, e', q F1 H1 as1 O1 v' d' g1 S1 r' z⟩
def putD (f : Str) (y : D) : List (Str × D) → List (Str × D)
  | [] => [(f, y)]
  | (g, x) :: r => if g = f then (g, y) :: r else (g, x) :: putD f y r
theorem Rn.put {F : Hp} {f : Str} {v : V} {y : D} (q : R F v y) : ∀ {fs : List (Str × V)} {fds : List (Str × D)}, Rn F fs fds → Rn F (putF f v fs) (putD f y fds)
  | _, _, .nil => .cons q .nil
  | _, _, .cons (k := g) r t => by
    unfold putF putD
    by_cases e : g = f
    · rw [if_pos e, if_pos e]; exact .cons q t
    · rw [if_neg e, if_neg e]; exact .cons r (Rn.put q t)
theorem s_fld {K : Kt} {f : Str} {tv : TE} (h : dE χ tv L as ρ O fun as y O => dE χ ta L as ρ O fun as d O => ∃ (j : Nat) (a C : Addr) (fds : List (Str × D)), d = .adr a ∧ as[j]? = some a ∧ O[j]? = some (.ins C fds) ∧ Cls KK C ∧ NoAttr KK C f ∧ fds.length < 1000 ∧ K.nx as ρ (O.set j (.ins C (putD f y fds)))) :
    dS χ (sFld KK ta tv f) L as ρ O K := fun F H σ S x Z z =>
  h F H σ S x _ fun F1 H1 as1 O1 v y g1 S1 r1 z1 => z1 F1 H1 σ S1 (x.go g1) _ fun F2 H2 as2 O2 u d g2 S2 r2 ⟨j, a, C, fds, ed, ha, ho, hc, hn, hl, z2⟩ => by
    subst ed
    cases r2
    obtain ⟨hf, o, e, cn⟩ := S2.own.at_ j a _ ha ho
    cases cn with
    | @ins _ dx fs _ rn =>
      refine ⟨a, C, dx, fs, rfl, e, hc, hn, by rw [rn.length]; exact hl, ?_⟩
      exact z.nx F2 _ as2 σ ρ _ (g1.trans (g2.trans (go_upd (List.mem_of_getElem? ha)))) ⟨S2.hd.upd hf, S2.own.put (.ins (rn.put (r1.mono g2.ex))) ha, S2.sl⟩ z2
theorem d_callE {C : Ct} {ta : TA} {E : XK} (h : dA χ ta L as ρ O fun as ds O => ∃ js, cc C X0 ρ js L as ds O k) : dE χ (tCall (spC C) [] E ta) L as ρ O k := fun F H σ S x Q q =>
  h F H σ S x _ fun F1 H1 as1 O1 vs ds g1 S1 r1 ⟨js, z1⟩ => by
    rw [List.append_nil]
    exact cc_sp S1 xp0 r1 z1 (fun _ _ _ z => z.elim) fun F' H' as' O' v d g => q F' H' as' O' v d (g1.trans g)
theorem w_append {i : Nat} {a : Addr} {ds0 : List D} (j : Nat) (hv : ρ[i]? = some (some (.adr a))) (ha : as[j]? = some a) (ho : O[j]? = some (.lst ds0))
    (h : dE χ te L as ρ O fun as d O => ∃ ds, as[j]? = some a ∧ O[j]? = some (.lst ds) ∧ ds.length < sizeLine ∧ k as .non (O.set j (.lst (ds ++ [d])))) : dE χ (tBM KK "list" rAppend (tVar i) (tCons te tNil)) L as ρ O k :=
  w_bm a (w_var hv ⟨rfl, ⟨j, _, ha, ho⟩, rfl, w_cons (h.imp fun as d O ⟨ds, e1, e2, hl, z⟩ => w_nil (rc_append j e1 e2 hl z))⟩)
theorem w_extend {i : Nat} {a : Addr} {ds0 : List D} (j : Nat) (hv : ρ[i]? = some (some (.adr a))) (ha : as[j]? = some a) (ho : O[j]? = some (.lst ds0))
    (h : dE χ te L as ρ O fun as d O => ∃ ds es, as[j]? = some a ∧ O[j]? = some (.lst ds) ∧ lstOf as O d es ∧ ds.length + es.length ≤ sizeLine ∧ k as .non (O.set j (.lst (ds ++ es)))) : dE χ (tBM KK "list" rExtend (tVar i) (tCons te tNil)) L as ρ O k :=
  w_bm a (w_var hv ⟨rfl, ⟨j, _, ha, ho⟩, rfl, w_cons (h.imp fun as d O ⟨ds, es, e1, e2, e3, hl, z⟩ => w_nil (rc_extend j e1 e2 e3 hl z))⟩)
theorem w_yes (z : kT as true O) : dT χ tYes L as ρ O kT := fun F H σ S x Q q => q F H as O true true (.refl ..) S rfl z
theorem w_map {α : Type} {wi : TI} {g : TG} {vs : List Nat} (hg : WG g vs) (h : dI χ wi L as ρ O fun as1 ds O1 => ∃ (xs : List α) (em : α → D) (f : α → D), ds = xs.map em ∧ xs.length < sizeLine ∧
    (∀ x ∈ xs, dG X0 g (em x) L as1 (wρ ρ vs) O1 fun as2 ρ2 O2 => as2 = as1 ∧ O2 = O1 ∧ dE X0 te L as1 ρ2 O1 fun as4 y O4 => as4 = as1 ∧ O4 = O1 ∧ y = f x) ∧
    ∀ q, k (as1 ++ [q]) (.adr q) (O1 ++ [.lst (xs.map f)])) : dE χ (tLc wi g tYes te vs) L as ρ O k := by
  refine w_lc hg fun F H σ S x Q q => h F H σ S x Q fun F1 H1 as1 O1 J ds g1 S1 it ⟨xs, em, f, e, hl, st, fin⟩ => q F1 H1 as1 O1 J ds g1 S1 it ⟨xs, em, fun _ => true, f, e, hl, fun x m => ?_, fun q => ?_⟩
  · intro F H σ v S xp r Q q
    exact st x m F H σ v S xp r Q fun F' H' as' σ' ρ' O' g S' ⟨e1, e2, z⟩ => q F' H' as' σ' ρ' O' g S' ⟨e1, e2, w_yes ⟨rfl, rfl, rfl, fun _ => z⟩⟩
  · have := fin q
    have e : (xs.filter fun _ => true) = xs := List.filter_eq_self.mpr fun _ _ => rfl
    rw [e]
    exact this
theorem s_mid {K : Kt} {ts tw : TS} {N : List Addr → DSt → List D → Prop} (h : dS χ ts L as ρ O { K with nx := N }) (i : ∀ as ρ O, N as ρ O → dS χ tw L as ρ O K) : dS χ (tSeq ts tw) L as ρ O K :=
  s_seq fun F H σ S x Z z => h F H σ S x Z ⟨fun F' H' as' σ' ρ' O' g S' n => z.nx F' H' as' σ' ρ' O' g S' (i _ _ _ n), z.rt, z.bk, z.ct⟩
def kD : Key → D
  | .inl i => .int i
  | .inr x => .str x
theorem key_at {F : Hp} {v : V} {k : Key} (r : R F v (kD k)) : v = kV k := by
  cases k with
  | inl i => cases r; rfl
  | inr x => cases r; rfl
theorem r_key {F : Hp} (k : Key) : R F (kV k) (kD k) := by
  cases k with
  | inl i => exact .int i
  | inr x => exact .str x
def valD (kds : List (Key × D)) (k : Key) : Option D := (kds.find? fun kv => decide (kv.1 = k)).map (·.2)
def putDk (kds : List (Key × D)) (k : Key) (y : D) : List (Key × D) :=
  if (kds.any fun kv => decide (kv.1 = k)) = true then kds.map (fun kv => if kv.1 = k then (kv.1, y) else kv) else kds ++ [(k, y)]
theorem Rk.val {F : Hp} {k : Key} : ∀ {kvs : List (Key × V)} {kds : List (Key × D)}, Rk F kvs kds → (∀ d, valD kds k = some d → ∃ v, valV kvs k = some v ∧ R F v d) ∧ (valD kds k = none → valV kvs k = none)
  | _, _, .nil => ⟨fun d h => (by cases h), fun _ => rfl⟩
  | _, _, .cons (k := j) (v := v) (vs := vs) (d := d) (ds := ds) r t => by
    obtain ⟨h1, h2⟩ := Rk.val (k := k) t
    by_cases e : j = k
    · rw [valV_pos (p := (j, v)) e]
      have : valD ((j, d) :: ds) k = some d := by simp [valD, List.find?_cons, e]
      rw [this]
      exact ⟨fun d' h => by cases h; exact ⟨v, rfl, r⟩, fun h => by cases h⟩
    · rw [valV_neg (p := (j, v)) e]
      have : valD ((j, d) :: ds) k = valD ds k := by simp [valD, List.find?_cons, e]
      rw [this]
      exact ⟨h1, h2⟩
theorem Rk.some_eq {F : Hp} {k : Key} {kvs : List (Key × V)} {kds : List (Key × D)} (r : Rk F kvs kds) : (valV kvs k).isSome = (valD kds k).isSome := by
  obtain ⟨h1, h2⟩ := r.val (k := k)
  cases e : valD kds k with
  | none => rw [h2 e]; rfl
  | some d => obtain ⟨v, e', _⟩ := h1 d e; rw [e']; rfl
theorem Rk.any {F : Hp} {k : Key} : ∀ {kvs : List (Key × V)} {kds : List (Key × D)}, Rk F kvs kds → (kvs.any fun kv => decide (kv.1 = k)) = (kds.any fun kv => decide (kv.1 = k))
  | _, _, .nil => rfl
  | _, _, .cons r t => by rw [List.any_cons, List.any_cons, Rk.any t]
theorem Rk.snoc {F : Hp} {k : Key} {v : V} {y : D} (q : R F v y) : ∀ {kvs : List (Key × V)} {kds : List (Key × D)}, Rk F kvs kds → Rk F (kvs ++ [(k, v)]) (kds ++ [(k, y)])
  | _, _, .nil => .cons q .nil
  | _, _, .cons r t => .cons r (Rk.snoc q t)
theorem Rk.map {F : Hp} {k : Key} {v : V} {y : D} (q : R F v y) : ∀ {kvs : List (Key × V)} {kds : List (Key × D)}, Rk F kvs kds → Rk F (kvs.map fun kv => if kv.1 = k then (kv.1, v) else kv) (kds.map fun kv => if kv.1 = k then (kv.1, y) else kv)
  | _, _, .nil => .nil
  | _, _, .cons (k := j) r t => by
    rw [List.map_cons, List.map_cons]
    by_cases e : j = k
    · rw [if_pos e, if_pos e]; exact .cons q (Rk.map q t)
    · rw [if_neg e, if_neg e]; exact .cons r (Rk.map q t)
theorem Rk.put {F : Hp} {k : Key} {v : V} {y : D} (q : R F v y) {kvs : List (Key × V)} {kds : List (Key × D)} (r : Rk F kvs kds) : Rk F (putK kvs k v) (putDk kds k y) := by
  unfold putK putDk
  rw [r.any]
  by_cases e : (kds.any fun kv => decide (kv.1 = k)) = true
  · rw [if_pos e, if_pos e]; exact r.map q
  · rw [if_neg e, if_neg e]; exact r.snoc q
def dkOf (as : List Addr) (O : List D) (d : D) (kds : List (Key × D)) : Prop := (d = .dk kds ∨ ∃ a, d = .ldk a kds) ∨ ∃ (j : Nat) (a : Addr), d = .adr a ∧ as[j]? = some a ∧ O[j]? = some (.dk kds)
theorem dk_at {F H : Hp} {v : V} {kds : List (Key × D)} (hd : Hd L F H) (ow : Own F H as O) (r : R F v d) (h : dkOf as O d kds) : ∃ a kvs, v = .ref a ∧ Rd H a (.dK kvs) ∧ Rk F kvs kds := by
  rcases h with (rfl | ⟨a, rfl⟩) | ⟨j, a, rfl, e1, e2⟩
  · cases r with
    | dk e r => exact ⟨_, _, rfl, hd.dk e, r⟩
  · cases r with
    | ldk e r => exact ⟨_, _, rfl, hd.dk e, r⟩
  · cases r
    obtain ⟨_, o, e, c⟩ := ow.at_ j a _ e1 e2
    cases c with
    | dk r => exact ⟨_, _, rfl, .inl e, r⟩
theorem dget_of {F H : Hp} {v y : V} {kds : List (Key × D)} {c : Key} (hd : Hd L F H) (ow : Own F H as O) (r : R F v d) (h : dkOf as O d kds) (ry : R F y (kD c)) : ∃ a o, v = .ref a ∧ DGet H a y o ∧ o.isSome = (valD kds c).isSome ∧ ∀ e, valD kds c = some e → ∃ w, o = some w ∧ R F w e := by
  obtain ⟨a, kvs, rfl, rd, rk⟩ := dk_at hd ow r h
  exact ⟨a, valV kvs c, rfl, .inl ⟨kvs, c, rd, key_at ry, rfl⟩, rk.some_eq, fun e he => (rk.val (k := c)).1 e he⟩
theorem w_din (h : dE χ ty L as ρ O fun as y O => dE χ td L as ρ O fun as d O => ∃ c kds, y = kD c ∧ dkOf as O d kds ∧ k as (.bl (valD kds c).isSome) O) : dE χ (tDIn ty td) L as ρ O k := fun F H σ S x Q q =>
  h F H σ S x _ fun F1 H1 as1 O1 vy y g1 S1 r1 z1 => z1 F1 H1 σ S1 (x.go g1) _ fun F2 H2 as2 O2 v d g2 S2 r2 ⟨c, kds, ey, hk, z⟩ => by
    subst ey
    obtain ⟨a, o, rfl, g, eo, _⟩ := dget_of S2.hd S2.own r2 hk (r1.mono g2.ex)
    exact ⟨a, o, rfl, g, by rw [eo]; exact q F2 H2 as2 O2 _ _ (g1.trans g2) S2 (.bl _) z⟩
theorem w_dnin (h : dE χ ty L as ρ O fun as y O => dE χ td L as ρ O fun as d O => ∃ c kds, y = kD c ∧ dkOf as O d kds ∧ k as (.bl (!(valD kds c).isSome)) O) : dE χ (tDNotIn ty td) L as ρ O k := fun F H σ S x Q q =>
  h F H σ S x _ fun F1 H1 as1 O1 vy y g1 S1 r1 z1 => z1 F1 H1 σ S1 (x.go g1) _ fun F2 H2 as2 O2 v d g2 S2 r2 ⟨c, kds, ey, hk, z⟩ => by
    subst ey
    obtain ⟨a, o, rfl, g, eo, _⟩ := dget_of S2.hd S2.own r2 hk (r1.mono g2.ex)
    exact ⟨a, o, rfl, g, by rw [eo]; exact q F2 H2 as2 O2 _ _ (g1.trans g2) S2 (.bl _) z⟩
theorem w_dget (h : dE χ td L as ρ O fun as d O => dE χ ty L as ρ O fun as2 y O2 => as2 = as ∧ O2 = O ∧ ∃ c kds e, y = kD c ∧ dkOf as O d kds ∧ valD kds c = some e ∧ k as e O) : dE χ (tDGet td ty) L as ρ O k := fun F H σ S x Q q =>
  h F H σ S x _ fun F1 H1 as1 O1 v d g1 S1 r1 z1 => z1 F1 H1 σ S1 (x.go g1) _ fun F2 H2 as2 O2 vy y g2 S2 r2 ⟨e1, e2, c, kds, e, ey, hk, he, z⟩ => by
    subst e1
    subst e2
    subst ey
    obtain ⟨a, o, rfl, g, _, eo⟩ := dget_of S2.hd S2.own (r1.mono g2.ex) hk r2
    obtain ⟨w, rfl, rw'⟩ := eo e he
    exact ⟨a, w, rfl, g, q F2 H2 _ _ _ _ (g1.trans g2) S2 rw' z⟩
theorem s_dput {K : Kt} {tv : TE} (h : dE χ tv L as ρ O fun as v O => dE χ td L as ρ O fun as d O => dE χ ty L as ρ O fun as y O => ∃ (j : Nat) (a : Addr) (c : Key) (kds : List (Key × D)), y = kD c ∧ d = .adr a ∧ as[j]? = some a ∧ O[j]? = some (.dk kds) ∧ kds.length < sizeLine ∧ K.nx as ρ (O.set j (.dk (putDk kds c v)))) :
    dS χ (sDPut td ty tv) L as ρ O K := fun F H σ S x Z z =>
  h F H σ S x _ fun F1 H1 as1 O1 v dv g1 S1 r1 z1 => z1 F1 H1 σ S1 (x.go g1) _ fun F2 H2 as2 O2 u d g2 S2 r2 z2 => z2 F2 H2 σ S2 (x.go (g1.trans g2)) _ fun F3 H3 as3 O3 y dy g3 S3 r3 ⟨j, a, c, kds, ey, ed, ha, ho, hl, z3⟩ => by
    subst ey
    subst ed
    cases r2
    obtain ⟨hf, o, e, cn⟩ := S3.own.at_ j a _ ha ho
    cases cn with
    | @dk kvs _ rk =>
      refine ⟨a, _, rfl, .inl ⟨kvs, c, e, key_at r3, by rw [rk.length]; exact hl, rfl⟩, ?_⟩
      exact z.nx F3 _ as3 σ ρ _ (g1.trans (g2.trans (g3.trans (go_upd (List.mem_of_getElem? ha))))) ⟨S3.hd.upd hf, S3.own.put (.dk (rk.put ((r1.mono g2.ex).mono g3.ex))) ha, S3.sl⟩ z3
theorem w_dsetd {tx : TE} (h : dE χ td L as ρ O fun as d O => (∃ kds, dkOf as O d kds) ∧ dE χ ty L as ρ O fun as y O => dE χ tx L as ρ O fun as v O => ∃ (j : Nat) (a : Addr) (c : Key) (kds : List (Key × D)), y = kD c ∧ d = .adr a ∧ as[j]? = some a ∧ O[j]? = some (.dk kds) ∧ kds.length < sizeLine ∧
    (∀ e, valD kds c = some e → k as e O) ∧ (valD kds c = none → k as v (O.set j (.dk (putDk kds c v))))) : dE χ (tDSetd td ty tx) L as ρ O k := fun F H σ S x Q q =>
  h F H σ S x _ fun F1 H1 as1 O1 u d g1 S1 r1 ⟨⟨kds0, hk0⟩, z1⟩ => by
    obtain ⟨a0, kvs0, rfl, rd0, _⟩ := dk_at S1.hd S1.own r1 hk0
    refine ⟨a0, rfl, .inl ⟨kvs0, rd0⟩, ?_⟩
    refine z1 F1 H1 σ S1 (x.go g1) _ fun F2 H2 as2 O2 y dy g2 S2 r2 z2 => z2 F2 H2 σ S2 (x.go (g1.trans g2)) _ fun F3 H3 as3 O3 v dv g3 S3 r3 ⟨j, a, c, kds, ey, ed, ha, ho, hl, y1, y2⟩ => ?_
    subst ey
    subst ed
    cases r1
    obtain ⟨hf, o, e, cn⟩ := S3.own.at_ j _ _ ha ho
    cases cn with
    | @dk kvs _ rk =>
      have gg := g1.trans (g2.trans g3)
      obtain ⟨v1, v2⟩ := rk.val (k := c)
      refine ⟨kvs, c, e, key_at (r2.mono g3.ex), by rw [rk.length]; exact hl, fun w hw => ?_, fun hn => ?_⟩
      · cases ev : valD kds c with
        | none => rw [v2 ev] at hw; cases hw
        | some e' =>
          obtain ⟨w', hw', rw'⟩ := v1 e' ev
          rw [hw] at hw'
          cases hw'
          exact q F3 H3 as3 O3 _ _ gg S3 rw' (y1 e' ev)
      · have ev : valD kds c = none := by
          have := rk.some_eq (k := c)
          rw [hn] at this
          cases ev : valD kds c with
          | none => rfl
          | some _ => rw [ev] at this; cases this
        exact q F3 _ as3 _ _ _ (gg.trans (go_upd (List.mem_of_getElem? ha))) ⟨S3.hd.upd hf, S3.own.put (.dk (rk.put r3)) ha, S3.sl⟩ r3 (y2 ev)
theorem Hd.dkU {F H : Hp} {a : Addr} {kvs : List (Key × V)} (hd : Hd [] F H) (e : F a = some (.dK kvs)) : H a = some (.dK kvs) := by
  rcases hd.at_ a _ e with ⟨_, e'⟩ | ⟨m, _⟩ | ⟨_, _, _, y, _⟩
  · exact e'
  · cases m
  · cases y
theorem dk_un {F H : Hp} {v : V} {kds : List (Key × D)} (hd : Hd [] F H) (ow : Own F H as O) (r : R F v d) (h : dkOf as O d kds) : ∃ a kvs, v = .ref a ∧ H a = some (.dK kvs) ∧ Rk F kvs kds := by
  rcases h with (rfl | ⟨a, rfl⟩) | ⟨j, a, rfl, e1, e2⟩
  · cases r with
    | dk e r => exact ⟨_, _, rfl, hd.dkU e, r⟩
  · cases r with
    | ldk e r => exact ⟨_, _, rfl, hd.dkU e, r⟩
  · cases r
    obtain ⟨_, o, e, c⟩ := ow.at_ j a _ e1 e2
    cases c with
    | dk r => exact ⟨_, _, rfl, e, r⟩
theorem rc_lenD {kds : List (Key × D)} (h : dkOf as O d kds) (z : k as (.int kds.length) O) : rc (fun xs H Q => ∃ a kvs, xs = [V.ref a] ∧ H a = some (.dK kvs) ∧ Q (.int kvs.length) H) [] as O [d] k := fun F H xs hd ow r Q q => by
  cases r with
  | cons r1 r2 =>
    cases r2
    obtain ⟨a, kvs, rfl, e, rk⟩ := dk_un hd ow r1 h
    exact ⟨a, kvs, rfl, e, by rw [rk.length]; exact q F H as O _ _ (.refl ..) hd ow (.int _) z⟩
end
end DL
namespace DL
open PySem PySem.Spec PyProof.Rows L2
section
variable {χ : Xk} {L : List Addr} {as : List Addr} {ρ : DSt} {O : List D} {k : List Addr → D → List D → Prop} {kT : List Addr → Bool → List D → Prop} {kA kI : List Addr → List D → List D → Prop} {ta tb tc td ty te : TE} {tt tu : TT} {d d1 d2 : D} {KK : PySem.W.Frag}
theorem w_chain {r r' : R2} (h : dE χ ta L as ρ O fun as d1 O => dE χ tb L as ρ O fun as d2 O => rv r L as O d1 d2 fun as d O => ∃ b, d = .bl b ∧ if b = true then dE χ tc L as ρ O fun as d3 O => rv r' L as O d2 d3 k else k as (.bl false) O) :
    dE χ (tChain r r' ta tb tc) L as ρ O k := fun F H σ S x Q q =>
  h F H σ S x _ fun F1 H1 as1 O1 v1 d1 g1 S1 r1 z1 => z1 F1 H1 σ S1 (x.go g1) _ fun F2 H2 as2 O2 v2 d2 g2 S2 r2 z2 =>
    z2 F2 H2 v1 v2 S2.hd S2.own (r1.mono g2.ex) r2 _ fun F3 H3 as3 O3 v d g3 hd ow r3 ⟨b, ed, z3⟩ => by
      subst ed
      cases r3
      have gg := g1.trans (g2.trans g3)
      have S3 : Rep L as3 F3 H3 σ ρ O3 := ⟨hd, ow, S2.sl.mono g3.ex⟩
      refine ⟨b, rfl, ?_⟩
      cases b with
      | false => exact q F3 H3 as3 O3 _ _ gg S3 (.bl _) z3
      | true =>
        exact z3 F3 H3 σ S3 (x.go gg) _ fun F4 H4 as4 O4 v4 d4 g4 S4 r4 z4 => z4 F4 H4 v2 v4 S4.hd S4.own ((r2.mono g3.ex).mono g4.ex) r4 _ fun F5 H5 as5 O5 v5 d5 g5 hd5 ow5 r5 z5 =>
          q F5 H5 as5 O5 v5 d5 (gg.trans (g4.trans g5)) ⟨hd5, ow5, S4.sl.mono g5.ex⟩ r5 z5
theorem Rn.redo {F : Hp} {f : Str} {v : V} {y : D} (q : R F v y) : ∀ {fs : List (Str × V)} {fds : List (Str × D)}, Rn F fs fds → fs.lookup f = some v → Rn F fs (putD f y fds)
  | _, _, .nil, h => by cases h
  | _, _, .cons (k := g) (v := u) r t, h => by
    unfold putD
    rw [List.lookup_cons] at h
    by_cases e : g = f
    · subst e
      rw [if_pos rfl]
      rw [beq_self_eq_true] at h
      cases h
      exact .cons q t
    · rw [if_neg e]
      have : (f == g) = false := by simp; exact fun z => e z.symm
      rw [this] at h
      exact .cons r (Rn.redo q t h)
theorem s_frzFld {K : Kt} {ts : TS} (j j' : Nat) (a C : Addr) (c y : D) (f : Str) (fds : List (Str × D)) (ha : as[j]? = some a) (hc : O[j]? = some c) (hy : ∀ F o, F a = some o → Cn F o c → R F (.ref a) y) (hj' : (O.eraseIdx j)[j']? = some (.ins C fds)) (hf : fds.lookup f = some (.adr a))
    (h : dS χ ts L (as.eraseIdx j) ρ ((O.eraseIdx j).set j' (.ins C (putD f y fds))) K) : dS χ ts L as ρ O K := fun F H σ S x Z z => by
  obtain ⟨hfa, o, ho, cn⟩ := S.own.at_ j a c ha hc
  have S' := S.frz ha hc hfa ho cn
  have g : Go as F H (as.eraseIdx j) (upd F a o) H := go_frz hfa ha
  have ry : R (upd F a o) (.ref a) y := hy _ _ upd_same (cn.mono (ex_lay hfa))
  have own2 : Own (upd F a o) H (as.eraseIdx j) ((O.eraseIdx j).set j' (.ins C (putD f y fds))) := by
    refine ⟨S'.own.nd, by rw [List.length_set]; exact S'.own.len, fun i b d' e1 e2 => ?_⟩
    by_cases q : j' = i
    · subst q
      rw [List.getElem?_set_self (List.getElem?_eq_some_iff.mp hj').1] at e2
      cases e2
      obtain ⟨f1, o1, f2, f3⟩ := S'.own.at_ j' b _ e1 hj'
      cases f3 with
      | @ins _ dx fs _ rn =>
        obtain ⟨v, ev, rv⟩ := rn.get hf
        cases rv
        exact ⟨f1, _, f2, .ins (rn.redo ry ev)⟩
    · rw [List.getElem?_set_ne q] at e2
      exact S'.own.at_ i b d' e1 e2
  exact h _ _ σ ⟨S'.hd, own2, S'.sl⟩ (x.go g) Z (z.go g)
theorem s_lock {K : Kt} {ts : TS} (a C : Addr) (kds : List (Key × D)) (j : Nat) (f : Str) (fds : List (Str × D)) (nL : a ∉ L) (hj : O[j]? = some (.ins C fds)) (hf : fds.lookup f = some (.ldk a kds)) (h : dS χ ts (a :: L) as ρ O K) : dS χ (tLock ts) L as ρ O K := fun F H σ S x Z z => by
  obtain ⟨b0, o0, e1, e2, e3, e4⟩ := S.own.get hj
  cases e4 with
  | @ins _ dx fs _ rn =>
    obtain ⟨v, ev, rv⟩ := rn.get hf
    cases rv with
    | @ldk _ kvs _ fa rk =>
      have ha : H a = some (.dK kvs) := by
        rcases S.hd.at_ a _ fa with ⟨_, e'⟩ | ⟨m, _⟩ | ⟨_, _, _, y, _⟩
        · exact e'
        · exact absurd m nL
        · cases y
      have nas : a ∉ as := fun m => by rw [S.own.free m] at fa; cases fa
      refine ⟨a, .dK kvs, ha, trivial, fun od => ?_⟩
      have hs : (upd H a (.frz od (.dK kvs))) a = some (.frz od (.dK kvs)) := upd_same
      have S1 : Rep (a :: L) as F (upd H a (.frz od (.dK kvs))) σ ρ O := by
        refine ⟨⟨fun b u e => ?_, fun b m => ?_⟩, S.own.keep (fun _ _ h => h) (fun b m => S.own.free m) fun b m o e => ?_, S.sl⟩
        · by_cases q : b = a
          · subst q
            rw [fa] at e
            cases e
            exact .inr (.inl ⟨List.mem_cons_self, _, _, rfl, hs⟩)
          · rw [upd_ne q]
            rcases S.hd.at_ b u e with ⟨m, e'⟩ | ⟨m, e'⟩ | ⟨m, e'⟩
            · exact .inl ⟨fun y => (List.mem_cons.mp y).elim q m, e'⟩
            · exact .inr (.inl ⟨List.mem_cons_of_mem _ m, e'⟩)
            · exact .inr (.inr ⟨fun y => (List.mem_cons.mp y).elim q m, e'⟩)
        · rcases List.mem_cons.mp m with m | m
          · subst m; rw [fa]; exact fun y => by cases y
          · exact S.hd.lk b m
        · rw [upd_ne (show b ≠ a from fun y => nas (by rw [← y]; exact m))]; exact e
      have back : ∀ {F' H' : Hp} {as' : List Addr}, Go as F (upd H a (.frz od (.dK kvs))) as' F' H' → H' a = some (.frz od (.dK kvs)) ∧ F' a = some (.dK kvs) ∧ a ∉ as' ∧ Go as F H as' F' (upd H' a (.dK kvs)) := fun {F' H' as'} g => by
        refine ⟨g.kp a _ hs nas, g.ex _ _ fa, fun m => ?_, g.ex, fun b u e => ?_, fun b u e n => ?_, fun b e => ?_, fun b m => ?_⟩
        · rcases g.sub a m with m | m
          · exact nas m
          · rw [hs] at m; cases m
        · rcases g.nw b u e with e | e | e
          · exact .inl e
          · by_cases q : b = a
            · subst q; rw [hs] at e; cases e
            · rw [upd_ne q] at e; exact .inr (.inl e)
          · exact .inr (.inr e)
        · by_cases q : b = a
          · subst q; rw [ha] at e; rw [upd_same]; exact e
          · rw [upd_ne q]
            exact g.kp b u (by rw [upd_ne q]; exact e) n
        · by_cases q : b = a
          · subst q; rw [upd_same] at e; cases e
          · rw [upd_ne q] at e
            have := g.th b e
            rw [upd_ne q] at this
            exact this
        · rcases g.sub b m with m | m
          · exact .inl m
          · by_cases q : b = a
            · subst q; rw [hs] at m; cases m
            · rw [upd_ne q] at m; exact .inr m
      have backH : ∀ {F' H' : Hp}, Hd (a :: L) F' H' → F' a = some (.dK kvs) → Hd L F' (upd H' a (.dK kvs)) := fun {F' H'} hd fa' => by
        refine ⟨fun b u e => ?_, fun b m => hd.lk b (List.mem_cons_of_mem _ m)⟩
        by_cases q : b = a
        · subst q
          rw [fa'] at e
          cases e
          exact .inl ⟨nL, upd_same⟩
        · rw [upd_ne q]
          rcases hd.at_ b u e with ⟨m, e'⟩ | ⟨m, e'⟩ | ⟨m, e'⟩
          · exact .inl ⟨fun y => m (List.mem_cons_of_mem _ y), e'⟩
          · exact .inr (.inl ⟨(List.mem_cons.mp m).elim (fun y => absurd y q) id, e'⟩)
          · exact .inr (.inr ⟨fun y => m (List.mem_cons_of_mem _ y), e'⟩)
      have backO : ∀ {F' H' : Hp} {as' : List Addr} {O' : List D}, Own F' H' as' O' → a ∉ as' → Own F' (upd H' a (.dK kvs)) as' O' := fun ow n =>
        ow.keep (fun _ _ h => h) (fun b m => ow.free m) fun b m o e => by rw [upd_ne (show b ≠ a from fun y => n (by rw [← y]; exact m))]; exact e
      have x1 : XP χ (a :: L) as F (upd H a (.frz od (.dK kvs))) := fun F' H' L' as' σ' ρ' O' cls dd fds' g S' nx ze => by
        refine x F' H' L' as' σ' ρ' O' cls dd fds' ⟨g.ex, fun b u e => ?_, fun b u e n => ?_, fun b e => ?_, fun b m => ?_⟩ S' (nx.imp fun b hb => by
          by_cases q : b = a
          · subst q; rw [hs] at hb; cases hb
          · rw [upd_ne q] at hb; exact hb) ze
        · rcases g.nw b u e with e | e | e
          · exact .inl e
          · by_cases q : b = a
            · subst q; rw [hs] at e; cases e
            · rw [upd_ne q] at e; exact .inr (.inl e)
          · exact .inr (.inr e)
        · by_cases q : b = a
          · subst q
            rw [ha] at e
            cases e
            have hh : H' b = some (.frz od (.dK kvs)) := by
              rcases g.kp b _ hs n with y | ⟨_, y, _⟩
              · exact y
              · exact absurd List.mem_cons_self y
            rcases S'.hd.at_ b _ (g.ex _ _ fa) with ⟨_, y⟩ | ⟨m, _⟩ | ⟨_, _, _, y, _⟩
            · rw [hh] at y; cases y
            · exact .inr ⟨m, nL, _, _, rfl, hh⟩
            · cases y
          · rcases g.kp b u (by rw [upd_ne q]; exact e) n with y | ⟨y1, y2, y3⟩
            · exact .inl y
            · exact .inr ⟨y1, fun y => y2 (List.mem_cons_of_mem _ y), y3⟩
        · by_cases q : b = a
          · subst q
            have := g.th b e
            rw [hs] at this
            cases this
          · have := g.th b e
            rw [upd_ne q] at this
            exact this
        · rcases g.sub b m with m | m
          · exact .inl m
          · by_cases q : b = a
            · subst q; rw [hs] at m; cases m
            · rw [upd_ne q] at m; exact .inr m
      refine h F _ σ S1 x1 _ ⟨fun F' H' as' σ' ρ' O' g S' zz => ?_, fun F' H' as' O' v d g hd ow r zz => ?_, fun F' H' as' σ' ρ' O' g S' zz => ?_, fun F' H' as' σ' ρ' O' g S' zz => ?_⟩
      all_goals obtain ⟨b1, b2, b3, b4⟩ := back g
      · exact ⟨b1, z.nx F' _ as' σ' ρ' O' b4 ⟨backH S'.hd b2, backO S'.own b3, S'.sl⟩ zz⟩
      · exact ⟨b1, z.rt F' _ as' O' v d b4 (backH hd b2) (backO ow b3) r zz⟩
      · exact ⟨b1, z.bk F' _ as' σ' ρ' O' b4 ⟨backH S'.hd b2, backO S'.own b3, S'.sl⟩ zz⟩
      · exact ⟨b1, z.ct F' _ as' σ' ρ' O' b4 ⟨backH S'.hd b2, backO S'.own b3, S'.sl⟩ zz⟩
def pairsD (kds : List (Key × D)) : List D := kds.map fun kv => .tup [kD kv.1, kv.2]
theorem Rk.at' {F : Hp} : ∀ {kvs : List (Key × V)} {kds : List (Key × D)} {i : Nat} {c : Key} {v : V}, Rk F kvs kds → kvs[i]? = some (c, v) → ∃ d, kds[i]? = some (c, d) ∧ R F v d
  | _, _, i, _, _, .nil, h => by simp at h
  | _, _, 0, _, _, .cons r t, h => by
    simp at h
    obtain ⟨rfl, rfl⟩ := h
    exact ⟨_, rfl, r⟩
  | _, _, i + 1, _, _, .cons r t, h => by
    obtain ⟨d, h1, h2⟩ := Rk.at' (i := i) t (by simpa using h)
    exact ⟨d, by simpa using h1, h2⟩
theorem i_items (h : dE χ td L as ρ O fun as d O => ∃ a kds, d = .ldk a kds ∧ a ∈ L ∧ kI as (pairsD kds) O) : dI χ (iItems td) L as ρ O kI := fun F H σ S x Q q =>
  h F H σ S x _ fun F1 H1 as1 O1 v d g1 S1 r1 ⟨a, kds, ed, mL, z⟩ => by
    subst ed
    cases r1 with
    | @ldk _ kvs _ fa rk =>
      obtain ⟨ob, e'⟩ : ∃ ob, H1 a = some (.frz ob (.dK kvs)) := by
        rcases S1.hd.at_ a _ fa with ⟨m, _⟩ | ⟨_, _, ob, _, e'⟩ | ⟨m, _⟩
        · exact absurd mL m
        · exact ⟨ob, e'⟩
        · exact absurd mL m
      have nas : a ∉ as1 := fun m => by rw [S1.own.free m] at fa; cases fa
      refine ⟨a, ob, kvs, rfl, e', q F1 H1 as1 O1 _ (pairsD kds) g1 S1 ⟨_, _, by rw [show (pairsD kds).length = kvs.length by rw [rk.length]; simp [pairsD]]; exact walk_items, fun F2 H2 _ gg hd => gg.kp a _ e' nas, fun i as H H' x F2 O hi ee hd ow y => ?_⟩ z⟩
      obtain ⟨T, x1, x2, rfl, hT, rfl, f1, f2⟩ := y
      have f1 : (kvs[i]?.map fun kv => kV kv.1) = some x1 := f1
      have f2 : (kvs[i]?.map Prod.snd) = some x2 := f2
      cases ek : kvs[i]? with
      | none => rw [ek] at f1; cases f1
      | some kv =>
        obtain ⟨c, w⟩ := kv
        rw [ek] at f1 f2
        cases f1
        cases f2
        obtain ⟨dw, e2, rd⟩ := rk.at' ek
        obtain ⟨F3, g3, h3, o3, r3⟩ := lay_pair hd ow hT (r_key c) (rd.mono ee)
        refine ⟨F3, _, ?_, g3, h3, o3, r3⟩
        unfold pairsD
        rw [List.getElem?_map, e2]
        rfl
end
end DL
namespace DL
open PySem PySem.Spec PyProof.Rows L2
section
variable {X : Cx} {CX : CXT} {k : Nat} {f C : Addr} {fd : FuncData} {ps : List Str} {sp : Sp} {E : XK}
def rRepS : R2 := fun x y H Q => ∃ (c n : Nat), x = .str ⟨#[c]⟩ ∧ y = .int (n : Nat) ∧ 1 < n ∧ n ≤ 1000 ∧ Q (.str ⟨(List.replicate n c).toArray⟩) H
theorem rep_fold (c : Nat) : ∀ (n : Nat) (acc : Array Nat), (List.replicate n #[c]).foldl (· ++ ·) acc = acc ++ (List.replicate n c).toArray
  | 0, acc => by simp
  | n + 1, acc => by
    rw [List.replicate_succ, List.foldl_cons, rep_fold c n, List.replicate_succ]
    apply Array.ext'
    simp
theorem op_repS : OpR X (binaryOp .Mult) rRepS := by
  intro pins s σ H x y v u Q I rx ry h
  obtain ⟨c, n, rfl, rfl, h1, h2, q⟩ := h
  obtain ⟨t, rfl⟩ := rx
  obtain ⟨t', rfl⟩ := ry
  have hz : n ≤ sizeLine := Nat.le_trans h2 (by decide)
  refine PySem.P.mul_str ?_ ?_ ?_ ?_
  · rw [decide_eq_false (by omega), decide_eq_false (by omega)]; rfl
  · intro _ _ hh
    have e1 : ((⟨#[c]⟩ : Str).length : Int) = 1 := rfl
    rw [e1] at hh
    have : (1 : Int) ≤ (2 ^ 63 - 1) / (n : Int) := by
      rw [Int.le_ediv_iff_mul_le (by omega)]
      omega
    omega
  · intro _ _
    have e1 : (⟨#[c]⟩ : Str).length = 1 := rfl
    rw [e1, Nat.one_mul, Int.toNat_natCast]
    unfold Builtin.Str.tooLong
    simp
    omega
  · rw [if_neg (by omega), if_neg (by
      have : ((n : Int) == 1) = false := by rw [beq_eq_false_iff_ne]; omega
      rw [this]
      exact fun z => by cases z)]
    rw [Int.toNat_natCast, rep_fold c n #[], Array.empty_append]
    refine ⟨by show (List.replicate n c).toArray.size ≤ sizeLine; simpa using hz, ?_⟩
    exact ⟨.str _, H, I.tok _, ⟨_, rfl⟩, q⟩
end
section
variable {χ : Xk} {L : List Addr} {as : List Addr} {ρ : DSt} {O : List D} {k : List Addr → D → List D → Prop} {ta te : TE} {t : TA} {d d1 d2 : D} {KK : PySem.W.Frag}
theorem rv_repS {c n : Nat} (h1 : 1 < n) (h2 : n ≤ 1000) (z : k as (.str ⟨(List.replicate n c).toArray⟩) O) : rv rRepS L as O (.str ⟨#[c]⟩) (.int (n : Nat)) k := fun F H x y hd ow r1 r2 Q q => by
  cases r1
  cases r2
  exact ⟨c, n, rfl, rfl, h1, h2, q F H as O _ _ (.refl ..) hd ow (.str _) z⟩
def rm (r : V → List V → Hp → VK → Prop) (L as : List Addr) (O : List D) (d : D) (ds : List D) (k : List Addr → D → List D → Prop) : Prop :=
  ∀ F H x vs, Hd L F H → Own F H as O → R F x d → Rs F vs ds → ∀ Q : VK, (∀ F' H' as' O' v d, Go as F H as' F' H' → Hd L F' H' → Own F' H' as' O' → R F' v d → k as' d O' → Q v H') → r x vs H Q
theorem w_bmR {T : String} {r : V → List V → Hp → VK → Prop} (h : dE χ ta L as ρ O fun as1 d O1 => (∃ ds, lstR as1 O1 KK d ds) ∧ T = "list" ∧ dA χ t L as1 ρ O1 fun as2 ds O2 => rm r L as2 O2 d ds k) : dE χ (tBM KK T r ta t) L as ρ O k := fun F H σ S x Q q =>
  h F H σ S x _ fun F1 H1 as1 O1 v d g1 S1 r1 ⟨⟨ds, hl⟩, eT, z1⟩ => by
    subst eT
    obtain ⟨a, xs, rfl, s, r'⟩ := lr_at S1.hd S1.own r1 hl
    refine ⟨.inl ⟨rfl, _, s⟩, z1 F1 H1 σ S1 (x.go g1) _ fun F2 H2 as2 O2 vs ds g2 S2 r2 z2 => ?_⟩
    exact z2 F2 H2 _ vs S2.hd S2.own (r1.mono g2.ex) r2 _ fun F3 H3 as3 O3 v d g3 hd ow r3 z3 => q F3 H3 as3 O3 v d (g1.trans (g2.trans g3)) ⟨hd, ow, S2.sl.mono g3.ex⟩ r3 z3
end
end DL
namespace DL
open PySem PySem.Spec PyProof.Rows L2
def Kp (as : List Addr) (O : List D) (as2 : List Addr) (O2 : List D) : Prop := ∀ (j : Nat) (a : Addr) (o : HO) (kds : List (Key × D)), as[j]? = some a → O[j]? = some (.fz o kds) → as2[j]? = some a ∧ O2[j]? = some (.fz o kds)
theorem Kp.refl {as : List Addr} {O : List D} : Kp as O as O := fun _ _ _ _ h1 h2 => ⟨h1, h2⟩
section
variable {χ : Xk} {L as : List Addr} {ρ : DSt} {O : List D} {K : Kt} {k : List Addr → D → List D → Prop} {kI : List Addr → List D → List D → Prop} {td te : TE} {tt : TT} {ts tw : TS} {g : TG}
theorem Own.fz {F H : Hp} {j : Nat} {a : Addr} {o : HO} {kds : List (Key × D)} (ow : Own F H as O) (e1 : as[j]? = some a) (e2 : O[j]? = some (.fz o kds)) : ∃ od kvs, o = .frz od (.dK kvs) ∧ H a = some o ∧ Rk F kvs kds := by
  obtain ⟨_, o', e, c⟩ := ow.at_ j a _ e1 e2
  cases c with
  | fz r => exact ⟨_, _, rfl, e, r⟩
theorem Own.dk {F H : Hp} {j : Nat} {a : Addr} {kds : List (Key × D)} (ow : Own F H as O) (e1 : as[j]? = some a) (e2 : O[j]? = some (.dk kds)) : ∃ kvs, H a = some (.dK kvs) ∧ Rk F kvs kds := by
  obtain ⟨_, o', e, c⟩ := ow.at_ j a _ e1 e2
  cases c with
  | dk r => exact ⟨_, e, r⟩
end
end DL
namespace DL
open PySem PySem.Spec PyProof.Rows L2
theorem Rk.vals {F : Hp} : ∀ {kvs : List (Key × V)} {kds : List (Key × D)}, Rk F kvs kds → Rs F (kvs.map (·.2)) (kds.map (·.2))
  | _, _, .nil => .nil
  | _, _, .cons r t => .cons r (Rk.vals t)
section
variable {χ : Xk} {L : List Addr} {as : List Addr} {ρ : DSt} {O : List D} {k : List Addr → D → List D → Prop} {kA : List Addr → List D → List D → Prop} {td te ta tb : TE} {t : TA} {d d1 d2 : D} {KK : PySem.W.Frag}
theorem Rs.eraseIdx {F : Hp} : ∀ {xs : List V} {ds : List D} (n : Nat), Rs F xs ds → Rs F (xs.eraseIdx n) (ds.eraseIdx n)
  | _, _, _, .nil => .nil
  | _, _, 0, .cons r t => t
  | _, _, n + 1, .cons r t => .cons r (Rs.eraseIdx n t)
end
structure StatOf (K : PySem.W.Frag) (C : Addr) (m : Str) (p f : Addr) : Prop where
  pg : PySem.W.plainGet K C m = true
  hd : PySem.W.hasDictIn K C = true
  at_ : PySem.W.findIn K (.ref C) m = some (some (.ref p))
  typ : PySem.W.typeIn K (.ref p) = some (.type "staticmethod")
  get : PySem.W.specialIn K (.ref p) "__get__" = some (some (.builtin "staticmethod.__get__"))
  tak : PySem.W.takesIn K (.ref p) = some false
  cop : PySem.W.copiedNames.contains m = false
  rec_ : ∃ rest, PySem.W.recIn K p "staticmethod" = some (.ref f :: rest)
  kp : PySem.W.keepIn K (.ref f) = true
section
variable {X : Cx} {CX : CXT} {k : Nat} {f C p : Addr} {m : Str} {fd : FuncData} {ps : List Str} {sp : Sp} {E : XK} {o e : Expr} {es : List Expr} {apos pos : Pos} {ta : TE} {t : TA}
structure ItemOf (K : PySem.W.Frag) (C : Addr) (m : Str) (f : Addr) : Prop where
  at_ : PySem.W.findIn K (.ref C) m = some (some (.ref f))
  fn : PySem.W.isFn K (.ref f) = true
  sq : PySem.W.noSeq K C = true
end
end DL
namespace DLS
open PySem PySem.Spec PyProof.Rows L2 NdefX
structure SupF (P : Program) (K : PySem.W.Frag) (D f cc cda : Addr) (name qual : Str) (params : Arguments) (body : List Stmt) (scope : Scope) (fd : FuncData) : Prop where
  fn : ∃ oc od dV kV doc pm an ct osl, fd = PySem.W.ksFn name qual params body scope dV kV doc pm an (.ref cda) ct cc ∧ K.lookup f = some ⟨oc, od, .func fd, osl⟩
  code : PySem.W.codeIn K (.ref cda) qual = true
  file : ∃ ccl cdd vs ccs file tf, K.lookup cda = some ⟨ccl, cdd, .fields vs, ccs⟩ ∧ vs[2]? = some (.str file tf) ∧ ((P.main.file : Str) == file) = true
  cell : ∃ cl cld csl, K.lookup cc = some ⟨cl, cld, .cell (some (.ref D)), csl⟩
  cls : (PySem.W.clsIn K D).isSome = true
  top : (P.main.scope.names.lookup ("super" : Str)).isSome = false
  opq : PySem.W.nsIn K PySem.cStatics "thirdparty.any" = some none
structure SupC (K : PySem.W.Frag) (C D : Addr) : Prop where
  sup : PySem.W.ks_superIn K C D "__init__" = some (some (.builtin "ValueError.__init__"))
  ve : PySem.W.subIn K (.ref C) (.type "ValueError") = some true
  mro : PySem.W.mroIn K C (.ref D) = some true
def tSup (K : PySem.W.Frag) (D : Addr) (ta : TA) (t : TS) : TS := fun E σ H => ∃ (a C : Addr), σ[0]? = some (some (.ref a)) ∧ OexC K C ∧ SupC K C D ∧ H a = some (exo a C none) ∧
  ta σ H fun vs H1 => vs.length ≤ 1000 ∧ H1 a = some (exo a C none) ∧ t E σ H1
section
variable {X : Cx} {pins : List (Addr × Obj)} {σ : L2.St} {H : Hp} {s : Shared} {A : Around} {E : Value → Shared → Prop}
theorem call_mw {a C u : Addr} {us : List Value} {Q : Value → Shared → Prop} (T : OexC X.K C) (I : Inv X pins σ H s) (e : H a = some (exo a C none)) (hu : s.heap.get? u = some (PySem.W.kxs_mw "ValueError.__init__" a)) (hl : us.length ≤ sizeLine)
    (h : ∀ s', Inv X pins σ H s' → Q .none s') : wpAny (model X.prog X.w) A (call (.ref u) us) Q E s := by
  obtain ⟨nm, q, N, bs, bm, sn, sub, ab, col, dd, k0, k1, k2, k3, k5, hC, hbm⟩ := T.cls
  obtain ⟨t1, ho⟩ := exo_at I.hok e
  obtain ⟨hp, g, d, t, os⟩ := s
  refine wpAny_call (codeAny_of_tree ?_)
  show wpAny _ A.in1 (callAny (.ref u) ⟨us, []⟩) _ _ _
  simp only [callAny]
  refine wpAny_bind (wpAny_load hu ?_)
  simp only [PySem.W.kxs_mw, show (Value.type "method-wrapper" == Value.type "method" || Value.type "method-wrapper" == Value.type "builtin_function_or_method" || Value.type "method-wrapper" == Value.type "method-wrapper") = true by decide, if_true]
  refine PySem.W.KFB.if_so (by decide) ?_
  refine wpAny_bind (ESX.check_bound F.excBase_ValueError (I.kIn _ _ hC) ho rfl ?_)
  refine wpAny_bind (wpAny_pure (wpAny_pure ?_))
  refine ⟨Code.quiet_builtin _ (by decide +kernel), codeAny_builtin F.excBase_ValueError.initEntry ?_⟩
  rw [Around.under_plainId F.excBase_ValueError.init.plain _]
  have fin : ∀ h' t2, (∀ b o, b ≠ a → hp.get? b = some o → h'.get? b = some o) → h'.get? a = some ({ cls := .ref C, dict := none, data := .fields #[.ref t2, .none, .none, .none, .bool false, .none] } : Obj) → Q .none ⟨h', g, d, t, os⟩ := fun h' t2 k hx => by
    have J := I.write (t' := t) (x := a) (e := a) (o := exo a C none) (by rw [e]; exact True.intro) (.inl rfl) k ⟨_, hx⟩ (exo_ok hx)
    have eu : upd H a (exo a C none) = H := by
      funext b
      by_cases hb : b = a
      · rw [hb, upd_same, e]
      · rw [upd_ne hb]
    rw [eu] at J
    exact h _ J
  wp_walk
  refine fin _ hp.objs.size (fun b o hb ho => ?_) ?_
  · rw [Heap.get?_update_other _ _ (Ne.symm hb)]
    exact Heap.get?_push_of_some _ ho
  · rw [Heap.get?_update_self _ (Heap.get?_push_of_some _ ho) rfl]
    rfl
theorem callwith_mw {i : String} {x u : Addr} {pos : Pos} {env : Env} {e : Expr} {rest : List Expr} {M : Model} {Q : Value → Shared → Prop}
    (h : wpAny M A (spliced (backTo pos (starEach (e :: rest) env))) (fun vs s₁ => s₁.heap.get? u = some (PySem.W.kxs_mw i x) ∧ wpAny M A (call (.ref u) vs) Q E s₁) E s)
    (he : starEach (e :: rest) env = (false, eval e env) :: starEach rest env := by rfl) (hplain : (backTo pos (starEach rest env)).any (·.1) = false := by rfl) :
    wpAny M A (callWith pos (.ref u) [] (backTo pos (starEach (e :: rest) env)) []) Q E s := by
  rw [he] at h ⊢
  refine PySem.W.kxs_callWith (i := i) (x := x) (by show (false || (backTo pos (starEach rest env)).any (·.1)) = false; rw [hplain]; rfl) ?_
  exact Calls.evalArgs_plain h
end
section
variable {CX : CXT} {P : Program} {w : World} {K : PySem.W.Frag} {mg : Str → Option Value} {base : Heap} {D f cc cda : Addr} {name qual x0 : Str} {params : Arguments} {rest : List Stmt} {scope : Scope} {fd : FuncData} {N ps : List Str} {k : Nat} {sp : Sp} {e : Expr} {es : List Expr} {p0 p1 p2 p3 p4 : Pos}
abbrev supS (e : Expr) (es : List Expr) (p0 p1 p2 p3 p4 : Pos) : Stmt := .Expr (.Call (.Attribute (.Call (.Name "super" p0) [] [] p1) "__init__" p2) (e :: es) [] p3) p4
theorem fn_super (F : SupF P K D f cc cda name qual params (supS e es p0 p1 p2 p3 p4 :: rest) scope fd) (S : NScope N (x0 :: ps) ["__class__"] scope) (hp : ∃ ar, (params.posonlyargs ++ params.args).head? = some ar ∧ ar.arg = x0)
    (hks : scope.names.lookup ("super" : Str) = some .globalImplicit) (hsup : mg "super" = none) (len : ∀ vs H Q E, sp vs H Q E → vs.length = (x0 :: ps).length)
    {pl : Env → Sem Bool} (hev : ∀ env : Env, eval (.Call (.Attribute (.Call (.Name "super" p0) [] [] p1) "__init__" p2) (e :: es) [] p3) env = (do
      let ov ← attributeBase (.Call (.Name "super" p0) [] [] p1) "__init__" env (eval (.Call (.Name "super" p0) [] [] p1) env)
      standAt p2.atName
      let (f, first) ← holding [ov] (getMethod ov "__init__" (pl env))
      callWith p3 f first (backTo p3 (starEach (e :: es) env)) []))
    (hsw : ∀ env : Env, swapsWith (.Call (.Attribute (.Call (.Name "super" p0) [] [] p1) "__init__" p2) (e :: es) [] p3) none p4.line env = pure false)
    (hst : ∀ env : Env, starEach (e :: es) env = (false, eval e env) :: starEach es env) (hpl : ∀ env : Env, (backTo p3 (starEach es env)).any (·.1) = false)
    (hbody : ∀ (A : Around) (outer : List Env) (s : Shared) (H : Hp) (vs : List V) (Q : VK) (E : XK), Room k (A.deeper (envF ⟨name, qual, params, supS e es p0 p1 p2 p3 p4 :: rest, scope, [("__class__", cc)], cda⟩ f s.heap.objs.size)) → sp vs H Q E →
      ∃ ta t, PA (ncx CX P w K mg base N ⟨name, qual, params, supS e es p0 p1 p2 p3 p4 :: rest, scope, [("__class__", cc)], cda⟩ f A outer s H E) (e :: es) ta ∧
        PSs (ncx CX P w K mg base N ⟨name, qual, params, supS e es p0 p1 p2 p3 p4 :: rest, scope, [("__class__", cc)], cda⟩ f A outer s H E) rest t ∧
        tSup K D ta t { nx := fun _ H' => Q .non H', rt := Q } (startF N vs [some (.ref D)]) H) : FnOk P w K mg base CX (k + 1) f fd (x0 :: ps) sp := by
  refine ⟨len, fun A outer s H args us vs Q E hr e0 hb r hsp => ?_⟩
  obtain ⟨oc, od, dV, kV, doc, pm, an, ct, osl, rfl, lk⟩ := F.fn
  obtain ⟨cl, cld, csl, hcell⟩ := F.cell
  obtain ⟨ccl, cdd, vsC, ccs, file, tf, hcode, hvs, hfile⟩ := F.file
  obtain ⟨ar, hp, har⟩ := hp
  have hl := len _ _ _ _ hsp
  have KX : K.In s.heap := e0.mod.kin.keeps fun b o e => (e0.bs b o e).1
  have lim : s.heap.NoLimit := e0.mod.nolimit.keeps fun b o e => (e0.bs b o e).1
  refine PySem.ks_codeAny_call_defAt (body := supS e es p0 p1 p2 p3 p4 :: rest) (binds := (x0 :: ps).zip us) hr.depth (KX _ _ lk) rfl lim (PySem.W.codeRec_of KX F.code) rfl hb S.nocell (fun ⟨n, _⟩ hy => S.par n (List.of_mem_zip hy).1) (fun h₁ hns kp => ?_) S.co S.gen S.kind
  obtain ⟨ta, t, hta, ht, q⟩ := hbody A outer s H vs Q E (hr.deeper _) hsp
  generalize hNF : (⟨name, qual, params, supS e es p0 p1 p2 p3 p4 :: rest, scope, [("__class__", cc)], cda⟩ : NF) = NF at hta ht
  have hcc : H cc = none := (e0.bs cc _ (e0.mod.kin _ _ hcell)).2
  have C : CellsAt NF.cl ["__class__"] [some (.ref D)] s.heap H := by
    subst hNF
    refine ⟨rfl, fun y c h => ?_, fun x y c h1 h2 => ?_, fun i y h => ?_⟩
    · have h : [(("__class__" : Str), cc)].lookup y = some c := h
      rw [List.lookup_cons] at h
      cases z : y == ("__class__" : Str) with
      | true => rw [z] at h; cases h; exact ⟨hcc, _, _, KX _ _ hcell, rfl⟩
      | false => rw [z] at h; cases h
    · have h1 : [(("__class__" : Str), cc)].lookup x = some c := h1
      have h2 : [(("__class__" : Str), cc)].lookup y = some c := h2
      rw [List.lookup_cons] at h1 h2
      cases z : x == ("__class__" : Str) with
      | false => rw [z] at h1; cases h1
      | true =>
        cases z2 : y == ("__class__" : Str) with
        | false => rw [z2] at h2; cases h2
        | true => rw [eq_of_beq z, eq_of_beq z2]
    · cases i with
      | zero =>
        simp at h
        subst h
        refine ⟨cc, by rfl, fun v hv => ?_⟩
        simp at hv
        subst hv
        exact ⟨.ref D, rfl, _, KX _ _ hcell, rfl⟩
      | succ i => simp at h
  have hscope : NF.scope = scope := by rw [← hNF]
  have I : Inv (ncx CX P w K mg base N NF f A outer s H E) [] (startF N vs [some (.ref D)]) H { s with heap := h₁, toks := s.toks + ((x0 :: ps).zip us).length } := inv_startN (by rw [hscope]; exact S) hr.hd e0 hl r C hns kp
  obtain ⟨a, C', h0, T, TC, ha, q⟩ := q
  have kin1 := I.kIn
  have henv : (ncx CX P w K mg base N NF f A outer s H E).env = PySem.W.ksEnv qual scope s.heap.objs.size f (.ref cda) cc := by subst hNF; rfl
  have hxe : (ncx CX P w K mg base N NF f A outer s H E).xe = fun e s' => wpAny (model P w) (A.deeper (PySem.W.ksEnv qual scope s.heap.objs.size f (.ref cda) cc)) (leaving (PySem.W.ksEnv qual scope s.heap.objs.size f (.ref cda) cc) e) (fun _ s'' => CX outer H s E e s'') (fun e' s'' => CX outer H s E e' s'') s' := by subst hNF; rfl
  have hA : (ncx CX P w K mg base N NF f A outer s H E).A = A.deeper (PySem.W.ksEnv qual scope s.heap.objs.size f (.ref cda) cc) := by subst hNF; rfl
  obtain ⟨m, hnsm, hlook⟩ := I.loc
  have hN0 : N[0]? = some x0 := by
    have := S.pre
    have e1 : (N.take ((x0 :: ps).length + [("__class__" : Str)].length))[0]? = some x0 := by rw [this]; rfl
    rw [List.getElem?_take_of_lt (by simp)] at e1
    exact e1
  have hx0 : scope.names.lookup x0 = some .local := S.par x0 List.mem_cons_self
  obtain ⟨u0, ru0, lk0⟩ := hlook 0 x0 (.ref a) hN0 h0 (by left; show NF.scope.names.lookup x0 = _; rw [hscope]; exact hx0)
  obtain rfl : u0 = Value.ref a := ru0
  have hm0 : m x0 = some (.ref a) := by
    rcases lk0 with ⟨_, z⟩ | ⟨z, _⟩
    · exact z
    · exfalso
      have z : NF.scope.names.lookup x0 = some .cell ∨ NF.scope.names.lookup x0 = some .free := z
      rw [hscope, hx0] at z
      rcases z with z | z <;> cases z
  obtain ⟨cdD, hD⟩ := Option.isSome_iff_exists.mp F.cls
  obtain ⟨oD, hD1, hD2⟩ : ∃ oD, h₁.get? D = some oD ∧ oD.data = .cls cdD := by
    unfold PySem.W.clsIn at hD
    split at hD
    · rename_i c d cd' sl ho
      cases hD
      exact ⟨_, kin1 _ _ ho, rfl⟩
    · cases hD
  obtain ⟨mb, hb1, hb2⟩ := I.mod.blt
  obtain ⟨t1, hoa⟩ := exo_at I.hok ha
  have IA : PySem.W.InstAt h₁ a { cls := .ref C', dict := none, data := .fields #[.ref t1, .none, .none, .none, .bool false, .none] } C' none := ⟨hoa, rfl, rfl, trivial⟩
  have hint : interactive (PySem.W.ksEnv qual scope s.heap.objs.size f (.ref cda) cc) = false := by have := I.quiet; rw [henv] at this; exact this
  have hboot : bootBuiltins "super" = some (.type "super") := by decide +kernel
  refine ks_wpAt_execs_cons (ks_wpAt_Expr_any (ks_wpAt_MethodCall (pl := pl _) ?_ (hev _)) hint (hsw _))
  refine ks_wpAt_super_base (env := PySem.W.ksEnv qual scope s.heap.objs.size f (.ref cda) cc) hks (S.frk _ List.mem_cons_self) rfl rfl (kin1 _ _ lk) rfl hp rfl (kin1 _ _ hcode) rfl hvs hfile F.top ?_
  refine PySem.W.ks_loadName_global S.kind hks (Calls.loadGlobal_builtin (env := PySem.W.ksEnv qual scope s.heap.objs.size f (.ref cda) cc) (I.mod.glob.keeps I.bk) hsup (hb1.keeps I.bk) ((hb2 _ (by decide)).trans hboot) ⟨rfl, ?_⟩)
  refine wpAny_loadName_free S.kind (S.frk _ List.mem_cons_self) rfl ⟨_, kin1 _ _ hcell, rfl⟩ ?_
  rw [har]
  refine wpAny_loadName_local S.kind hx0 (by have := hnsm; rw [henv] at this; exact this) hm0 ?_
  refine ks_wpAny_isType_cls hD1 hD2 ⟨rfl, ?_⟩
  refine ks_wpAny_call_super hD1 hD2 hoa rfl (fun c e => by cases e) (PySem.W.looks_mroIn kin1 TC.mro) (fun h2 hso k2 => ?_)
  have I2 : Inv (ncx CX P w K mg base N NF f A outer s H E) [] (startF N vs [some (.ref D)]) H { s with heap := h2, toks := s.toks + ((x0 :: ps).zip us).length } := I.kept (t' := s.toks + ((x0 :: ps).zip us).length) k2
  have kin2 := I2.kIn
  have IA2 : PySem.W.InstAt h2 a { cls := .ref C', dict := none, data := .fields #[.ref t1, .none, .none, .none, .bool false, .none] } C' none := ⟨k2 _ _ hoa, rfl, rfl, trivial⟩
  obtain ⟨cdC, hC⟩ : ∃ cd, PySem.W.clsIn K C' = some cd := by
    have := TC.sup
    unfold PySem.W.ks_superIn at this
    cases z : PySem.W.clsIn K C' with
    | none => rw [z] at this; cases this
    | some cd => exact ⟨cd, rfl⟩
  have hsupC := TC.sup
  unfold PySem.W.ks_superIn at hsupC
  rw [hC] at hsupC
  refine PySem.W.kxs_getMethod PySem.W.kxs_ValueError hso (PySem.W.looks_opaque kin2 F.opq) (l₀ := cdC.mro) ?_ rfl kin2 hsupC (IA2.type.andThen (PySem.W.looks_subIn kin2 TC.ve)) (PySem.W.ks_ne kin2 IA2 hC) rfl ?_
  · exact fun A Q E s k q => wpAny_bind ((PySem.W.looks_clsIn kin2 hC) A _ E s k (wpAny_pure q))
  have I3 : Inv (ncx CX P w K mg base N NF f A outer s H E) [(h2.objs.size, PySem.W.kxs_mw "ValueError.__init__" a)] (startF N vs [some (.ref D)]) H { s with heap := h2.push (PySem.W.kxs_mw "ValueError.__init__" a), toks := s.toks + ((x0 :: ps).zip us).length + 1 } :=
    ClX.pin_new (s := { s with heap := h2, toks := s.toks + ((x0 :: ps).zip us).length }) I2 (fun _ _ z => Heap.get?_push_of_some _ z) (Nat.le_refl _) (Heap.get?_push_size h2 rfl) (fun v z => nomatch z)
  refine callwith_mw (i := "ValueError.__init__") (x := a) ?_ (hst _) (hpl _)
  have run := hta.run p3 _ _ _ _ _ I3 q
  rw [hxe, hA] at run
  rw [henv] at run
  refine wpAny_mono run (fun us2 s4 h4 => ?_) fun e s' z => z
  obtain ⟨vs4, H4, I4, r4, hl4, ha4, q4⟩ := h4
  refine ⟨ClX.pin_at I4, ?_⟩
  refine call_mw T I4 ha4 (ClX.pin_at I4) (by rw [← r4.length]; exact Nat.le_trans hl4 (by decide)) fun s5 I5 => ?_
  refine wpAt_of_wpAny ?_
  have run2 := ht.run [] s5 _ _ _ (ClX.unpin I5) q4
  rw [hxe, hA, henv] at run2
  refine wpAny_mono run2 (fun fl s' hs => ?_) fun e s' hs => hs
  have fin : ∀ {σ' : L2.St} {H' : Hp} {v : V} {u : Value}, Inv (ncx CX P w K mg base N NF f A outer s H E) [] σ' H' s' → L2.RelV v u → Q v H' → CE outer P w H s Q u s' :=
    fun {σ' H' v u} J rv q => ⟨v, H', J.os, J.bare, J.base, J.hok, rv, q⟩
  cases fl with
  | ret u =>
    obtain ⟨v, σ', H', J, rv, q⟩ := hs
    exact fin J rv q
  | next =>
    obtain ⟨σ', H', J, q⟩ := hs
    exact fin (v := V.non) (u := Value.none) J rfl q
  | brk =>
    obtain ⟨_, _, _, z⟩ := hs
    exact z.elim
  | cont =>
    obtain ⟨_, _, _, z⟩ := hs
    exact z.elim
end
end DLS
namespace DL
open PySem PySem.Spec PyProof.Rows L2 NdefX DLS
def tMakeX (W : WX) (C : Addr) (sp : Sp) (dvs : List V) (t : TA) : TE := fun σ H Q => t σ H fun vs H1 => ∀ x dx, H1 x = none → H1 dx = none → dx ≠ x →
  sp (.ref x :: (vs ++ dvs)) (upd (upd H1 dx (.own x)) x (.ins C dx [])) (fun v H2 => v = .non ∧ Q (.ref x) H2) fun cls d H' => W cls d σ H'
section
variable {X : Cx} {k : Nat} {f C : Addr} {fd : FuncData} {ps : List Str} {sp : Sp} {dvs : List V} {ds : List Value} {W : WX} {x m : Str} {p pos apos : Pos} {e o : Expr} {es : List Expr} {ta : TE} {t : TA}
theorem run_makeX {pins : List (Addr × Obj)} {σ : L2.St} {H : Hp} {s : Shared} {Q : VK} {us : List Value} {vs : List V} (M : Mk X.K C f) (F : FnOk X.prog X.w X.K X.mg X.base (CX X.prog X.w) k f fd ps sp) (hr : Room (k + 1) X.A) (hb : Binds X.K fd ps ds) (hd : Vals dvs ds)
    (tk : Takes X W) (I : Inv X pins σ H s) (r : Vals vs us)
    (h : ∀ x dx, H x = none → H dx = none → dx ≠ x → sp (.ref x :: (vs ++ dvs)) (upd (upd H dx (.own x)) x (.ins C dx [])) (fun v H2 => v = .non ∧ Q (.ref x) H2) fun cls d H' => W cls d σ H') :
    wpAny (model X.prog X.w) X.A (call (.ref C) us) (EP X pins σ Q) X.xe s := by
  have hq := h (s.heap.objs.size + 1) s.heap.objs.size (I.hok.fresh (Nat.le_succ _)) (I.hok.fresh (Nat.le_refl _)) (Nat.ne_of_lt (Nat.lt_succ_self _))
  have I2 := Inv.made (C := C) I
  have r2 : Vals (V.ref (s.heap.objs.size + 1) :: (vs ++ dvs)) (Value.ref (s.heap.objs.size + 1) :: (us ++ ds)) := .cons rfl (r.append hd)
  have hl : (Value.ref (s.heap.objs.size + 1) :: us ++ ds).length = ps.length := by
    have e := r2.length
    rw [F.len _ _ _ _ hq] at e
    exact e.symm
  refine wpAny_call (make_map (f := f) I.kIn M.makes M.init (beq_iff_eq.mp M.fn) (codeAny_mono (F.run _ X.stack _ _ ⟨Value.ref (s.heap.objs.size + 1) :: us, []⟩ (Value.ref (s.heap.objs.size + 1) :: (us ++ ds)) _ _ _ (hr.make C us [])
    (I2.env0.make C us []) (hb _ (Value.ref (s.heap.objs.size + 1) :: us) I2.kIn hl) r2 hq) fun r s' hq' => ?_))
  cases r with
  | error e => exact tk _ _ (XE.of_call I2 (fun _ _ _ z => z) hq')
  | ok fl =>
    cases fl with
    | ret u =>
      obtain ⟨v, H', I3, rv, ev, q3⟩ := I2.after hq'
      subst ev
      exact ⟨rv, ⟨V.ref (s.heap.objs.size + 1), H', I3, rfl, q3⟩⟩
    | next => exact False.elim hq'
    | brk => exact False.elim hq'
    | cont => exact False.elim hq'
theorem pe_makeX (M : Mk X.K C f) (F : FnOk X.prog X.w X.K X.mg X.base (CX X.prog X.w) k f fd ps sp) (hr : Room (k + 1) X.A) (hg : Gl X x) (hm : X.mg x = some (.ref C)) (hb : Binds X.K fd ps ds) (hd : Vals dvs ds) (tk : Takes X W)
    (ha : PA X (e :: es) t) (hdb : (x == ("__debug__" : Str)) = false := by decide) (he : starEach (e :: es) X.env = (false, eval e X.env) :: starEach es X.env := by rfl) (hpl : (backTo pos (starEach es X.env)).any (·.1) = false := by rfl) :
    PE X (.Call (.Name x p) (e :: es) [] pos) (tMakeX W C sp dvs t) := by
  refine ⟨fun pins s σ H Q I h => ?_⟩
  refine wpAny_Call_Name_kw (ld_glob I hg hm ?_ hdb)
  refine PySem.W.callWith_K (h₀ := X.base) I.ok.mod.kin M.kp (thn (ha.run pos pins s σ H _ I h) fun us s1 ⟨vs, H1, I1, r, q⟩ => ⟨I1.kIn, ?_⟩) he hpl
  exact run_makeX M F hr hb hd tk I1 r q
theorem passN : Passes (CX X.prog X.w) X (fun _ _ _ => False) := fun pins σ H s e s' I c => by
  obtain ⟨_, _, _, _, _, _, _, _, _, _, _, _, z⟩ := c
  exact z.elim
end
theorem takesN {X : Cx} : Takes X (fun _ _ _ _ => False) := fun _ _ ⟨_, _, _, _, _, _, _, _, _, _, _, _, _, _, _, _, w⟩ => w.elim
theorem kin_classX {prog : Program} {w : World} {A : Around} {E : Value → Shared → Prop} {s : Shared} {K : PySem.W.Frag} {x D : Addr} {ox : Obj} {od : Option Obj} {Q : Option Value → Shared → Prop} (T : ExcC K D) (X : K.In s.heap) (I : PySem.W.InstAt s.heap x ox D od) (h : Q (some (.ref D)) { s with toks := s.toks + 1 }) :
    wpAny (model prog w) A (getAttr? (.ref x) "__class__") Q E s := by
  have hf : PySem.W.findObj K D od "__class__" = some (.bind (.builtin "getset_descriptor.__get__") (.builtin "object.__class__")) := by
    obtain ⟨cd, hc, _⟩ := PySem.W.any_some T.hd
    unfold PySem.W.findObj
    rw [hc, Option.bind_some, T.ha, Option.bind_some]
    simp [T.hn, T.ht]
  obtain ⟨hp, g, d, t, os⟩ := s
  have L0 := I.type (M := model prog w)
  have L1 := PySem.W.looks_findIn (M := model prog w) X T.hg
  have L2 := PySem.W.looks_findIn (M := model prog w) X T.hk
  have L3 := PySem.W.looks_find (M := model prog w) X I hf
  have sub : PySem.W.Looks (model prog w) hp (isInstance (.ref x) (.type "BaseException")) true := L0.andThen (PySem.W.looks_subIn X T.hs)
  have hx0 : (false && onTheHeap (Value.builtin "BaseException.__getattribute__")) = false := rfl
  have hx2 : (Value.builtin "BaseException.__getattribute__" == Value.builtin "object.__getattribute__") = false := by decide +kernel
  have hx1 : (onTheHeap (Value.ref D) && Value.builtin "BaseException.__getattribute__" == Value.builtin "object.__getattribute__") = false := by rw [hx2]; rfl
  unfold getAttr? getAttrBy? getAttrBy
  refine wpAny_bind (wpAny_mkText (wpAny_bind (wpAny_attempt (wpAny_holding (wpAny_bind (L0.at (wpAny_bind (L1.at ?_))))))))
  show wpAny _ _ (if (onTheHeap (Value.ref D) && Value.builtin "BaseException.__getattribute__" == Value.builtin "object.__getattribute__") = true then _ else _) _ _ _
  rw [hx1, if_neg Bool.false_ne_true]
  unfold getAttrByItsOwn hookBefore
  refine wpAny_bind ?_
  rw [if_pos (show onTheHeap (Value.ref D) = true from rfl)]
  refine L2.at ?_
  refine wpAny_bind (wpAny_attempt (wpAny_holding ?_))
  unfold callGetattribute
  rw [hx0, if_neg Bool.false_ne_true]
  unfold boundAndCalled
  rw [PySem.F.excAttr_ValueError.ga.bind (.ref x)]
  refine wpAny_bind (wpAny_pure ?_)
  show wpAny _ _ (call (.builtin "BaseException.__getattribute__") [.ref x, .str "__class__" t]) _ _ _
  refine wpAny_call (codeAny_call_builtin PySem.F.excAttr_ValueError.ga.plain PySem.F.entry_bexc_ga ?_)
  refine @PySem.W.check_slot (model prog w) _ _ ⟨hp, g, d, t + 1, os⟩ "BaseException.__getattribute__" "BaseException" "__getattribute__" (.ref x) [.str "__class__" t] [] _ (by decide +kernel) (by decide +kernel) sub (PySem.F.args_bexc_ga (.ref x) (.str "__class__" t)) ?_
  unfold Builtin.«object.__getattribute__»
  refine wpAny_bind (wpAny_of_eq (a := ((Value.ref x : Value), [Value.str "__class__" t])) (by first | rfl | (simp only [slotArgs]; rfl)) ?_)
  refine wpAny_bind (wpAny_pure (wpAny_bind (L0.at (wpAny_bind (L3.at ?_)))))
  show wpAny _ _ (holding [Value.builtin "object.__class__"] (call (.builtin "getset_descriptor.__get__") [.builtin "object.__class__", .ref x, .ref D]) >>= ret) _ _ _
  refine wpAny_bind (wpAny_holding (wpAny_call (PySem.W.class_get (s := ⟨hp, g, d, t + 1, os⟩) (ox := ox) (od := od) X I T.hm ?_)))
  refine wpAny_pure ?_
  show wpAny _ _ (handedOut (.ref D)) _ _ _
  rw [PySem.W.handedOut_of (v := .ref D) rfl]
  first
    | exact wpAny_pure (wpAny_pure h)
    | exact wpAny_pure h
    | exact wpAny_pure (wpAny_bind (wpAny_pure (wpAny_pure h)))
theorem kitx_excX {K : PySem.W.Frag} {x D : Addr} {ox : Obj} {od : Option Obj} (T : ExcC K D) : PySem.W.KitX K (.ref x) (.ref D) (fun h => PySem.W.InstAt h x ox D od) where
  ty := fun _ _ _ I => I.type
  it := fun _ _ X _ => by
    obtain ⟨cdD, hcD, _⟩ := PySem.W.any_some T.hd
    unfold PySem.W.clsIn at hcD
    split at hcD
    · rename_i c' d' cd' sl' ho
      intro A' Q' E' s' k q
      unfold isType loadHead
      exact wpAny_bind (wpAny_loadPart (k _ _ (X _ _ ho)) (wpAny_pure q))
    · cases hcD
  ne := fun h tp dd its n sl X htp => by
    obtain ⟨cdD, hcD, _⟩ := PySem.W.any_some T.hd
    refine Bool.eq_false_iff.mpr fun q => ?_
    have e : D = tp := Value.ref.inj (beq_iff_eq.mp q)
    subst e
    unfold PySem.W.clsIn at hcD
    split at hcD
    · rename_i c' d' cd' sl' ho
      have z := (X _ _ ho).symm.trans htp
      cases z
    · cases hcD
  ca := fun X I k => kin_classX T X I k
def rIsX (K : PySem.W.Frag) (a : Addr) (cls : Value) (d : Option Addr) : List V → Hp → VK → Prop := fun xs H Q => ∃ C, cls = .ref C ∧ ExcC K C ∧ (∀ dd, d = some dd → ∃ fs, H dd = some (.xd fs)) ∧
  ((∃ (c : V) (u : Value) (b : Bool), xs = [.ref a, c] ∧ ClsV c u ∧ PySem.W.kitOne K (.ref C) u = some b ∧ Q (.bl b) H) ∨
   ∃ (tp : Addr) (cs : List V) (us : List Value) (b : Bool), xs = [.ref a, .ref tp] ∧ H tp = some (.tup cs) ∧ Paired ClsV cs us ∧ PySem.W.kitAny K (.ref C) us = some b ∧ Q (.bl b) H)
theorem call_isX {X : Cx} {a : Addr} {oe : Obj} {cls : Value} {d : Option Addr} {pn : List (Addr × Obj)} (hz : Zc cls d oe) (hf : ∃ vs, oe.data = .fields vs) : CallR (X.suite a ((a, oe) :: pn)) (.builtin "isinstance") (rIsX X.K a cls d) := by
  intro pins s σ H xs us Q I r h
  obtain ⟨C, rfl, T, hdd, h⟩ := h
  obtain ⟨ha, _⟩ := I.pin (a, oe) (List.mem_append_left _ List.mem_cons_self)
  obtain ⟨vs, hd⟩ := hf
  have J : ∃ od, PySem.W.InstAt s.heap a oe C od := by
    cases d with
    | none => exact ⟨none, ha, hz.1, by unfold PySem.W.notCls; rw [hd] <;> rfl, by rw [hz.2]; trivial⟩
    | some dd =>
      obtain ⟨fs, e⟩ := hdd dd rfl
      obtain ⟨mA, hns, _⟩ := (show ObjOk X.prog X.w H s.heap dd (.xd fs) from I.hok dd _ e)
      obtain ⟨od, ho, _⟩ := lookIn_ns hns
      exact ⟨some od, ha, hz.1, by unfold PySem.W.notCls; rw [hd] <;> rfl, by rw [hz.2]; exact ho⟩
  obtain ⟨od, J⟩ := J
  have Z := kitx_excX (x := a) (ox := oe) (od := od) T
  rcases h with ⟨c, u, b, rfl, k, e, q⟩ | ⟨tp, cs, ws, b, rfl, hT, k, e, q⟩
  · obtain ⟨u1, u2, rfl, r1, r2⟩ := vals2 r
    cases (show u1 = Value.ref a from r1)
    cases k.eq r2
    exact PySem.W.kia_one Z I.kIn J e (fun z => nomatch z) fun tk => ⟨.bl b, H, I.tok tk, rfl, q⟩
  · obtain ⟨u1, u2, rfl, r1, r2⟩ := vals2 r
    cases (show u1 = Value.ref a from r1)
    cases (show u2 = Value.ref tp from r2)
    obtain ⟨_, its, rv, o, h1, h2, n, h3⟩ := (show ObjOk X.prog X.w H s.heap tp (.tup cs) from I.hok tp _ hT)
    have e3 := ClsV.all k rv
    subst e3
    obtain ⟨oc, od', dt, sl⟩ := o
    simp only at h2 h3
    subst h2 h3
    exact PySem.W.kia_tup Z I.kIn J h1 e (fun z => nomatch z) fun tk => ⟨.bl b, H, I.tok tk, rfl, q⟩
def tTry (K : PySem.W.Frag) (c : Value) (i : Nat) (tb : WX → TS) (ts : Addr → Value → Option Addr → TS) (Wout : WX) : TS := fun D σ H => tb (wAs K c i ts Wout D) D σ H
theorem ps_tryA {X : Cx} {x n : Str} {c : Value} {i : Nat} {body suite : List Stmt} {b₀ : Stmt} {np pos pos' : Pos} {tb : WX → TS} {ts : Addr → Value → Option Addr → TS} {Wout : WX} (hs : X.stack = X.env :: X.outer) (hf : X.env.frame = some X.env.locals) (hN : X.N.Nodup) (hi : X.N[i]? = some n) (hln : X.env.kindOf n = some .local) (hc : Names X x c) (tk : Takes X Wout)
    (hb : ∀ (W : WX) (pn : List (Addr × Obj)) (xe : Value → Shared → Prop), Takes (X.tr pn xe) W → PassesOwn (model X.prog X.w) X.A X.env xe → PSs (X.tr pn xe) body (tb W))
    (hsu : ∀ (a : Addr) (oe : Obj) (cls : Value) (d : Option Addr) (pn : List (Addr × Obj)), Zc cls d oe → (∃ vs, oe.data = .fields vs) → PSs (X.suite a ((a, oe) :: pn)) (b₀ :: suite) (ts a cls d)) :
    PS X (.Try body [.ExceptHandler (some (.Name x np)) (some n) (b₀ :: suite) pos'] [] [] pos) (tTry X.K c i tb ts Wout) := ps_try_as hs hf hN hi hln hc tk hb hsu
def spI (K : PySem.W.Frag) (D : Addr) (fs : List Str) (cond : List V → Prop) : Sp := fun vs H Q _ => ∃ (a C : Addr) (ws : List V), vs = .ref a :: ws ∧ ws.length = fs.length ∧ cond ws ∧ OexC K C ∧ SupC K C D ∧ (∀ f ∈ fs, PySem.W.findIn K (.ref C) f = some none) ∧
  H a = some (exo a C none) ∧ ∀ dx, H dx = none → dx ≠ a → Q .non (upd (upd H dx (exd dx (fs.zip ws).reverse)) a (exo a C (some dx)))
theorem Rn.append {F : Hp} {gs : List (Str × V)} {gds : List (Str × D)} (q : Rn F gs gds) : ∀ {fs : List (Str × V)} {fds : List (Str × D)}, Rn F fs fds → Rn F (fs ++ gs) (fds ++ gds)
  | _, _, .nil => q
  | _, _, .cons r t => .cons r (Rn.append q t)
theorem Rn.reverse {F : Hp} : ∀ {fs : List (Str × V)} {fds : List (Str × D)}, Rn F fs fds → Rn F fs.reverse fds.reverse
  | _, _, .nil => .nil
  | _, _, .cons r t => by
    rw [List.reverse_cons, List.reverse_cons]
    exact Rn.append (.cons r .nil) (Rn.reverse t)
theorem Rs.zip {F : Hp} : ∀ {fs : List Str} {vs : List V} {ds : List D}, Rs F vs ds → Rn F (fs.zip vs) (fs.zip ds)
  | [], _, _, _ => .nil
  | _ :: _, _, _, .nil => .nil
  | _ :: _, _, _, .cons r t => .cons r (Rs.zip t)
section
variable {χ : Xk} {L : List Addr} {as : List Addr} {ρ : DSt} {O : List D} {k : List Addr → D → List D → Prop} {ta tb te : TE} {d d1 d2 : D} {KK : PySem.W.Frag}
theorem s_raise {K : Kt} {C : Addr} {fs : List Str} {cond : List V → Prop} {ta : TA} (T : OexC KK C) (TC : SupC KK C C) (hn : ∀ f ∈ fs, PySem.W.findIn KK (.ref C) f = some none) (hf : fs.length ≤ 1000)
    (h : dA χ ta L as ρ O fun as ds O => ds.length = fs.length ∧ (∀ F vs, Rs F vs ds → cond vs) ∧ χ.e L C (fs.zip ds).reverse as ρ O) : dS χ (fun _ σ H => tMkO C (spI KK C fs cond) [] ta σ H fun cls d H' => χ.E cls d σ H') L as ρ O K := fun F H σ S x Z z =>
  h F H σ S x _ fun F1 H1 as1 O1 vs ds g1 S1 r1 ⟨hl, hc, z1⟩ => by
    have hvl : vs.length = fs.length := by rw [r1.length]; exact hl
    refine ⟨by omega, fun a ha => ⟨a, C, vs, by rw [List.append_nil], hvl, hc F1 vs r1, T, TC, hn, upd_same, fun dx hdx ne => ?_⟩⟩
    rw [upd_ne ne] at hdx
    refine ⟨rfl, dx, (fs.zip vs).reverse, upd_same, by rw [upd_ne ne, upd_same], hdx, ?_⟩
    have eH : upd (del (upd (upd (upd H1 a (exo a C none)) dx (exd dx (fs.zip vs).reverse)) a (exo a C (some dx))) a) dx (.xd (fs.zip vs).reverse) = upd H1 dx (.xd (fs.zip vs).reverse) := by
      funext b
      by_cases q : b = dx
      · rw [q, upd_same, upd_same]
      · rw [upd_ne q, upd_ne q]
        by_cases q2 : b = a
        · rw [q2, del_same, ha]
        · rw [del_ne q2, upd_ne q2, upd_ne q, upd_ne q2]
    rw [eH]
    have g2 : Go as1 F1 H1 as1 F1 (upd H1 dx (.xd (fs.zip vs).reverse)) := ⟨fun _ _ h => h, fun _ _ h => .inl h, fun b o e _ => by rw [upd_ne (ne_of_none e hdx)]; exact e, fun b e => by
      by_cases z : b = dx
      · subst z; exact hdx
      · rw [upd_ne z] at e; exact e, fun _ m => .inl m⟩
    refine (x.go g1) F1 _ L as1 σ ρ O1 C (some dx) _ g2.x ⟨S1.hd.upd (S1.hd.free hdx), S1.own.keep (fun _ _ h => h) (fun b m => S1.own.free m) fun b m o e => by rw [upd_ne (ne_of_none e hdx)]; exact e, S1.sl⟩ ⟨hdx, _, upd_same, (Rs.zip r1).reverse⟩ z1
theorem w_makeW {C : Ct} {cl : Addr} {ta : TA} (js : List Nat) (h : dA χ ta L as ρ O fun as ds O => ∀ p, (js ++ [as.length]).Nodup ∧ (∀ j ∈ js, j < as.length) ∧ cc C χ ρ (js ++ [as.length]) L (as ++ [p]) (.adr p :: ds) (O ++ [.ins cl []]) fun as' d O' => d = .non ∧ k as' (.adr p) O') :
    dE χ (tMakeX χ.E cl (spC C) [] ta) L as ρ O k := fun F H σ S x Q q =>
  h F H σ S x _ fun F1 H1 as1 O1 vs ds g1 S1 r1 z1 p dx hp hdx ne => by
    rw [List.append_nil]
    obtain ⟨_, _, z1⟩ := z1 p
    have hd1 : Hd L F1 (upd H1 dx (.own p)) := S1.hd.upd (S1.hd.free hdx)
    have ow1 : Own F1 (upd H1 dx (.own p)) as1 O1 := S1.own.keep (fun _ _ h => h) (fun b m => S1.own.free m) fun b m o e => by
      rw [upd_ne (ne_of_none e hdx)]; exact e
    have hp1 : upd H1 dx (.own p) p = none := by rw [upd_ne (fun z => ne z.symm)]; exact hp
    have g2 : Go as1 F1 H1 as1 F1 (upd H1 dx (.own p)) := ⟨fun _ _ h => h, fun _ _ h => .inl h, fun b o e _ => by rw [upd_ne (ne_of_none e hdx)]; exact e, fun b e => by
      by_cases z : b = dx
      · subst z; exact hdx
      · rw [upd_ne z] at e; exact e, fun _ m => .inl m⟩
    have S2 : Rep L as1 F1 (upd H1 dx (.own p)) σ ρ O1 := ⟨hd1, ow1, S1.sl⟩
    have S3 := S2.new (o := .ins cl dx []) (d := .ins cl []) hp1 (.ins .nil)
    refine cc_sp S3 (x.go (g1.trans (g2.trans (go_new hp1)))) (.cons (.adr p) r1) z1 (fun _ _ _ z => z) fun F' H' as' O' v d g S' r' ⟨ed, z'⟩ => ?_
    subst ed
    cases r'
    exact ⟨rfl, q F' H' as' O' _ _ (g1.trans (g2.trans ((go_new hp1).trans g))) S' (.adr p) z'⟩
theorem s_try {K : Kt} {tb : WX → TS} {c : Value} {i : Nat} {ts : Addr → Value → Option Addr → TS} (e' : List Addr → Addr → List (Str × D) → List Addr → DSt → List D → Prop)
    (he : ∀ L' C fds as ρ O, e' L' C fds as ρ O → ∃ b, PySem.W.exmOne KK (.ref C) c = some b ∧
      (b = true → L' = L ∧ (fds = [] → False) ∧ ∀ a dd, dS X0 (ts a (.ref C) (some dd)) L as (ρ.set i (some (.exc a C dd fds))) O
        { nx := fun as ρ O => K.nx as (ρ.set i none) O, rt := K.rt, bk := fun as ρ O => K.bk as (ρ.set i none) O, ct := fun as ρ O => K.ct as (ρ.set i none) O }) ∧ (b = false → χ.e L' C fds as ρ O))
    (hb : ∀ W, dS ⟨W, e'⟩ (tb W) L as ρ O K) : dS χ (tTry KK c i tb ts χ.E) L as ρ O K := fun F H σ S x Z z => by
  refine hb (wAs KK c i ts χ.E Z) F H σ S (fun F' H' L' as' σ' ρ' O' cls d fds g S' xd ze => ?_) Z z
  obtain ⟨b, eb, h1, h2⟩ := he _ _ _ _ _ _ ze
  refine ⟨b, eb, fun tb' a ha => ?_, fun fb => x F' H' L' as' σ' ρ' O' cls d fds g S' xd (h2 fb)⟩
  obtain ⟨eL, ne, hs⟩ := h1 tb'
  subst eL
  cases d with
  | none => exact (ne xd).elim
  | some dd =>
    obtain ⟨n1, fs, e1, rn⟩ := xd
    have hg := g.go
    have hf' : ∀ {u}, F' dd = some u → u = .xd fs := fun {u} q => by
      rcases S'.hd.at_ dd u q with ⟨_, y⟩ | ⟨_, kvs, ob, y1, y⟩ | ⟨_, ob, xs, y1, y⟩
      · rw [e1] at y; exact (Option.some.inj y).symm
      · rw [e1] at y; cases y
      · rw [e1] at y; cases y
    have nas : dd ∉ as' := fun m => by
      obtain ⟨j, hj⟩ := List.mem_iff_getElem?.mp m
      have hl : j < O'.length := by rw [← S'.own.len]; exact (List.getElem?_eq_some_iff.mp hj).1
      obtain ⟨_, o, h3, h4⟩ := S'.own.at_ j dd _ hj (List.getElem?_eq_getElem hl)
      rw [e1] at h3
      cases h3
      cases h4
    have nL : dd ∉ L' := fun m => by
      have := S'.hd.lk dd m
      cases q : F' dd with
      | none => exact this q
      | some u =>
        have eu := hf' q
        subst eu
        rcases S'.hd.at_ dd _ q with ⟨y, _⟩ | ⟨_, _, _, y, _⟩ | ⟨_, _, _, y, _⟩
        · exact y m
        · cases y
        · cases y
    let F2 : Hp := upd F' dd (.xd fs)
    have ex2 : Ex F' F2 := fun b o q => by
      by_cases y : b = dd
      · subst y; rw [hf' q]; exact upd_same
      · show upd F' dd _ b = _
        rw [upd_ne y]; exact q
    have S2 : Rep L' as' F2 H' σ' ρ' O' := by
      refine ⟨⟨fun b o q => ?_, fun b m q => ?_⟩, S'.own.keep ex2 (fun b m => ?_) fun _ _ _ h => h, S'.sl.mono ex2⟩
      · by_cases y : b = dd
        · subst y
          have q : upd F' b (.xd fs) b = some o := q
          rw [upd_same] at q
          cases q
          exact .inl ⟨nL, e1⟩
        · have q : upd F' dd (.xd fs) b = some o := q
          rw [upd_ne y] at q
          exact S'.hd.at_ b o q
      · by_cases y : b = dd
        · subst y; exact nL m
        · have q : upd F' dd (.xd fs) b = none := q
          rw [upd_ne y] at q
          exact S'.hd.lk b m q
      · show upd F' dd (.xd fs) b = none
        rw [upd_ne (show b ≠ dd from fun y => nas (y ▸ m))]
        exact S'.own.free m
    have g2 : Go as F H as' F2 H' := ⟨fun b o q => ex2 _ _ (hg.ex _ _ q), fun b o q => by
      by_cases y : b = dd
      · subst y; exact .inr (.inl n1)
      · have q : upd F' dd (.xd fs) b = some o := q
        rw [upd_ne y] at q
        exact hg.nw b o q, hg.kp, hg.th, hg.sub⟩
    have S3 : Rep L' as' F2 H' (σ'.set i (some (.ref a))) (ρ'.set i (some (.exc a cls dd fds))) O' := ⟨S2.hd, S2.own, S2.sl.set (.exc (F := F2) (show upd F' dd (.xd fs) dd = _ from upd_same) (rn.mono ex2)) i⟩
    refine hs a dd F2 H' _ S3 xp0 _ ?_
    have zz := z.go g2
    exact ⟨fun F4 H4 as4 σ4 ρ4 O4 g4 S4 k4 => zz.nx F4 H4 as4 _ _ O4 g4 ⟨S4.hd, S4.own, S4.sl.forget i⟩ k4, zz.rt,
      fun F4 H4 as4 σ4 ρ4 O4 g4 S4 k4 => zz.bk F4 H4 as4 _ _ O4 g4 ⟨S4.hd, S4.own, S4.sl.forget i⟩ k4, fun F4 H4 as4 σ4 ρ4 O4 g4 S4 k4 => zz.ct F4 H4 as4 _ _ O4 g4 ⟨S4.hd, S4.own, S4.sl.forget i⟩ k4⟩
theorem s_x0 {K : Kt} {ts : TS} (h : dS X0 ts L as ρ O K) : dS χ ts L as ρ O K := fun F H σ S x Z z => h F H σ S xp0 Z z
theorem w_xf {a C dd : Addr} {f : Str} (h : dE χ te L as ρ O fun as d O => ∃ fds d', d = .exc a C dd fds ∧ fds.lookup f = some d' ∧ k as d' O) : dE χ (tXf a (.ref C) (some dd) C f te) L as ρ O k := fun F H σ S x Q q =>
  h F H σ S x _ fun F1 H1 as1 O1 v d g1 S1 r1 ⟨fds, d', ed, hl, z⟩ => by
    subst ed
    cases r1 with
    | @exc _ _ _ fs _ e rn =>
      obtain ⟨v, e1, r⟩ := rn.get hl
      have hd : H1 dd = some (.xd fs) := by
        rcases S1.hd.at_ _ _ e with ⟨_, y⟩ | ⟨_, _, _, y, _⟩ | ⟨_, _, _, y, _⟩
        · exact y
        · cases y
        · cases y
      exact ⟨rfl, rfl, dd, _, v, rfl, hd, e1, q F1 H1 as1 O1 v d' g1 S1 r z⟩
theorem exc_xd {F H : Hp} {v : V} {a C dd : Addr} {fds : List (Str × D)} (hd : Hd L F H) (r : R F v (.exc a C dd fds)) : v = .ref a ∧ ∃ fs, H dd = some (.xd fs) := by
  cases r with
  | exc e rn =>
    rcases hd.at_ _ _ e with ⟨_, y⟩ | ⟨_, _, _, y, _⟩ | ⟨_, _, _, y, _⟩
    · exact ⟨rfl, _, y⟩
    · cases y
    · cases y
theorem rc_isX {a C dd c : Addr} {fds : List (Str × D)} {b : Bool} (T : ExcC KK C) (hk : PySem.W.kitOne KK (.ref C) (.ref c) = some b) (z : k as (.bl b) O) : rc (rIsX KK a (.ref C) (some dd)) L as O [.exc a C dd fds, .adr c] k := fun F H xs hd ow r Q q => by
  cases r with
  | cons r1 r2 =>
    cases r2 with
    | cons r3 r4 =>
      cases r4
      cases r3
      obtain ⟨rfl, fs, y⟩ := exc_xd hd r1
      exact ⟨C, rfl, T, fun d e => by cases e; exact ⟨fs, y⟩, .inl ⟨_, _, b, rfl, .own c, hk, q F H as O _ _ (.refl ..) hd ow (.bl b) z⟩⟩
theorem rc_isXT {a C dd : Addr} {cs : List Addr} {fds : List (Str × D)} {b : Bool} (T : ExcC KK C) (hk : PySem.W.kitAny KK (.ref C) (cs.map Value.ref) = some b) (z : k as (.bl b) O) : rc (rIsX KK a (.ref C) (some dd)) L as O [.exc a C dd fds, .tup (cs.map D.adr)] k := fun F H xs hd ow r Q q => by
  cases r with
  | cons r1 r2 =>
    cases r2 with
    | cons r3 r4 =>
      cases r4
      obtain ⟨rfl, fs, y⟩ := exc_xd hd r1
      cases r3 with
      | tup e rs =>
        have main : ∀ {cs : List Addr} {xs : List V}, Rs F xs (cs.map D.adr) → Paired ClsV xs (cs.map Value.ref) := fun {cs} => by
          induction cs with
          | nil => intro xs h; cases h; exact .nil
          | cons c cs ih =>
            intro xs h
            cases h with
            | cons h1 h2 => cases h1; exact .cons (.own c) (ih h2)
        exact ⟨C, rfl, T, fun d e => by cases e; exact ⟨fs, y⟩, .inr ⟨_, _, _, b, rfl, hd.tup e, main rs, hk, q F H as O _ _ (.refl ..) hd ow (.bl b) z⟩⟩
theorem w_isXt {a C dd : Addr} {fds : List (Str × D)} {n : String} {b : Bool} (T : ExcC KK C) (hk : PySem.W.kitOne KK (.ref C) (.type n) = some b) (h : dE χ te L as ρ O fun as d O => d = .exc a C dd fds ∧ k as (.bl b) O) :
    dE χ (tCB (rIsX KK a (.ref C) (some dd)) (tCons te (tCons (tC (.ty n)) tNil))) L as ρ O k := fun F H σ S x Q q =>
  h F H σ S x _ fun F1 H1 as1 O1 v d g1 S1 r1 ⟨ed, z⟩ => by
    subst ed
    obtain ⟨rfl, fs, y⟩ := exc_xd S1.hd r1
    exact ⟨C, rfl, T, fun d e => by cases e; exact ⟨fs, y⟩, .inl ⟨_, _, b, rfl, .ty n, hk, q F1 H1 as1 O1 _ _ g1 S1 (.bl b) z⟩⟩
end
end DL
namespace DL
open PySem PySem.Spec PyProof.Rows L2 NdefX DLS
def excB1 (K : PySem.W.Frag) (C : Addr) : Bool := match K.lookup C with
  | some ⟨.type "type", _, .cls cd, sl⟩ => (match cd.mro, sl.toList with
    | .ref C' :: bm, [_, _, _, _, some (.builtin n), _] => C' == C && n == "ValueError.__new__" && !cd.hasDel && cd.hasDict && PySem.HandSPX.refsVE bm
    | _, _ => false)
  | _ => false
theorem excB1_ok {K : PySem.W.Frag} {C : Addr} (q : excB1 K C = true) : ∃ nm q N bs bm sn sub ab col dd k0 k1 k2 k3 k5, K.lookup C = some (excClassObj nm q C N bs bm true sn sub ab col dd k0 k1 k2 k3 k5 "ValueError.__new__") ∧ PySem.HandSPX.refsVE bm = true := by
  unfold excB1 at q
  split at q
  · rename_i dd cd sl ho
    split at q
    · rename_i C' bm k0 k1 k2 k3 n k5 hm hs
      simp only [Bool.and_eq_true, beq_iff_eq, Bool.not_eq_true'] at q
      obtain ⟨⟨⟨⟨rfl, rfl⟩, hdel⟩, hdic⟩, ht⟩ := q
      obtain ⟨nm, bs, mro, ns, qn, hd, sn, sub, ab, col, del⟩ := cd
      dsimp only at hm hdel hdic
      subst hm hdel hdic
      have hsl : sl = #[k0, k1, k2, k3, some (.builtin "ValueError.__new__"), k5] := by
        obtain ⟨l⟩ := sl
        simp only at hs
        rw [hs]
      subst hsl
      exact ⟨nm, qn, ns, bs, bm, sn, sub, ab, col, dd, k0, k1, k2, k3, k5, ho, ht⟩
    · cases q
  · cases q
def excB (K : PySem.W.Frag) (C : Addr) : Bool := excB1 K C && (decide (PySem.W.findIn K (.ref C) "__setattr__" = some (some (.builtin "object.__setattr__"))) && (decide (PySem.W.subIn K (.ref C) (.type "BaseException") = some true) && (decide (PySem.W.typeIn K (.ref C) = some (.type "type")) && (PySem.W.keepIn K (.ref C) &&
  (decide (PySem.W.findIn K (.ref C) "__getattribute__" = some (some (.builtin "BaseException.__getattribute__"))) && (decide (PySem.W.findIn K (.ref C) "__getattr__" = some none) && (PySem.W.hasDictIn K C && (decide (PySem.W.findIn K (.ref C) "__class__" = some (some (.builtin "object.__class__"))) &&
  (decide (PySem.W.specialIn K (.builtin "object.__class__") "__get__" = some (some (.builtin "getset_descriptor.__get__"))) && (decide (PySem.W.takesIn K (.builtin "object.__class__") = some true) && decide (PySem.W.mroIn K C (.type "object") = some true)))))))))))
theorem excB_ok {K : PySem.W.Frag} {C : Addr} (h : excB K C = true) : OexC K C ∧ ExcC K C ∧ XfC K C := by
  unfold excB at h
  simp only [Bool.and_eq_true, decide_eq_true_eq] at h
  obtain ⟨h1, h2, h3, h4, h5, h6, h7, h8, h9, h10, h11, h12⟩ := h
  exact ⟨⟨excB1_ok h1, h2, h3, h4, h5⟩, ⟨h6, h7, h3, h8, h9, h10, h11, h12⟩, ⟨h6, h7, h3, h8⟩⟩
def supCB (K : PySem.W.Frag) (C D : Addr) : Bool := decide (PySem.W.ks_superIn K C D "__init__" = some (some (.builtin "ValueError.__init__"))) && (decide (PySem.W.subIn K (.ref C) (.type "ValueError") = some true) && decide (PySem.W.mroIn K C (.ref D) = some true))
theorem supCB_ok {K : PySem.W.Frag} {C D : Addr} (h : supCB K C D = true) : SupC K C D := by
  unfold supCB at h
  simp only [Bool.and_eq_true, decide_eq_true_eq] at h
  exact ⟨h.1, h.2.1, h.2.2⟩
structure SupD where
  cls : Str
  name : Str
  qual : Str
  params : Arguments
  body : List Stmt
  scope : Scope
  dv : Option Str := none
inductive DflS (K : PySem.W.Frag) : Option Str → Value → Prop
  | no : DflS K none .none
  | one {z : Str} {T : Addr} {o : Obj} {t : Tok} {n : Nat} : K.lookup T = some o → o.data = .seq #[.str z t] n → DflS K (some z) (.ref T)
def dfB (K : PySem.W.Frag) : Option Str → Value → Bool
  | none, .none => true
  | some z, .ref T => (match K.lookup T with
    | some o => (match o.data with
      | .seq its _ => (match its.toList with
        | [.str y _] => decide (y = z)
        | _ => false)
      | _ => false)
    | none => false)
  | _, _ => false
theorem dfB_ok {K : PySem.W.Frag} {dv : Option Str} {v : Value} (h : dfB K dv v = true) : DflS K dv v := by
  unfold dfB at h
  split at h
  · exact .no
  · split at h
    · rename_i o e
      split at h
      · rename_i its n ed
        split at h
        · rename_i y t el
          have := of_decide_eq_true h
          subst this
          refine .one (t := t) (n := n) e ?_
          rw [ed]
          congr 1
          rw [← Array.toArray_toList (xs := its), el]
        · cases h
      · cases h
    · cases h
  · cases h
abbrev SupW : Type := Option (Str × Str × Arguments × FuncBody × Scope × Addr × List Str × Addr)
def supW (K : PySem.W.Frag) (x m : Str) : SupW := match K.lookup (He.ma K (He.ga K x) m) with
  | some ⟨_, _, .func fd, _⟩ => some (fd.name, fd.qualname, fd.params, fd.body, fd.scope, fd.globals, fd.closure.map (·.1), fd.builtins)
  | _ => none
def SupD.val (d : SupD) : SupW := some (d.name, d.qual, d.params, .stmts d.body, d.scope, mainGlobals, ["__class__"], builtinsNs)
def fileS : Str := "/claim/cut.py"
def supB2 (K : PySem.W.Frag) (x qual : Str) (cl : List (Str × Addr)) (code : Value) : Bool := match cl, code with
  | [(_, cc)], .ref cda => PySem.W.codeIn K (.ref cda) qual && ((match K.lookup cda with
    | some ⟨_, _, .fields vs, _⟩ => (match vs[2]? with
      | some (Value.str f _) => decide (f = fileS)
      | _ => false)
    | _ => false) && (match K.lookup cc with
    | some ⟨_, _, .cell (some (.ref D)), _⟩ => decide (D = He.ga K x)
    | _ => false))
  | _, _ => false
def supB (K : PySem.W.Frag) (d : SupD) : Bool := (match K.lookup (He.ma K (He.ga K d.cls) d.name) with
  | some ⟨_, _, .func fd, _⟩ => supB2 K d.cls d.qual fd.closure fd.code && dfB K d.dv fd.defaults
  | _ => false) && ((PySem.W.clsIn K (He.ga K d.cls)).isSome && (decide (PySem.W.nsIn K PySem.cStatics "thirdparty.any" = some none) && (decide (PySem.W.findIn K (.ref (He.ga K d.cls)) d.name = some (some (.ref (He.ma K (He.ga K d.cls) d.name)))) &&
  decide (PySem.W.typeIn K (.ref (He.ma K (He.ga K d.cls) d.name)) = some (.type "function")))))
theorem supB2_ok {K : PySem.W.Frag} {x qual : Str} {cl : List (Str × Addr)} {code : Value} (hc : cl.map (·.1) = [("__class__" : Str)]) (h : supB2 K x qual cl code = true) : ∃ cc cda, cl = [(("__class__" : Str), cc)] ∧ code = .ref cda ∧ PySem.W.codeIn K (.ref cda) qual = true ∧
    (∃ ccl cdd vs ccs tf, K.lookup cda = some ⟨ccl, cdd, .fields vs, ccs⟩ ∧ vs[2]? = some (.str fileS tf)) ∧ ∃ cl cld csl, K.lookup cc = some ⟨cl, cld, .cell (some (.ref (He.ga K x))), csl⟩ := by
  match cl, code, hc, h with
  | [(y, cc)], .ref cda, hc, h =>
    have ey : y = ("__class__" : Str) := by simpa using hc
    subst ey
    unfold supB2 at h
    rw [Bool.and_eq_true, Bool.and_eq_true] at h
    obtain ⟨k1, k2, k3⟩ := h
    refine ⟨cc, cda, rfl, rfl, k1, ?_, ?_⟩
    · split at k2
      · rename_i ccl cdd vs ccs hl
        split at k2
        · rename_i f tf hv
          have ef := of_decide_eq_true k2
          subst ef
          exact ⟨_, _, _, _, tf, hl, hv⟩
        · cases k2
      · cases k2
    · split at k3
      · rename_i cl cld D csl hl
        have eD := of_decide_eq_true k3
        subst eD
        exact ⟨_, _, _, hl⟩
      · cases k3
structure PFile (P : Program) : Prop where
  file : P.main.file = fileS
  top : (P.main.scope.names.lookup ("super" : Str)).isSome = false
theorem sup_ok {P : Program} {K : PySem.W.Frag} {d : SupD} (hP : PFile P) (e : supW K d.cls d.name = d.val) (c : supB K d = true) : ∃ cc cda fd dV, DflS K d.dv dV ∧ SupF P K (He.ga K d.cls) (He.ma K (He.ga K d.cls) d.name) cc cda d.name d.qual d.params d.body d.scope fd ∧
    (∃ kV doc pm an ct, fd = PySem.W.ksFn d.name d.qual d.params d.body d.scope dV kV doc pm an (.ref cda) ct cc) ∧
    PySem.W.findIn K (.ref (He.ga K d.cls)) d.name = some (some (.ref (He.ma K (He.ga K d.cls) d.name))) ∧ PySem.W.typeIn K (.ref (He.ma K (He.ga K d.cls) d.name)) = some (.type "function") := by
  unfold supB at c
  rw [Bool.and_eq_true] at c
  obtain ⟨c1, c2⟩ := c
  simp only [Bool.and_eq_true, decide_eq_true_eq] at c2
  obtain ⟨c3, c4, c5, c6⟩ := c2
  unfold supW at e
  cases q : K.lookup (He.ma K (He.ga K d.cls) d.name) with
  | none => rw [q] at c1; cases c1
  | some o =>
    obtain ⟨oc, od, dt, osl⟩ := o
    rw [q] at c1 e
    cases dt with
    | func fd =>
      obtain ⟨n1, n2, n3, n4, n5, n6, n7, n8, n9, n10, n11, n12, n13, n14, n15⟩ := fd
      have e2 : (some (n1, n2, n3, n4, n5, n6, n7.map (·.1), n15) : SupW) = (some (d.name, d.qual, d.params, FuncBody.stmts d.body, d.scope, mainGlobals, ["__class__"], builtinsNs) : SupW) := e
      simp only [Option.some.injEq, Prod.mk.injEq] at e2
      obtain ⟨h1, h2, h3, h4, h5, h6, h7, h8⟩ := e2
      subst h1 h2 h3 h4 h5 h6 h8
      have c1 : (supB2 K d.cls d.qual n7 n13 && dfB K d.dv n8) = true := c1
      rw [Bool.and_eq_true] at c1
      obtain ⟨cc, cda, rfl, rfl, k1, ⟨ccl, cdd, vs, ccs, tf, hl, hv⟩, hcell⟩ := supB2_ok h7 c1.1
      exact ⟨cc, cda, _, n8, dfB_ok c1.2, ⟨⟨oc, od, _, n9, n10, n11, n12, n14, osl, rfl, q⟩, k1, ⟨_, _, _, _, fileS, tf, hl, hv, by rw [hP.file]; exact beq_self_eq_true _⟩, hcell, c3, hP.top, c4⟩, ⟨n9, n10, n11, n12, n14, rfl⟩, c5, c6⟩
    | _ => cases c1
def recB (K : PySem.W.Frag) (p f : Addr) (T : String) : Bool := match PySem.W.recIn K p T with
  | some (.ref g :: _) => decide (g = f)
  | _ => false
theorem recB_ok {K : PySem.W.Frag} {p f : Addr} {T : String} (h : recB K p f T = true) : ∃ rest, PySem.W.recIn K p T = some (.ref f :: rest) := by
  unfold recB at h
  split at h
  · rename_i g rest e
    have := of_decide_eq_true h
    subst this
    exact ⟨_, e⟩
  · cases h
def statB (K : PySem.W.Frag) (C : Addr) (m : Str) : Bool := PySem.W.plainGet K C m && (PySem.W.hasDictIn K C && (decide (PySem.W.findIn K (.ref C) m = some (some (.ref (He.ma K C m)))) && (decide (PySem.W.typeIn K (.ref (He.ma K C m)) = some (.type "staticmethod")) &&
  (decide (PySem.W.specialIn K (.ref (He.ma K C m)) "__get__" = some (some (.builtin "staticmethod.__get__"))) && (decide (PySem.W.takesIn K (.ref (He.ma K C m)) = some false) && (decide (PySem.W.copiedNames.contains m = false) && (recB K (He.ma K C m) (He5.wf K C "staticmethod" m) "staticmethod" &&
  PySem.W.keepIn K (.ref (He5.wf K C "staticmethod" m)))))))))
theorem statB_ok {K : PySem.W.Frag} {C : Addr} {m : Str} (h : statB K C m = true) : StatOf K C m (He.ma K C m) (He5.wf K C "staticmethod" m) := by
  unfold statB at h
  simp only [Bool.and_eq_true, decide_eq_true_eq] at h
  obtain ⟨h1, h2, h3, h4, h5, h6, h7, h8, h9⟩ := h
  exact ⟨h1, h2, h3, h4, h5, h6, h7, recB_ok h8, h9⟩
def itemB (K : PySem.W.Frag) (C : Addr) (m : Str) : Bool := decide (PySem.W.findIn K (.ref C) m = some (some (.ref (He.ma K C m)))) && (PySem.W.isFn K (.ref (He.ma K C m)) && (PySem.W.noSeq K C && PySem.W.fnIn K (He.ma K C m)))
theorem itemB_ok {K : PySem.W.Frag} {C : Addr} {m : Str} (h : itemB K C m = true) : ItemOf K C m (He.ma K C m) ∧ PySem.W.fnIn K (He.ma K C m) = true := by
  unfold itemB at h
  simp only [Bool.and_eq_true, decide_eq_true_eq] at h
  exact ⟨⟨h.1, h.2.1, h.2.2.1⟩, h.2.2.2⟩
def propB (K : PySem.W.Frag) (C : Addr) (m : Str) : Bool := decide (PySem.W.findIn K (.ref C) m = some (some (.ref (He.ma K C m)))) && (decide (PySem.W.specialIn K (.ref (He.ma K C m)) "__get__" = some (some (.builtin "property.__get__"))) && (decide (PySem.W.takesIn K (.ref (He.ma K C m)) = some true) && recB K (He.ma K C m) (He5.wf K C "property" m) "property"))
theorem propB_ok {K : PySem.W.Frag} {C : Addr} {m : Str} (h : propB K C m = true) : PropOf K C m (He.ma K C m) (He5.wf K C "property" m) := by
  unfold propB at h
  simp only [Bool.and_eq_true, decide_eq_true_eq] at h
  exact ⟨h.1, h.2.1, h.2.2.1, recB_ok h.2.2.2⟩
inductive Xa where
  | exc (x : Str)
  | sup (x y : Str)
  | kit (x y : Str) (b : Bool)
  | kitT (x : Str) (n : String) (b : Bool)
  | exm (x y : Str) (b : Bool)
  | own (x : Str)
  | stat (x m : Str)
  | item (x m : Str)
  | prop (x m : Str)
  | inh (x y : Str)
  | tup (x : Str) (zs : List Str)
  | cm (x m : Str)
  | smc (x m : Str)
  | callo (x : Str)
  | psup (x y m : Str)
  | isc (x : Str)
  | bin (x m rm : Str)
  | bnd (x m : Str)
  | bif (x m : Str) (b : String)
  | neq (x : Str)
structure SmC (K : PySem.W.Frag) (C : Addr) (m : Str) (p f : Addr) : Prop where
  rd : PySem.W.readsIn K C (.type "type") = true
  ga : PySem.W.specialIn K (.ref C) "__getattribute__" = some (some (.builtin "type.__getattribute__"))
  at_ : PySem.W.findCls K (.ref C) (.type "type") m = some (.get (.builtin "staticmethod.__get__") (.ref p) .none (.ref C))
  rc : ∃ rest, PySem.W.recIn K p "staticmethod" = some (.ref f :: rest)
  kp : PySem.W.keepIn K (.ref f) = true
def smcB (K : PySem.W.Frag) (C : Addr) (m : Str) : Bool := He5.wrapB K C "staticmethod" "staticmethod.__get__" m && (PySem.W.keepIn K (.ref (He5.wf K C "staticmethod" m)) && (PySem.W.readsIn K C (.type "type") && decide (PySem.W.specialIn K (.ref C) "__getattribute__" = some (some (.builtin "type.__getattribute__")))))
theorem smcB_ok {K : PySem.W.Frag} {C : Addr} {m : Str} (h : smcB K C m = true) : SmC K C m (He.ma K C m) (He5.wf K C "staticmethod" m) := by
  unfold smcB at h
  simp only [Bool.and_eq_true, decide_eq_true_eq] at h
  exact ⟨h.2.2.1, h.2.2.2, (He5.wrapB_ok h.1).1, (He5.wrapB_ok h.1).2, h.2.1⟩
def cmB (K : PySem.W.Frag) (C : Addr) (m : Str) : Bool := He5.wrapB K C "classmethod" "classmethod.__get__" m && (PySem.W.fnIn K (He5.wf K C "classmethod" m) && (PySem.W.readsIn K C (.type "type") && decide (PySem.W.specialIn K (.ref C) "__getattribute__" = some (some (.builtin "type.__getattribute__")))))
theorem cmB_ok {K : PySem.W.Frag} {C : Addr} {m : Str} (h : cmB K C m = true) : ClX.CRead K C (.type "type") ∧ ClX.CMet K C (.type "type") m (He.ma K C m) (He5.wf K C "classmethod" m) := by
  unfold cmB at h
  simp only [Bool.and_eq_true, decide_eq_true_eq] at h
  exact ⟨⟨h.2.2.1, h.2.2.2⟩, He5.cmet_of h.1 h.2.1⟩
def calloB (K : PySem.W.Frag) (C : Addr) : Bool := decide (PySem.W.findIn K (.ref C) "__call__" = some (some (.ref (He.ma K C "__call__")))) && (PySem.W.isFn K (.ref (He.ma K C "__call__")) && PySem.W.fnIn K (He.ma K C "__call__"))
theorem calloB_ok {K : PySem.W.Frag} {C : Addr} (h : calloB K C = true) : StX.CallO K C (He.ma K C "__call__") := by
  unfold calloB at h
  simp only [Bool.and_eq_true, decide_eq_true_eq] at h
  exact ⟨h.1, h.2.1, h.2.2⟩
def psupB (K : PySem.W.Frag) (D : Addr) (m : Str) (g : Addr) : Bool := decide (PySem.W.ks_superIn K D D m = some (some (.ref g))) && (decide (PySem.W.mroIn K D (.ref D) = some true) && ((match K.lookup g with
  | some ⟨.type "function", _, .func _, _⟩ => true
  | _ => false) && (decide (PySem.W.nsIn K PySem.cStatics "thirdparty.any" = some none) && !(m == ("__class__" : Str)))))
def iscB (K : PySem.W.Frag) (C : Addr) : Bool := decide (PySem.W.findIn K (.ref C) "__class__" = some (some (.builtin "object.__class__"))) && (decide (PySem.W.specialIn K (.builtin "object.__class__") "__get__" = some (some (.builtin "getset_descriptor.__get__"))) && (decide (PySem.W.takesIn K (.builtin "object.__class__") = some true) && decide (PySem.W.mroIn K C (.type "object") = some true)))
def binB (K : PySem.W.Frag) (C : Addr) (m rm : Str) : Bool := PySem.W.selfFirst K C && (decide (PySem.W.findIn K (.ref C) rm = some none) && ((PySem.W.findIn K (.type "str") m).isSome && ((PySem.W.findIn K (.type "str") rm).isSome && decide (PySem.W.subIn K (.type "str") (.ref C) = some false))))
def bndB (K : PySem.W.Frag) (C : Addr) (m : Str) : Bool := PySem.W.plainGet K C m && (PySem.W.hasDictIn K C && (decide (PySem.W.findIn K (.ref C) m = some (some (.ref (He.ma K C m)))) && (PySem.W.isFn K (.ref (He.ma K C m)) && (decide (PySem.W.specialIn K (.ref (He.ma K C m)) "__get__" = some (some (.builtin "function.__get__"))) && (decide (PySem.W.takesIn K (.ref (He.ma K C m)) = some false) && (decide (PySem.W.copiedNames.contains m = false) && PySem.W.fnIn K (He.ma K C m)))))))
structure BndM (K : PySem.W.Frag) (C : Addr) (m : Str) (f : Addr) : Prop where
  get : PySem.W.plainGet K C m = true
  dict : PySem.W.hasDictIn K C = true
  at_ : PySem.W.findIn K (.ref C) m = some (some (.ref f))
  fn : PySem.W.isFn K (.ref f) = true
  gf : PySem.W.specialIn K (.ref f) "__get__" = some (some (.builtin "function.__get__"))
  tk : PySem.W.takesIn K (.ref f) = some false
  cp : PySem.W.copiedNames.contains m = false
  fi : PySem.W.fnIn K f = true
theorem bndB_ok {K : PySem.W.Frag} {C : Addr} {m : Str} (h : bndB K C m = true) : BndM K C m (He.ma K C m) := by
  unfold bndB at h
  simp only [Bool.and_eq_true, decide_eq_true_eq] at h
  obtain ⟨h1, h2, h3, h4, h5, h6, h7, h8⟩ := h
  exact ⟨h1, h2, h3, h4, h5, h6, h7, h8⟩
def Xa.ok (K : PySem.W.Frag) : Xa → Bool
  | .exc x => excB K (He.ga K x)
  | .sup x y => supCB K (He.ga K x) (He.ga K y)
  | .kit x y b => decide (PySem.W.kitOne K (.ref (He.ga K x)) (.ref (He.ga K y)) = some b)
  | .kitT x n b => decide (PySem.W.kitOne K (.ref (He.ga K x)) (.type n) = some b)
  | .exm x y b => decide (PySem.W.exmOne K (.ref (He.ga K x)) (.ref (He.ga K y)) = some b)
  | .own x => PySem.W.excIn K (He.ga K x) He.veBase "ValueError.__new__"
  | .stat x m => statB K (He.ga K x) m
  | .item x m => itemB K (He.ga K x) m
  | .prop x m => propB K (He.ga K x) m
  | .inh x y => decide (PySem.W.findIn K (.ref (He.ga K x)) "__init__" = some (some (.ref (He.ma K (He.ga K y) "__init__"))))
  | .tup x zs => He.tupB K x (zs.map He.Dv.str)
  | .cm x m => cmB K (He.ga K x) m
  | .smc x m => smcB K (He.ga K x) m
  | .callo x => calloB K (He.ga K x)
  | .psup x y m => psupB K (He.ga K x) m (He.ma K (He.ga K y) m)
  | .isc x => iscB K (He.ga K x)
  | .bin x m rm => binB K (He.ga K x) m rm
  | .bnd x m => bndB K (He.ga K x) m
  | .neq x => decide (PySem.W.findIn K (.ref (He.ga K x)) "__ne__" = some (some (.builtin "object.__ne__"))) && decide (PySem.W.subIn K (.ref (He.ga K x)) (.type "object") = some true)
  | .bif x m b => decide (PySem.W.findIn K (.ref (He.ga K x)) m = some (some (.builtin b)))
abbrev AlX : Type := Bool × List He.FnW × List SupW × List He.FnW
def obsX (fa : List He.Fa) (fn : List He.DefD) (xa : List Xa) (sd : List SupD) (wn : List He5.DefA) (K : PySem.W.Frag) : AlX := ((fa.all fun f => f.ok K) && ((fn.all fun d => d.ok K) && ((xa.all fun x => x.ok K) && ((sd.all fun d => supB K d) && wn.all fun d => d.ok K))), fn.map fun d => He.fnW K d.at_, sd.map fun d => supW K d.cls d.name, wn.map fun d => He5.fnA K (d.at_ K))
def valX (fn : List He.DefD) (sd : List SupD) (wn : List He5.DefA) : AlX := (true, fn.map He.DefD.val, sd.map SupD.val, wn.map He5.DefA.val)
section
variable {fa : List He.Fa} {fn : List He.DefD} {xa : List Xa} {sd : List SupD} {wn : List He5.DefA} {K : PySem.W.Frag}
theorem obsX_all (c : obsX fa fn xa sd wn K = valX fn sd wn) : (fa.all fun f => f.ok K) = true ∧ (fn.all fun d => d.ok K) = true ∧ (xa.all fun x => x.ok K) = true ∧ (sd.all fun d => supB K d) = true ∧ (wn.all fun d => d.ok K) = true := by
  have c1 : ((fa.all fun f => f.ok K) && ((fn.all fun d => d.ok K) && ((xa.all fun x => x.ok K) && ((sd.all fun d => supB K d) && wn.all fun d => d.ok K)))) = true := congrArg (fun z : AlX => z.1) c
  rw [Bool.and_eq_true, Bool.and_eq_true, Bool.and_eq_true, Bool.and_eq_true] at c1
  exact c1
theorem obsX_says (c : obsX fa fn xa sd wn K = valX fn sd wn) : He.SaysD fa fn K := by
  have c1 := obsX_all c
  have c2 : (fn.map fun d => He.fnW K d.at_) = fn.map He.DefD.val := congrArg (fun z : AlX => z.2.1) c
  show (_, _) = (_, _)
  rw [c1.1, c1.2.1, c2]
  rfl
theorem obsX_fact (c : obsX fa fn xa sd wn K = valX fn sd wn) (i : Nat) {x : Xa} (h : xa[i]? = some x := by rfl) : x.ok K = true :=
  List.all_eq_true.mp (obsX_all c).2.2.1 x (List.mem_of_getElem? h)
theorem obsX_sup {P : Program} (hP : PFile P) (c : obsX fa fn xa sd wn K = valX fn sd wn) (i : Nat) {d : SupD} (h : sd[i]? = some d := by rfl) : ∃ cc cda fd dV, DflS K d.dv dV ∧ SupF P K (He.ga K d.cls) (He.ma K (He.ga K d.cls) d.name) cc cda d.name d.qual d.params d.body d.scope fd ∧
    (∃ kV doc pm an ct, fd = PySem.W.ksFn d.name d.qual d.params d.body d.scope dV kV doc pm an (.ref cda) ct cc) ∧
    PySem.W.findIn K (.ref (He.ga K d.cls)) d.name = some (some (.ref (He.ma K (He.ga K d.cls) d.name))) ∧ PySem.W.typeIn K (.ref (He.ma K (He.ga K d.cls) d.name)) = some (.type "function") := by
  have c2 : (sd.map fun d => supW K d.cls d.name) = sd.map SupD.val := congrArg (fun z : AlX => z.2.2.1) c
  have e : supW K d.cls d.name = d.val := by
    have h1 : (sd.map fun d => supW K d.cls d.name)[i]? = some (supW K d.cls d.name) := by rw [List.getElem?_map, h]; rfl
    have h2 : (sd.map SupD.val)[i]? = some d.val := by rw [List.getElem?_map, h]; rfl
    rw [c2, h2] at h1
    exact (Option.some.inj h1).symm
  exact sup_ok hP e (List.all_eq_true.mp (obsX_all c).2.2.2.1 d (List.mem_of_getElem? h))
theorem binds_sup {cc cda : Addr} {name qual : Str} {params : Arguments} {body : List Stmt} {scope : Scope} {fd : FuncData} {ps : List Str} (hd : ∃ kV doc pm an ct, fd = PySem.W.ksFn name qual params body scope .none kV doc pm an (.ref cda) ct cc)
    (h : ∀ (kV doc pm : Value) (an : Option Addr) (ct : Value) (us : List Value), us.length = ps.length → bindArgs (PySem.W.ksFn name qual params body scope .none kV doc pm an (.ref cda) ct cc) ⟨us, []⟩ = pure (ps.zip us)) : Binds K fd ps [] := by
  obtain ⟨kV, doc, pm, an, ct, rfl⟩ := hd
  exact .all (h kV doc pm an ct)
end
theorem binds_supN {K : PySem.W.Frag} {cc cda : Addr} {name qual : Str} {params : Arguments} {body : List Stmt} {scope : Scope} {fd : FuncData} {ps : List Str} {dV : Value} (hv : DflS K none dV) (hd : ∃ kV doc pm an ct, fd = PySem.W.ksFn name qual params body scope dV kV doc pm an (.ref cda) ct cc)
    (h : ∀ (kV doc pm : Value) (an : Option Addr) (ct : Value) (us : List Value), us.length = ps.length → bindArgs (PySem.W.ksFn name qual params body scope .none kV doc pm an (.ref cda) ct cc) ⟨us, []⟩ = pure (ps.zip us)) : Binds K fd ps [] := by
  cases hv
  exact binds_sup hd h
theorem init1 {K : PySem.W.Frag} {D : Addr} {f : Str} {te : TE} {cond : List V → Prop} {N : List Str} {vs : List V} {H : Hp} {Q : VK} {E : XK} (h : spI K D [f] cond vs H Q E) (hN : N.length = 3)
    (ht : ∀ (a : Addr) (v : V) (σ : L2.St) (k : VK), σ[1]? = some (some v) → cond [v] → (∀ z, k z H) → te σ H k) :
    tSup K D (tCons te tNil) (tOst K f (tVar 0) (tVar 1)) { nx := fun _ H' => Q .non H', rt := Q } (startF N vs [some (.ref D)]) H := by
  obtain ⟨a, C, ws, rfl, hl, hc, T, TC, hn, ha, q⟩ := h
  match ws, hl with
  | [v], _ =>
    refine ⟨a, C, rfl, T, TC, ha, ?_⟩
    refine ht a v _ _ rfl hc fun z => ?_
    refine ⟨by show 1 ≤ 1000; decide, ha, ?_⟩
    refine ⟨v, rfl, .ref a, rfl, a, C, rfl, T, hn f List.mem_cons_self, .inl ⟨ha, fun dx h1 h2 => ?_⟩⟩
    exact q dx h1 h2
def condI : List V → Prop := fun ws => ∃ n : Nat, ws = [.int (n : Nat)] ∧ n ≤ 90000
end DL
namespace DL
open PySem PySem.Spec PyProof.Rows L2
inductive In (e : D) : D → Prop
  | refl : In e e
  | tup {d : D} {ds : List D} : d ∈ ds → In e d → In e (.tup ds)
  | lst {d : D} {ds : List D} : d ∈ ds → In e d → In e (.lst ds)
  | ins {C : Addr} {f : Str} {d : D} {fds : List (Str × D)} : (f, d) ∈ fds → In e d → In e (.ins C fds)
  | ldk {a : Addr} {k : Key} {d : D} {kds : List (Key × D)} : (k, d) ∈ kds → In e d → In e (.ldk a kds)
  | dk {k : Key} {d : D} {kds : List (Key × D)} : (k, d) ∈ kds → In e d → In e (.dk kds)
theorem Rs.ofMem {F : Hp} {d : D} : ∀ {xs : List V} {ds : List D}, Rs F xs ds → d ∈ ds → ∃ v, R F v d
  | _, _, .cons r t, m => by
    rcases List.mem_cons.mp m with e | m
    · subst e; exact ⟨_, r⟩
    · exact Rs.ofMem t m
theorem Rn.ofMem {F : Hp} {f : Str} {d : D} : ∀ {xs : List (Str × V)} {ds : List (Str × D)}, Rn F xs ds → (f, d) ∈ ds → ∃ v, R F v d
  | _, _, .cons r t, m => by
    rcases List.mem_cons.mp m with e | m
    · cases e; exact ⟨_, r⟩
    · exact Rn.ofMem t m
theorem Rk.ofMem {F : Hp} {k : Key} {d : D} : ∀ {xs : List (Key × V)} {ds : List (Key × D)}, Rk F xs ds → (k, d) ∈ ds → ∃ v, R F v d
  | _, _, .cons r t, m => by
    rcases List.mem_cons.mp m with e | m
    · cases e; exact ⟨_, r⟩
    · exact Rk.ofMem t m
theorem In.at_ {F : Hp} {a : Addr} {kds : List (Key × D)} {d : D} (h : In (.ldk a kds) d) : ∀ {v : V}, R F v d → ∃ kvs, F a = some (.dK kvs) ∧ Rk F kvs kds := by
  induction h with
  | refl => intro v r; cases r with | ldk e r => exact ⟨_, e, r⟩
  | tup m _ ih => intro v r; cases r with | tup e r => obtain ⟨u, r'⟩ := r.ofMem m; exact ih r'
  | lst m _ ih => intro v r; cases r with | lst e r => obtain ⟨u, r'⟩ := r.ofMem m; exact ih r'
  | ins m _ ih => intro v r; cases r with | ins e r => obtain ⟨u, r'⟩ := r.ofMem m; exact ih r'
  | ldk m _ ih => intro v r; cases r with | ldk e r => obtain ⟨u, r'⟩ := r.ofMem m; exact ih r'
  | dk m _ ih => intro v r; cases r with | dk e r => obtain ⟨u, r'⟩ := r.ofMem m; exact ih r'
theorem ex_bl {x : Bool} {P : Bool → Prop} (h : P x) : ∃ b, D.bl x = .bl b ∧ P b := ⟨_, rfl, h⟩
theorem ex_int {x : Int} {P : Int → Prop} (h : P x) : ∃ b, D.int x = .int b ∧ P b := ⟨_, rfl, h⟩
theorem ex_str {x : Str} {P : Str → Prop} (h : P x) : ∃ b, D.str x = .str b ∧ P b := ⟨_, rfl, h⟩
theorem ex_lst {x : List D} {P : List D → Prop} (h : P x) : ∃ b, D.lst x = .lst b ∧ P b := ⟨_, rfl, h⟩
theorem ex_tup {x : List D} {P : List D → Prop} (h : P x) : ∃ b, D.tup x = .tup b ∧ P b := ⟨_, rfl, h⟩
theorem i_T {x : Bool} {A B : Prop} (e : x = true) (h : A) : if x = true then A else B := by rw [if_pos e]; exact h
theorem i_F {x : Bool} {A B : Prop} (e : x = false) (h : B) : if x = true then A else B := by rw [e]; exact h
theorem rc_lenM {KK : PySem.W.Frag} {L as : List Addr} {O : List D} {k : List Addr → D → List D → Prop} {α : Type} {f : α → D} {xs : List α} (z : k as (.int xs.length) O) : rc (fun xs H Q => ∃ x n, xs = [x] ∧ LenV KK x H n ∧ Q (.int n) H) L as O [.lst (xs.map f)] k := rc_len (n := xs.length) (List.length_map ..).symm z
theorem rc_lenU {KK : PySem.W.Frag} {L as : List Addr} {O : List D} {k : List Addr → D → List D → Prop} {α : Type} {f : α → D} {xs : List α} (z : k as (.int xs.length) O) : rc (fun xs H Q => ∃ x n, xs = [x] ∧ LenV KK x H n ∧ Q (.int n) H) L as O [.tup (xs.map f)] k := rc_len (n := xs.length) (List.length_map ..).symm z
end DL
namespace DL
open PySem PySem.Spec PyProof.Rows L2 NdefX DLS
def entB (K : PySem.W.Frag) (x key : Str) (i : Option Int) : Bool := match PySem.W.nsIn K (He.ga K x) key, i with
  | some (some (.int j _)), some i => j == i
  | some none, none => true
  | _, _ => false
abbrev AlY : Type := AlX × List (Option (List (Option (Str × Int)))) × Bool
abbrev TabY : Type := Str × List Str × List (Str × Option Int)
def obsY (fa : List He.Fa) (fn : List He.DefD) (xa : List Xa) (sd : List SupD) (wn : List He5.DefA) (ts : List TabY) (K : PySem.W.Frag) : AlY := (obsX fa fn xa sd wn K, ts.map (fun t => He.dicW K (He.ga K t.1)), ts.all fun t => t.2.2.all fun e => entB K t.1 e.1 e.2)
def valY (fn : List He.DefD) (sd : List SupD) (wn : List He5.DefA) (ts : List TabY) (w : World) : AlY := (valX fn sd wn, ts.map (fun t => some (He.keysIn w.params t.2.1)), true)
def asZ (n : Nat) : List Addr := mainGlobals :: PySem.cStatics :: List.range n
def obsYG (n : Nat) (fa : List He.Fa) (fn : List He.DefD) (xa : List Xa) (sd : List SupD) (wn : List He5.DefA) (ts : List TabY) (g : Addr → Option Obj) : AlY := obsY fa fn xa sd wn ts (He.frG g (asZ n))
def hookY (n : Nat) (fa : List He.Fa) (fn : List He.DefD) (xa : List Xa) (sd : List SupD) (wn : List He5.DefA) (ts : List TabY) : PySem.W.Hook where
  α := AlY
  obs := fun s => obsYG n fa fn xa sd wn ts s.heap.get?
  val := fun w => valY fn sd wn ts w
  says := fun w h => ∃ K : PySem.W.Frag, K.In h ∧ obsY fa fn xa sd wn ts K = valY fn sd wn ts w
  of := fun _ _ e => ⟨_, He.frG_in, e⟩
  keeps := fun _ _ _ ⟨K, hK, c⟩ k => ⟨K, PySem.W.Frag.In.keeps hK k, c⟩
theorem obsYG_eq {n : Nat} {fa : List He.Fa} {fn : List He.DefD} {xa : List Xa} {sd : List SupD} {wn : List He5.DefA} {ts : List TabY} {g : Addr → Option Obj} {s : Shared} (h : ∀ a, g a = s.heap.get? a) : obsYG n fa fn xa sd wn ts g = (hookY n fa fn xa sd wn ts).obs s := by
  have e : g = s.heap.get? := funext h
  rw [e] <;> rfl
section
variable {fa : List He.Fa} {fn : List He.DefD} {xa : List Xa} {sd : List SupD} {wn : List He5.DefA} {ts : List TabY} {w : World} {K : PySem.W.Frag}
theorem obsY_x (c : obsY fa fn xa sd wn ts K = valY fn sd wn ts w) : obsX fa fn xa sd wn K = valX fn sd wn := congrArg (fun z : AlY => z.1) c
end
end DL
namespace DLS
end DLS
set_option pp.maxSteps 700
namespace G
open PySem PySem.Spec PyProof.Rows L2 DL DLS NdefX
local macro_rules | `(tactic| k_subL) => `(tactic| repeat (first
  | with_reducible refine s_seq ?_
  | with_reducible refine s_set ?_
  | with_reducible refine w_op ?_
  | ((with_reducible refine w_var (d := ?_) ?_ ?_); rotate_left; exact rfl)
  | with_reducible refine w_int ?_
  | with_reducible refine rv_i0 ?_
  | with_reducible refine rv_b0 ?_
  | with_reducible refine w_cb ?_
  | with_reducible refine w_cons ?_
  | with_reducible refine w_nil ?_
  | with_reducible refine rc_int ?_
  | with_reducible refine w_str ?_
  | with_reducible refine w_bl ?_
  | with_reducible refine w_non ?_
  | with_reducible refine g_name ?_
  | with_reducible refine s_ret ?_
  | with_reducible refine s_drop ?_
  | with_reducible refine s_if ?_
  | with_reducible refine w_test ?_
  | with_reducible refine w_tB ?_))
local macro_rules | `(tactic| k_clsL) => `(tactic| repeat (first
  | with_reducible refine s_seq ?_
  | with_reducible refine s_set ?_
  | with_reducible refine w_op ?_
  | ((with_reducible refine w_var (d := ?_) ?_ ?_); rotate_left; exact rfl)
  | with_reducible refine w_int ?_
  | with_reducible refine rv_i0 ?_
  | with_reducible refine rv_b0 ?_
  | with_reducible refine w_cb ?_
  | with_reducible refine w_cons ?_
  | with_reducible refine w_nil ?_
  | with_reducible refine rc_int ?_
  | with_reducible refine w_str ?_
  | with_reducible refine w_bl ?_
  | with_reducible refine w_non ?_
  | with_reducible refine g_name ?_
  | with_reducible refine s_ret ?_
  | with_reducible refine s_drop ?_
  | with_reducible refine s_if ?_
  | with_reducible refine w_test ?_
  | with_reducible refine w_tB ?_
  | with_reducible refine w_not ?_
  | with_reducible refine w_and ?_
  | with_reducible refine w_or ?_
  | with_reducible refine w_notV ?_
  | with_reducible refine w_andV ?_
  | with_reducible refine w_orV ?_
  | with_reducible refine w_if ?_
  | with_reducible refine w_chain ?_
  | with_reducible refine ex_bl ?_
  | with_reducible refine ex_int ?_
  | with_reducible refine ex_str ?_
  | with_reducible refine ex_lst ?_
  | with_reducible refine ex_tup ?_
  | with_reducible refine rc_lenM ?_
  | with_reducible refine rc_lenU ?_
  | with_reducible refine i_list ?_
  | with_reducible refine i_tup ?_
  | with_reducible refine i_range ?_
  | with_reducible refine i_str ?_
  | with_reducible refine s_for ?_
  | ((with_reducible refine rv_eq ?_ ?_); exact rfl)
  | ((with_reducible refine rv_ne ?_ ?_); exact rfl)
  | with_reducible refine MI.row0 _ ?_
  | with_reducible refine MI.row1 _ ?_
  | with_reducible refine MI.row2 _ ?_
  | with_reducible refine MI.par0 _ ?_
  | with_reducible refine MI.par1 _ ?_
  | ((with_reducible refine rv_ixT (d := ?_) ?_ ?_); rotate_left; exact rfl)))
def top (i : Nat) : Stmt := PySem.Challenge.pw_bytegrove_k03_invalid_kinds_tables.main.body.getD i (.Pass ⟨0, 0, 0, 0⟩)
abbrev s__law_pool : Stmt := top 26
abbrev N__law_pool : List Str := ["_law_script", "_law_pool_here", "_law_cell", "_law_number", "_law_turn", "_law_mixed"]
theorem sc__law_pool : FnScope N__law_pool ["_law_script"] (defScope s__law_pool) := ⟨rfl, rfl, rfl, by decide +kernel, rfl, by decide +kernel, by decide +kernel⟩
def f__law_pool : He.DefD := ⟨("_law_pool", none), "_law_pool", "_law_pool", defArgs s__law_pool, defBody s__law_pool, defScope s__law_pool, [], []⟩
abbrev s__law_rows : Stmt := top 29
abbrev N__law_rows : List Str := ["_law_pool_here", "_law_seed", "_law_names", "_law_k", "_law_rows_here", "_law_turn", "_law_count", "_law_base", "_law_at", "_law_maker", "_law_inner", "_law_row"]
theorem sc__law_rows : FnScope N__law_rows ["_law_pool_here"] (defScope s__law_rows) := ⟨rfl, rfl, rfl, by decide +kernel, rfl, by decide +kernel, by decide +kernel⟩
def f__law_rows : He.DefD := ⟨("_law_rows", none), "_law_rows", "_law_rows", defArgs s__law_rows, defBody s__law_rows, defScope s__law_rows, [], []⟩
abbrev s__law_take : Stmt := top 25
abbrev N__law_take : List Str := ["_law_pool_here", "_law_many"]
theorem sc__law_take : FnScope N__law_take ["_law_pool_here", "_law_many"] (defScope s__law_take) := ⟨rfl, rfl, rfl, by decide +kernel, rfl, by decide +kernel, by decide +kernel⟩
def f__law_take : He.DefD := ⟨("_law_take", none), "_law_take", "_law_take", defArgs s__law_take, defBody s__law_take, defScope s__law_take, [], []⟩
abbrev s__law_spoilt : Stmt := top 32
abbrev N__law_spoilt : List Str := ["_law_pool_here", "_law_rows_here", "_law_at", "_law_way", "_law_kind", "_law_maker", "_law_bad", "_law_price"]
theorem sc__law_spoilt : FnScope N__law_spoilt ["_law_pool_here", "_law_rows_here", "_law_at", "_law_way"] (defScope s__law_spoilt) := ⟨rfl, rfl, rfl, by decide +kernel, rfl, by decide +kernel, by decide +kernel⟩
def f__law_spoilt : He.DefD := ⟨("_law_spoilt", none), "_law_spoilt", "_law_spoilt", defArgs s__law_spoilt, defBody s__law_spoilt, defScope s__law_spoilt, [], []⟩
abbrev s__law_bad_row : Stmt := top 31
abbrev N__law_bad_row : List Str := ["_law_rows_here", "e"]
theorem sc__law_bad_row : FnScope N__law_bad_row ["_law_rows_here"] (defScope s__law_bad_row) := ⟨rfl, rfl, rfl, by decide +kernel, rfl, by decide +kernel, by decide +kernel⟩
def f__law_bad_row : He.DefD := ⟨("_law_bad_row", none), "_law_bad_row", "_law_bad_row", defArgs s__law_bad_row, defBody s__law_bad_row, defScope s__law_bad_row, [], []⟩
abbrev s__law_tables : Stmt := top 33
abbrev N__law_tables : List Str := ["_law_pool_here", "_law_rows_here", "_law_place", "_law_kind", "_law_endless", "_law_many", "_law_wide", "_law_loops", "_law_full", "_law_letter"]
theorem sc__law_tables : FnScope N__law_tables ["_law_pool_here", "_law_rows_here"] (defScope s__law_tables) := ⟨rfl, rfl, rfl, by decide +kernel, rfl, by decide +kernel, by decide +kernel⟩
def f__law_tables : He.DefD := ⟨("_law_tables", none), "_law_tables", "_law_tables", defArgs s__law_tables, defBody s__law_tables, defScope s__law_tables, [], []⟩
abbrev s__law_name : Stmt := top 27
abbrev N__law_name : List Str := ["_law_seed", "_law_k", "_law_taken", "_law_letters", "_law_number", "_law_name_here", "_law_turn"]
theorem sc__law_name : FnScope N__law_name ["_law_seed", "_law_k", "_law_taken"] (defScope s__law_name) := ⟨rfl, rfl, rfl, by decide +kernel, rfl, by decide +kernel, by decide +kernel⟩
def f__law_name : He.DefD := ⟨("_law_name", none), "_law_name", "_law_name", defArgs s__law_name, defBody s__law_name, defScope s__law_name, [], []⟩
abbrev s__law_parts : Stmt := top 28
abbrev N__law_parts : List Str := ["_law_pool_here", "_law_seed", "_law_names", "_law_base", "_law_parts_here", "_law_taken", "_law_trees", "_law_at", "_law_pick", "_law_price"]
theorem sc__law_parts : FnScope N__law_parts ["_law_pool_here", "_law_seed", "_law_names", "_law_base"] (defScope s__law_parts) := ⟨rfl, rfl, rfl, by decide +kernel, rfl, by decide +kernel, by decide +kernel⟩
def f__law_parts : He.DefD := ⟨("_law_parts", none), "_law_parts", "_law_parts", defArgs s__law_parts, defBody s__law_parts, defScope s__law_parts, [], []⟩
abbrev s_Kinds___init__ : Stmt := inClass (top 23) 0
abbrev N_Kinds___init__ : List Str := ["self", "rows", "kind", "at", "row", "family", "part", "maker", "parts"]
theorem sc_Kinds___init__ : FnScope N_Kinds___init__ ["self", "rows"] (defScope s_Kinds___init__) := ⟨rfl, rfl, rfl, by decide +kernel, rfl, by decide +kernel, by decide +kernel⟩
def f_Kinds___init__ : He.DefD := ⟨("Kinds", some "__init__"), "__init__", "Kinds.__init__", defArgs s_Kinds___init__, defBody s_Kinds___init__, defScope s_Kinds___init__, [], []⟩
abbrev s__law_int : Stmt := top 30
abbrev N__law_int : List Str := ["_law_value"]
theorem sc__law_int : FnScope N__law_int ["_law_value"] (defScope s__law_int) := ⟨rfl, rfl, rfl, by decide +kernel, rfl, by decide +kernel, by decide +kernel⟩
def f__law_int : He.DefD := ⟨("_law_int", none), "_law_int", "_law_int", defArgs s__law_int, defBody s__law_int, defScope s__law_int, [], []⟩
abbrev s_Kinds_is_new : Stmt := inClass (top 23) 1
abbrev N_Kinds_is_new : List Str := ["self", "row", "kind", "maker", "parts", "part"]
theorem sc_Kinds_is_new : FnScope N_Kinds_is_new ["self", "row"] (defScope s_Kinds_is_new) := ⟨rfl, rfl, rfl, by decide +kernel, rfl, by decide +kernel, by decide +kernel⟩
def f_Kinds_is_new : He.DefD := ⟨("Kinds", some "is_new"), "is_new", "Kinds.is_new", defArgs s_Kinds_is_new, defBody s_Kinds_is_new, defScope s_Kinds_is_new, [], []⟩
abbrev s_Kinds_find_least : Stmt := inClass (top 23) 2
abbrev N_Kinds_find_least : List Str := ["self", "least_rows", "changed", "maker", "row", "tree", "part", "kind", "tag", "parts"]
theorem sc_Kinds_find_least : FnScope N_Kinds_find_least ["self"] (defScope s_Kinds_find_least) := ⟨rfl, rfl, rfl, by decide +kernel, rfl, by decide +kernel, by decide +kernel⟩
def f_Kinds_find_least : He.DefD := ⟨("Kinds", some "find_least"), "find_least", "Kinds.find_least", defArgs s_Kinds_find_least, defBody s_Kinds_find_least, defScope s_Kinds_find_least, [], []⟩
abbrev s_is_name : Stmt := top 21
abbrev N_is_name : List Str := ["text", "char"]
theorem sc_is_name : FnScope N_is_name ["text"] (defScope s_is_name) := ⟨rfl, rfl, rfl, by decide +kernel, rfl, by decide +kernel, by decide +kernel⟩
def f_is_name : He.DefD := ⟨("is_name", none), "is_name", "is_name", defArgs s_is_name, defBody s_is_name, defScope s_is_name, [], []⟩
abbrev s_is_part : Stmt := top 22
abbrev N_is_part : List Str := ["part"]
theorem sc_is_part : FnScope N_is_part ["part"] (defScope s_is_part) := ⟨rfl, rfl, rfl, by decide +kernel, rfl, by decide +kernel, by decide +kernel⟩
def f_is_part : He.DefD := ⟨("is_part", none), "is_part", "is_part", defArgs s_is_part, defBody s_is_part, defScope s_is_part, [], []⟩
abbrev s_law : Stmt := top 34
abbrev N_law : List Str := ["_law_script", "_law_pool_here", "_law_rows_here", "_law_at", "_law_way", "_law_other", "_law_bad", "_law_ways"]
theorem sc_law : FnScope N_law ["_law_script"] (defScope s_law) := ⟨rfl, rfl, rfl, by decide +kernel, rfl, by decide +kernel, by decide +kernel⟩
def f_law : He.DefD := ⟨("law", none), "law", "law", defArgs s_law, defBody s_law, defScope s_law, [], []⟩
def fn : List He.DefD := [f__law_pool, f__law_rows, f__law_take, f__law_spoilt, f__law_bad_row, f__law_tables, f__law_name, f__law_parts, f_Kinds___init__, f__law_int, f_Kinds_is_new, f_Kinds_find_least, f_is_name, f_is_part, f_law]
def fa : List He.Fa := [.glo "_law_pool", .glo "_law_rows", .glo "_law_take", .free "len", .free "range", .free "list", .glo "_law_spoilt", .glo "_law_bad_row", .free "int", .glo "_law_tables", .glo "_law_name", .glo "_law_parts", .free "tuple", .glo "GroveError", .glo "Kinds", .mkr "Kinds", .cls "Kinds", .free "isinstance", .glo "WrongLayout", .glo "Stuck", .glo "NotThere", .glo "NoLayout", .glo "BadTree", .glo "BadRow", .glo "BadLayout", .glo "BadFunctions", .glo "BadKinds", .free "ValueError", .glo "_law_int", .noat "BadKinds" "row", .noat "Kinds" "table", .noat "Kinds" "family", .free "super", .free "str", .free "enumerate", .int "MOST_MAKERS" 12, .meth "Kinds" "is_new", .str "BYTE" "byte", .noat "Kinds" "names", .noat "Kinds" "order", .noat "Kinds" "smallest", .meth "Kinds" "find_least", .glo "is_name", .int "MOST_KINDS" 4, .int "MOST_PARTS" 4, .free "all", .glo "is_part", .int "MOST_NAME" 24, .str "LETTERS" "ABCDEFGHIJKLMNOPQRSTUVWXYZabcdefghijklmnopqrstuvwxyz", .str "DIGITS" "0123456789", .int "MOST_PRICE" 1000, .free "bool", .glo "law"]
abbrev s_BadKinds : Stmt := inClass (top 3) 0
abbrev N_BadKinds : List Str := ["self", "row", "__class__"]
theorem sc_BadKinds : NScope N_BadKinds ["self", "row"] ["__class__"] (defScope s_BadKinds) := nscope_by (by decide +kernel)
def sd_BadKinds : SupD := ⟨"BadKinds", "__init__", "BadKinds.__init__", defArgs s_BadKinds, defBody s_BadKinds, defScope s_BadKinds, none⟩
def xa : List Xa := [.kit "BadKinds" "BadFunctions" false, .kit "BadKinds" "BadLayout" false, .kit "BadKinds" "BadRow" false, .kit "BadKinds" "BadTree" false, .kit "BadKinds" "NoLayout" false, .kit "BadKinds" "NotThere" false, .kit "BadKinds" "Stuck" false, .kit "BadKinds" "WrongLayout" false, .kit "BadKinds" "BadKinds" true, .kitT "BadKinds" "ValueError" true, .exm "BadKinds" "GroveError" true, .exc "BadKinds", .sup "BadKinds" "BadKinds"]
def sd : List SupD := [sd_BadKinds]
def ts : List TabY := []
def wn : List He5.DefA := []
abbrev RR : PySem.W.OpenRow := PySem.W.OpenLaw.row PySem.Challenge.rw_bytegrove_k03_invalid_kinds_tables
abbrev hkk : PySem.W.Hook := hookY 2000 fa fn xa sd wn ts
def obv (s : PySem.W.SharedT) : AlY := obsYG 2000 fa fn xa sd wn ts (HandSHeadRun.getT s)
theorem obv_eq (s : PySem.W.SharedT) : obv s = hkk.obs s.abs := obsYG_eq (HandSHeadRun.getT_eq s)
def looseN : List PySem.Str := (["_wall", "__name__", "GroveError", "BadKinds", "BadTree", "BadLayout", "BadRow", "BadFunctions", "NotThere", "Stuck", "WrongLayout", "NoLayout", "LETTERS", "DIGITS", "BYTE", "MOST_NAME", "MOST_MAKERS", "MOST_KINDS", "MOST_PARTS", "MOST_PRICE", "is_name", "is_part", "Kinds", "_law_take", "_law_pool", "_law_name", "_law_parts", "_law_rows", "_law_int", "_law_bad_row"] : List PySem.Str) ++ (["_law_spoilt", "_law_tables"] : List PySem.Str)
theorem run (w : World) : HandSHeadRun.RunEq RR (PySem.W.view RR.prog [34]) hkk obv 9000 looseN w := by
  intro os
  kernel_rfl
end G
namespace DL
open PySem PySem.Spec PyProof.Rows L2
section
variable {prog : Program} {w : World} {A : Around} {E : Value → Shared → Prop} {s : Shared} {T : String} {r d : Addr} {n : Nat} {P : Nat → Value → Prop} {OK : Heap → Prop}
theorem tupSrc_code {Q1 : Value → Shared → Prop} (src : PySem.W.KdlSrc prog w T r d n P OK) (calm : A.handled = none) (ok : OK s.heap) (few : n ≤ sizeLine)
    (h : ∀ (g : Heap) (k : Nat) (acc : Array Value), (∀ b o, s.heap.get? b = some o → g.get? b = some o) → ItemsOf P acc n → Q1 (.ref g.objs.size) { s with heap := g.push { cls := .type "tuple", data := .seq acc }, toks := k }) :
    codeAny (model prog w) A (.call (.builtin "tuple.__new__") ⟨[.type "tuple", .ref r], []⟩) (wants Q1 E) s := by
  refine codeAny_of_tree ?_
  show wpAny _ A.in1 (do checkBuiltinCall "tuple.__new__" ⟨[.type "tuple", .ref r], []⟩; again (.builtin "tuple.__new__" ⟨[.type "tuple", .ref r], []⟩)) _ _ s
  refine wpAny_bind (wpAny_of_eq (PySem.F.newCall_tuple_1 _) ?_)
  refine wpAny_pure ⟨plainId_quiet PySem.F.plain_tuple_new _, codeAny_builtin PySem.F.entry_tuple_new ?_⟩
  rw [Around.under_plainId PySem.F.plain_tuple_new _]
  have q1 := sub_tuple_self
  have q2 := init_tuple_lookup
  have q3 := madeHere_tuple
  have q4 := src.type s ok
  have q5 : A.in1.handled = none := by exact calm
  have q6 := src.notTuple
  wp_walk using wpAny_typeOf q4, PySem.W.kdu_collect (A := A.in1) src q5 ok few
  intro g k zs keep items
  show wpAny (model prog w) A.in1 (Builtin.Tuple.tupleExact zs.toList.toArray >>= fun x => ret x) _ _ _
  have ez : zs.toList.toArray = zs := by simp
  rw [ez]
  unfold Builtin.Tuple.tupleExact
  refine wpAny_bind (wpAny_newObj_type ?_ (by show zs.size ≤ sizeLine; rw [items.1]; exact few))
  exact wpAny_pure (h g k zs keep items)
theorem tupSrc_call {Q : Value → Shared → Prop} (src : PySem.W.KdlSrc prog w T r d n P OK) (calm : A.handled = none) (ok : OK s.heap) (few : n ≤ sizeLine)
    (h : ∀ (g : Heap) (k : Nat) (acc : Array Value), (∀ b o, s.heap.get? b = some o → g.get? b = some o) → ItemsOf P acc n → Q (.ref g.objs.size) { s with heap := g.push { cls := .type "tuple", data := .seq acc }, toks := k }) :
    wpAny (model prog w) A (call (.type "tuple") [.ref r]) Q E s := by
  refine callType_codes (Q₁ := fun x u => u.TypeIs x "tuple" ∧ Q x u) PySem.F.called_tuple (PySem.F.typeCall_tuple_1 _) PySem.F.entry_object_init ?_ ?_
  · exact tupSrc_code (A := A.in1) src calm ok few fun g k acc e i => ⟨⟨_, Heap.get?_push_size _ rfl, rfl⟩, h g k acc e i⟩
  · rintro x u ⟨y1, y2⟩
    exact ⟨y1, PySem.F.args_object_init_2 x _, object_init_meets PySem.F.called_tuple.init.lookup PySem.F.called_tuple.made (by decide) prog w A.in1 _ u ⟨y1, rfl, y2⟩⟩
end
def rTupD : List V → Hp → VK → Prop := fun xs H Q => ∃ p kvs, xs = [.ref p] ∧ H p = some (.dK kvs) ∧ ∀ q, H q = none → Q (.ref q) (upd H q (.tup (kvs.map fun kv => kV kv.1)))
theorem call_tuple_dK {X : Cx} (hc : X.calm = true) : CallR X (.type "tuple") rTupD := by
  intro pins s σ H xs us Q I r h
  obtain ⟨p, kvs, rfl, hk, q⟩ := h
  obtain ⟨u, rfl, rx⟩ := vals1 r
  obtain rfl : u = Value.ref p := rx
  obtain ⟨z, lo, vs, rk, hd⟩ := (show ObjOk X.prog X.w H s.heap p (.dK kvs) from I.hok p _ hk)
  obtain ⟨ep, hat⟩ := hd.dictAt
  have hl : kvs.length = vs.length := Paired.length rk
  refine tupSrc_call (PySem.W.kdl_dict (knd := mixKind X.prog X.w) (kvs := vs) (ep := ep) lo) (I.ok.hd hc) hat (by rw [← hl]; exact z) fun g k acc keep items => ?_
  have rv : Vals (kvs.map fun kv => kV kv.1) acc.toList := by
    refine vals_of_at (by rw [List.length_map, hl, ← items.1]; simp) fun j x w h1 h2 => ?_
    obtain ⟨c, y, hky, hi⟩ := items.2 j w (by rw [← Array.getElem?_toList]; exact h2)
    have e1 : (kvs.map (·.1))[j]? = some c := by
      rw [KV.keys rk, List.getElem?_map, hky] <;> rfl
    rw [List.getElem?_map] at e1 h1
    cases e2 : kvs[j]? with
    | none => rw [e2] at e1; cases e1
    | some kv =>
      rw [e2] at e1 h1
      cases e1
      cases h1
      exact keyIs_rel hi
  have I1 : Inv X pins σ H { s with heap := g } := I.kept (t' := s.toks) keep
  refine ⟨.ref g.objs.size, upd H g.objs.size (.tup (kvs.map fun kv => kV kv.1)), I1.laid (t' := k) (fun b o e => Heap.get?_push_of_some _ e) (Nat.le_refl _) ?_, rfl, q _ (I1.hok.fresh (Nat.le_refl _))⟩
  refine (show ObjOk X.prog X.w _ _ _ (.tup (kvs.map fun kv => kV kv.1)) from ⟨by rw [List.length_map]; exact z, acc.toList, rv, ?_⟩)
  rw [show acc.toList.toArray = acc by simp]
  exact IsTup.new g acc
section
variable {χ : Xk} {L : List Addr} {as : List Addr} {ρ : DSt} {O : List D} {k : List Addr → D → List D → Prop} {d : D}
theorem Rk.keys {F : Hp} : ∀ {kvs : List (Key × V)} {kds : List (Key × D)}, Rk F kvs kds → Rs F (kvs.map fun kv : Key × V => kV kv.1) (kds.map fun kv : Key × D => kD kv.1)
  | _, _, .nil => .nil
  | _, _, .cons _ t => .cons (r_key _) (Rk.keys t)
theorem rc_tupD {kds : List (Key × D)} (h : dkOf as O d kds) (z : k as (.tup (kds.map fun kv => kD kv.1)) O) : rc rTupD [] as O [d] k := fun F H xs hd ow r Q q => by
  cases r with
  | cons r1 r2 =>
    cases r2
    obtain ⟨a, kvs, rfl, e, rk⟩ := dk_un hd ow r1 h
    exact ⟨a, kvs, rfl, e, new_tup hd ow rk.keys z q⟩
end
end DL
namespace DL
open PySem PySem.Spec PyProof.Rows L2 PpSet
abbrev addS (S : Key → Bool) (c : Key) : Key → Bool := fun j => S j || decide (j = c)
abbrev addN (S : Key → Bool) (m : Nat) (c : Key) : Nat := if S c = true then m else m + 1
def tScK (P : Program) (w : World) (wi : TI) (g : TG) (te : TE) (vs : List Nat) : TE := fun σ H Q => wi σ H fun J H1 => ∀ N, H1 N = none → ∃ (n : Nat) (Pv : Nat → Hp → Prop), Pv 0 (upd H1 N (SetK P w N (fun _ => false) 0)) ∧
  ∀ i H, Pv i H → (J.stop i H ∧ Q (.ref N) H) ∨ (i < n ∧ J.go i H ∧ ∀ x H', J.yld i H x H' → g x (wipe σ vs) H' fun σ2 H2 => wipe σ2 vs = wipe σ vs ∧ te σ2 H2 fun y H3 =>
    ∃ (c : Key) (S : Key → Bool) (m : Nat), y = kV c ∧ H3 N = some (SetK P w N S m) ∧ m + 1 < scanBound ∧ Pv (i + 1) (upd H3 N (SetK P w N (addS S c) (addN S m c))))
section
variable {X : Cx}
theorem keyAdd {pins : List (Addr × Obj)} {σ : L2.St} {H : Hp} {s : Shared} {E : Value → Shared → Prop} {N : Addr} {S : Key → Bool} {m : Nat} {c : Key} {u : Value} {Q : Value → Shared → Prop} (I : Inv X pins σ H s) (hN : H N = some (SetK X.prog X.w N S m)) (room : m + 1 < scanBound)
    (rc : RelV (kV c) u) (h : ∀ s', Inv X pins σ (upd H N (SetK X.prog X.w N (addS S c) (addN S m c))) s' → Q .none s') : wpAny (model X.prog X.w) X.A (call (.builtin "set.add") [.ref N, u]) Q E s :=
  call_set_add (kV_is rc) (key_scan rc) (setK_get I hN) room fun g sb new => by
    have ⟨ob, _, _, _, hob, _⟩ := new
    exact h _ (I.write (e := N) (t' := s.toks + 1) (by rw [hN]; trivial) (.inl rfl) (fun b u hb hu => (sb.2 b hb).trans hu) ⟨ob, hob⟩ (setK_new new))
theorem scK_run {pins : List (Addr × Obj)} {s : Shared} {σ : L2.St} {H : Hp} {Q : VK} {elt tg iter : Expr} {scope : Scope} {own : List (PySem.Str × Nat)} {pos pos' : Pos} {wi : TI} {g : TG} {te : TE} {Qf : Value → Shared → Prop}
    (calm : X.calm = true) (nd : X.N.Nodup) (I : Inv X pins σ H s) (hi : PI X tg iter wi) (blk : BlkOk X.N X.env.scope scope own)
    (pg : ∀ (s : Shared) (H : Hp) (C : Addr) (cl : List (PySem.Str × Addr)) (fp : List Addr), PG (X.blk s H scope (compEnvC scope cl C X.env) fp) tg g)
    (pe : ∀ (s : Shared) (H : Hp) (C : Addr) (cl : List (PySem.Str × Addr)) (fp : List Addr), PE (X.blk s H scope (compEnvC scope cl C X.env) fp) elt te) (fs : ∀ x, foldedSetIterable iter X.env x = pure x)
    (h : tScK X.prog X.w wi g te (own.map (·.2)) σ H Q)
    (fin : ∀ N C s' m H', Inv X pins σ H' s' → Q (.ref N) H' → s'.heap.Ns C m → FpOk X pins H' C → compPost (model X.prog X.w) X.A X.xe none Qf (.ref N) C (.ok .next) s') :
    wpAny (model X.prog X.w) X.A (comprehension (.SetComp elt [⟨tg, iter, [], 0⟩] scope pos) scope X.env pos' (newSet (.type "set")) false (eval iter X.env) none) Qf X.xe s := by
  have free : ∀ y ∈ scope.names, y.2 = .free → ∃ c, X.env.cells.lookup y.1 = some c := fun y hy e =>
    (blk.free y hy e).elim (fun k => I.ok.has _ (.inl k)) fun k => I.ok.has _ (.inr k)
  refine wpAny_comprehension_free (use := none) rfl fs (closure_ok free) blk.kind (fun y hy e => by rw [blk.uniq y hy, e]) ?_
  refine thn (hi.run pins s σ H _ I h) fun xv s1 hx => thn hx fun itv s2 ⟨it, fp, tn, J, H2, e, I2, T, st2, f2, q⟩ => ?_
  subst e
  refine newSet_ok (newEnv_comp ?_)
  generalize hN : s2.heap.objs.size = N
  have freeN : H2 N = none := I2.hok.fresh (Nat.le_of_eq hN)
  obtain ⟨n, Pv, p0, turn⟩ := q N freeN
  have newS : ({ s2 with heap := s2.heap.push { cls := .type "set", dict := none, data := .set #[] 0 (.fresh 0 0 (!X.w.params.followText "set-order")) } } : Shared).heap.SetOf (mixKind X.prog X.w) N (fun _ => false) 0 := by
    subst hN
    exact ⟨_, #[], 0, _, Heap.get?_push_size _ rfl, ⟨rfl, rfl, rfl⟩, rfl, fun e he => (by simp at he), fun c => (by simp), by decide, by rfl, rfl⟩
  generalize hH3 : upd H2 N (SetK X.prog X.w N (fun _ => false) 0) = H3 at p0
  generalize es3 : ({ s2 with heap := s2.heap.push { cls := .type "set", dict := none, data := .set #[] 0 (.fresh 0 0 (!X.w.params.followText "set-order")) } } : Shared) = s3 at newS
  have push : ∀ b o, s2.heap.get? b = some o → s3.heap.get? b = some o := fun b o e => by rw [← es3]; exact Heap.get?_push_of_some _ e
  have I3 : Inv X pins σ H3 s3 := by
    rw [← hH3, ← es3]
    exact I2.laid (t' := s2.toks) (fun b o e => Heap.get?_push_of_some _ e) (Nat.le_of_eq hN) (by have := setK_new (H := upd H2 N (SetK X.prog X.w N (fun _ => false) 0)) newS; rw [← es3] at this; exact this)
  have size3 : s3.heap.objs.size = s2.heap.objs.size + 1 := by rw [← es3]; exact Heap.size_push ..
  have small : ∀ b ∈ fp, b < s2.heap.objs.size := fun b hb => by
    obtain ⟨o, e, _⟩ := T.obj _ _ st2 b hb
    exact Heap.lt_size e
  have f3 : ∀ b ∈ fp, FpOk X pins H3 b ∧ b < s3.heap.objs.size := fun b hb => by
    have lt := small b hb
    refine ⟨⟨?_, (f2 b hb).2⟩, by rw [size3]; exact Nat.lt_succ_of_lt lt⟩
    rw [← hH3, upd_ne (show b ≠ N by rw [← hN]; exact Nat.ne_of_lt lt)]
    exact (f2 b hb).1
  have st3 : tn 0 s3.heap := T.keep _ _ _ st2 fun b _ o e => push b o e
  have I4 := block_start I3 blk nd f3
  have pgX := pg s3 H3 s3.heap.objs.size (cellsFrom (s3.heap.objs.size + 1) scope.names (cloFrom X.env.cells scope.names [])) fp
  have peX := pe s3 H3 s3.heap.objs.size (cellsFrom (s3.heap.objs.size + 1) scope.names (cloFrom X.env.cells scope.names [])) fp
  show codeAny _ _ (.compStart (.SetComp elt [⟨tg, iter, [], 0⟩] scope pos) 0 (.ref it) (.ref N) (compEnvC scope (cellsFrom (s3.heap.objs.size + 1) scope.names (cloFrom X.env.cells scope.names [])) s3.heap.objs.size X.env)) (compPost (model X.prog X.w) X.A X.xe none Qf (.ref N) s3.heap.objs.size) { s3 with heap := pushCells (s3.heap.push { cls := .type "dict", data := .dict #[] }) scope.names }
  have none3 : ∀ b ∈ fp, H3 b = none := fun b hb => (f3 b hb).1.1
  generalize ece : compEnvC scope (cellsFrom (s3.heap.objs.size + 1) scope.names (cloFrom X.env.cells scope.names [])) s3.heap.objs.size X.env = ce at I4 pgX peX ⊢
  have eC : ce.locals = s3.heap.objs.size := by rw [← ece]; rfl
  generalize es4 : ({ s3 with heap := pushCells (s3.heap.push { cls := .type "dict", data := .dict #[] }) scope.names } : Shared) = s4 at I4 ⊢
  have st4 : tn 0 s4.heap := T.keep _ _ _ st3 fun b _ o e => by rw [← es4]; exact pushCells_keeps _ _ _ _ (Heap.get?_push_of_some _ e)
  have fpk : ∀ {σ' : L2.St} {G : Hp} {u : Shared}, Inv (X.blk s3 H3 scope ce fp) [] σ' G u → (∀ b ∈ fp, G b = none) → ∀ b ∈ fp, FpOk (X.blk s3 H3 scope ce fp) [] G b := fun {σ' G u} J' z b hb =>
    ⟨z b hb, (J'.ok.exf b hb).1, J'.ok.exfs b hb, .inl hb, fun x c e => (J'.ok.exf b hb).2 x c e, fun y hy => by have hy : y ∈ ([] : List (Addr × Obj)) ++ [] := hy; simp at hy⟩
  have loop : codeAny (model X.prog X.w) X.A (.compLoop (.SetComp elt [⟨tg, iter, [], 0⟩] scope pos) 0 (.ref it) (.ref N) ce) (compPost (model X.prog X.w) X.A X.xe none Qf (.ref N) s3.heap.objs.size) s4 := by
    refine compLoopS_any (fun left u => ∃ i G, left = n - i ∧ Inv (X.blk s3 H3 scope ce fp) [] (wipe σ (own.map (·.2))) G u ∧ tn i u.heap ∧ (∀ b ∈ fp, G b = none) ∧ Pv i G) ?_ (n - 0) ⟨0, H3, rfl, I4, st4, none3, p0⟩
    rintro left u5 ⟨i, H5, rfl, I5, st5, n5, p5⟩
    rcases turn i H5 p5 with ⟨stop, qq⟩ | ⟨lt, go, step⟩
    · have ends := T.done (X.blk s3 H3 scope ce fp) rfl rfl rfl calm i [] u5 _ H5 (fun _ _ => False) I5 (fpk I5 n5) st5 stop
      refine thnF ends fun r u6 ⟨er, I6⟩ => ?_
      subst er
      have I7 : Inv X pins σ H5 u6 := I3.call' (ch := fp) I6.os I6.base I6.hok I6.bare fun b hb => ⟨(f3 b hb).1.2.2.2.1, (f3 b hb).1.2.1, (f3 b hb).1.2.2.2.2.1, (f3 b hb).1.2.2.2.2.2⟩
      have noC : H5 s3.heap.objs.size = none := by
        rw [← eC]
        exact I6.free
      obtain ⟨m, nsm, _⟩ := I6.loc
      have nsm : u6.heap.Ns s3.heap.objs.size m := by
        rw [← eC]
        exact nsm
      exact fin N s3.heap.objs.size u6 m H5 I7 qq nsm (I3.fpOk (Nat.le_refl _) noC)
    · have item := T.item (X.blk s3 H3 scope ce fp) rfl rfl rfl calm i [] u5 _ H5 (fun _ _ => False) I5 (fpk I5 n5) st5 go
      refine thnF item fun r u6 ⟨v, er, h6⟩ => ?_
      subst er
      refine thnF h6 fun _ u7 ⟨x, H7, I7, r7, y7, st7, n7⟩ => ?_
      have I7p := I7.pinned (fpk I7 n7) (T.obj _ _ st7)
      refine thnF (pgX.run _ u7 _ H7 x v _ I7p r7 (step x H7 y7)) fun _ u8 ⟨σ8, H8, I8, ew, q8⟩ => ?_
      refine thnF ((pts_nil (X := X.blk s3 H3 scope ce fp)).run _ u8 σ8 H8 (fun b G => b = true ∧ te σ8 G _) I8 ⟨rfl, q8⟩) fun b u9 ⟨H9, I9, eb, q9⟩ => ?_
      subst eb
      simp only [if_true]
      refine thnF (peX.run _ u9 σ8 H9 _ I9 q9) fun z u10 ⟨y, H10, I10, r10, c, S, m, ey, hN10, room, p10⟩ => ?_
      subst ey
      refine keyAdd (X := X.blk s3 H3 scope ce fp) I10 hN10 room r10 fun u11 I11 => ?_
      have pinned : ∀ b ∈ fp, ∀ o, u7.heap.get? b = some o → u11.heap.get? b = some o ∧ upd H10 N (SetK X.prog X.w N (addS S c) (addN S m c)) b = none := fun b hb o e =>
        let p := I11.pin (b, o) (List.mem_append_right _ (List.mem_append_right _ (mem_pinsAt hb e)))
        ⟨p.1, p.2.1⟩
      have len : (wipe σ (own.map (·.2))).length = σ8.length := by rw [← ew, wipe_length]
      refine ⟨n - (i + 1), by omega, i + 1, _, rfl, (I11.unpinned (pins := [])).weak len (fun j w e => ?_), T.keep _ _ _ st7 fun b hb o e => (pinned b hb o e).1, fun b hb => ?_, p10⟩
      · rw [← ew] at e
        exact (wipe_some e).1
      · obtain ⟨o, e, _⟩ := T.obj _ _ st7 b hb
        exact (pinned b hb o e).2
  exact codeAny_compStart_set loop (T.self X.A 0 _ _ _ st4 loop)
theorem pe_scK {elt tg iter : Expr} {scope : Scope} {own : List (PySem.Str × Nat)} {pos : Pos} {wi : TI} {g : TG} {te : TE} (calm : X.calm = true) (nd : X.N.Nodup) (hi : PI X tg iter wi) (blk : BlkOk X.N X.env.scope scope own)
    (pg : ∀ (s : Shared) (H : Hp) (C : Addr) (cl : List (PySem.Str × Addr)) (fp : List Addr), PG (X.blk s H scope (compEnvC scope cl C X.env) fp) tg g)
    (pe : ∀ (s : Shared) (H : Hp) (C : Addr) (cl : List (PySem.Str × Addr)) (fp : List Addr), PE (X.blk s H scope (compEnvC scope cl C X.env) fp) elt te) (fs : ∀ x, foldedSetIterable iter X.env x = pure x := by intro _; rfl) :
    PE X (.SetComp elt [⟨tg, iter, [], 0⟩] scope pos) (tScK X.prog X.w wi g te (own.map (·.2))) := by
  refine ⟨fun pins s σ H Q I h => ?_⟩
  rw [eval_SetComp]
  refine scK_run calm nd I hi blk pg pe fs h fun N C s' m H' I' q hn f => ⟨m, hn, fun g sb => ?_⟩
  exact ⟨.ref N, H', I'.turned (t' := s'.toks) (fun b o hb e => (sb.2 b hb).trans e) f.1 f.2.1 f.2.2.2.1 f.2.2.2.2.1 f.2.2.2.2.2, rfl, q⟩
def rLenK (P : Program) (w : World) : List V → Hp → VK → Prop := fun xs H Q => ∃ (a : Addr) (S : Key → Bool) (m : Nat), xs = [V.ref a] ∧ H a = some (SetK P w a S m) ∧ Q (.int m) H
theorem call_lenK : CallR X (.builtin "len") (rLenK X.prog X.w) := by
  intro pins s σ H xs us Q I r h
  obtain ⟨a, S, m, rfl, ha, q⟩ := h
  obtain ⟨u, rfl, rx⟩ := vals1 r
  obtain rfl : u = Value.ref a := rx
  obtain ⟨o, es, ep, t, ho, ex, hd, _, _, few, hf, hn⟩ := setK_get I ha
  have lt : (es.size : Int) < 2 ^ 63 := by
    have e1 : es.size < 4611686018427387904 := Nat.lt_of_lt_of_le few (by decide)
    omega
  exact call_len_set ho ex hd hf lt ⟨.int m, H, I.tok _, ⟨_, by rw [hn]⟩, q⟩
end
end DL
namespace DL
open PySem PySem.Spec PyProof.Rows L2
def dist (l : List Str) : List Str := l.foldl (fun p z => if z ∈ p then p else p ++ [z]) []
theorem dist_snoc (l : List Str) (z : Str) : dist (l ++ [z]) = if z ∈ dist l then dist l else dist l ++ [z] := by
  unfold dist
  rw [List.foldl_append]
  rfl
theorem snoc_ind {C : List Str → Prop} (h0 : C []) (h1 : ∀ l z, C l → C (l ++ [z])) (l : List Str) : C l := by
  rw [← l.reverse_reverse]
  induction l.reverse with
  | nil => exact h0
  | cons z r ih =>
    rw [List.reverse_cons]
    exact h1 _ _ ih
theorem dist_len (l : List Str) : (dist l).length ≤ l.length := by
  refine snoc_ind (C := fun l => (dist l).length ≤ l.length) (Nat.le_refl _) (fun l z ih => ?_) l
  rw [dist_snoc, List.length_append]
  by_cases h : z ∈ dist l
  · rw [if_pos h]; omega
  · rw [if_neg h, List.length_append]; show _ + 1 ≤ _ + 1; omega
theorem dist_nodup (l : List Str) : l.Nodup → dist l = l := by
  refine snoc_ind (C := fun l => l.Nodup → dist l = l) (fun _ => rfl) (fun l z ih h => ?_) l
  rw [List.nodup_append] at h
  rw [dist_snoc, ih h.1, if_neg fun m => h.2.2 z m z (by simp) rfl]
def memS (p : List Str) : Key → Bool
  | .inl _ => false
  | .inr z => decide (z ∈ p)
theorem memS_nil : memS [] = fun _ => false := by
  funext k
  cases k with
  | inl i => rfl
  | inr z => simp [memS]
theorem memS_add (p : List Str) (z : Str) : addS (memS p) (.inr z) = memS (if z ∈ p then p else p ++ [z]) ∧ addN (memS p) p.length (.inr z) = (if z ∈ p then p else p ++ [z]).length := by
  have e : memS p (.inr z) = decide (z ∈ p) := rfl
  constructor
  · funext k
    cases k with
    | inl i =>
      show (false || decide ((Sum.inl i : Key) = .inr z)) = _
      rw [decide_eq_false (fun y => by cases y)]
      rfl
    | inr y =>
      show (decide (y ∈ p) || decide ((Sum.inr y : Key) = .inr z)) = decide (y ∈ _)
      by_cases h : z ∈ p
      · rw [if_pos h]
        by_cases h2 : y = z
        · subst h2; simp [h]
        · have : ¬ ((Sum.inr y : Key) = .inr z) := fun q => h2 (by cases q; rfl)
          rw [decide_eq_false this, Bool.or_false]
      · rw [if_neg h]
        by_cases h2 : y = z
        · subst h2; simp
        · have : ¬ ((Sum.inr y : Key) = .inr z) := fun q => h2 (by cases q; rfl)
          rw [decide_eq_false this, Bool.or_false]
          simp [h2]
  · show (if memS p (.inr z) = true then _ else _) = _
    rw [e]
    by_cases h : z ∈ p
    · rw [decide_eq_true h, if_pos rfl, if_pos h]
    · rw [decide_eq_false h, if_neg (by simp), if_neg h, List.length_append]; rfl
section
variable {χ : Xk} {L : List Addr} {as : List Addr} {ρ : DSt} {O : List D} {k : List Addr → D → List D → Prop} {te : TE} {P : Program} {w : World}
theorem w_lenset {α : Type} {wi : TI} {g : TG} {vs : List Nat} (hg : WG g vs) (h : dI X0 wi L as ρ O fun as1 ds O1 => ∃ (xs : List α) (em : α → D) (f : α → Str), ds = xs.map em ∧ xs.length ≤ 1000 ∧
    (∀ x ∈ xs, dG X0 g (em x) L as1 (wρ ρ vs) O1 fun as2 ρ2 O2 => as2 = as1 ∧ O2 = O1 ∧ dE X0 te L as1 ρ2 O1 fun as4 y O4 => as4 = as1 ∧ O4 = O1 ∧ y = .str (f x)) ∧
    k as1 (.int (dist (xs.map f)).length) O1) : dE χ (tCB (rLenK P w) (tCons (tScK P w wi g te vs) tNil)) L as ρ O k := fun F H σ S x Q q =>
  h F H σ S xp0 _ fun F1 H1 as1 O1 J ds g1 S1 ⟨G, Y, wk, hG, hY⟩ ⟨xs, em, f, eds, few, st, fin⟩ N hN => by
    subst eds
    have hNf := S1.hd.free hN
    have nN : N ∉ as1 := fun m => S1.own.tr m hN
    have keepN : ∀ {Fa Fb : Hp} {Ha Hb : Hp} {u : HO}, Go as1 Fa Ha as1 Fb Hb → Fa N = none → Ha N = some u → Fb N = none ∧ Hb N = some u := fun {Fa Fb Ha Hb u} g f e => by
      refine ⟨?_, g.kp _ _ e nN⟩
      cases z : Fb N with
      | none => rfl
      | some u =>
        rcases g.nw N u z with z | z | z
        · rw [f] at z; cases z
        · rw [e] at z; cases z
        · exact absurd z nN
    let p : Nat → List Str := fun i => dist ((xs.take i).map f)
    refine ⟨xs.length, fun i H' => i ≤ xs.length ∧ ∃ F', Go as1 F1 H1 as1 F' H' ∧ Hd L F' H' ∧ Own F' H' as1 O1 ∧ F' N = none ∧ H' N = some (SetK P w N (memS (p i)) (p i).length), ⟨Nat.zero_le _, F1, ?_, S1.hd.upd hNf, ?_, hNf, ?_⟩, ?_⟩
    · exact ⟨fun _ _ h => h, fun _ _ h => .inl h, fun b o e _ => by rw [upd_ne (ne_of_none e hN)]; exact e, fun b e => by
        by_cases z : b = N
        · subst z; exact hN
        · rw [upd_ne z] at e; exact e, fun _ m => .inl m⟩
    · exact S1.own.keep (fun _ _ h => h) (fun a m => S1.own.free m) fun a m o e => by rw [upd_ne (ne_of_none e hN)]; exact e
    · show upd H1 N (SetK P w N (fun _ => false) 0) N = some (SetK P w N (memS []) 0)
      rw [memS_nil]
      exact upd_same
    rintro i H' ⟨hi, F', g', hd', ow', f', e'⟩
    have hGi := hG F' H' as1 g' hd'
    rcases Nat.lt_or_ge i xs.length with lt | ge
    · refine .inr ⟨lt, wk.1 i H' (by rw [List.length_map]; exact lt) hGi, fun v H2 hy => ?_⟩
      have hy := wk.3 i H' v H2 (by rw [List.length_map]; exact lt) hGi hy
      obtain ⟨F3, d, hdi, g3, hd3, ow3, r3⟩ := hY i as1 H' H2 v F' O1 (by rw [List.length_map]; exact lt) g'.ex hd' ow' hy
      rw [List.getElem?_map, List.getElem?_eq_getElem lt] at hdi
      cases hdi
      obtain ⟨f3, e3⟩ := keepN g3 f' e'
      have S3 : Rep L as1 F3 H2 (L2.wipe σ vs) (wρ ρ vs) O1 := ⟨hd3, ow3, (S1.sl.mono fun a o h => g3.ex _ _ (g'.ex _ _ h)).wipe vs⟩
      refine hg v _ _ _ _ (fun σ2 H3 ew q2 => ⟨ew.trans (wipe_wipe fun _ m => m), q2⟩) (st xs[i] (List.getElem_mem lt) F3 H2 (L2.wipe σ vs) v S3 xp0 r3 _ fun F4 H4 as4 σ4 ρ4 O4 g4 S4 ⟨e1, e2, z4⟩ => ?_)
      subst e1
      subst e2
      obtain ⟨f4, e4⟩ := keepN g4 f3 e3
      refine z4 F4 H4 σ4 S4 xp0 _ fun F5 H5 as5 O5 y dy g5 S5 r5 ⟨e1, e2, ey⟩ => ?_
      subst e1
      subst e2
      subst ey
      obtain ⟨f5, e5⟩ := keepN g5 f4 e4
      cases r5
      have gg := g'.trans (g3.trans (g4.trans g5))
      have len : (p i).length ≤ 1000 := by
        have := dist_len ((xs.take i).map f)
        rw [List.length_map, List.length_take] at this
        show (dist _).length ≤ _
        omega
      have ep : p (i + 1) = if f xs[i] ∈ p i then p i else p i ++ [f xs[i]] := by
        show dist ((xs.take (i + 1)).map f) = _
        rw [List.take_add_one, List.getElem?_eq_getElem lt, List.map_append]
        exact dist_snoc _ _
      obtain ⟨m1, m2⟩ := memS_add (p i) (f xs[i])
      refine ⟨.inr (f xs[i]), memS (p i), (p i).length, rfl, e5, Nat.lt_of_le_of_lt (Nat.succ_le_succ len) (by decide), lt, F5, ?_, S5.hd.upd f5, ?_, f5, ?_⟩
      · refine ⟨gg.ex, gg.nw, fun b o e n => ?_, fun b e => ?_, gg.sub⟩
        · rw [upd_ne (ne_of_none e hN)]
          exact gg.kp b o e n
        · by_cases z : b = N
          · subst z; exact hN
          · rw [upd_ne z] at e; exact gg.th b e
      · exact S5.own.keep (fun _ _ h => h) (fun a m => S5.own.free m) fun a m o e => by
          have : a ≠ N := fun z => nN (by rw [← z]; exact m)
          rw [upd_ne this]; exact e
      · rw [m1, m2, ← ep]
        exact upd_same
    · have : i = xs.length := by omega
      subst this
      have stop := wk.2 H' (by exact hGi)
      rw [List.length_map] at stop
      refine .inl ⟨stop, N, _, _, rfl, e', ?_⟩
      have en : p xs.length = dist (xs.map f) := by show dist ((xs.take xs.length).map f) = _; rw [List.take_length]
      rw [en]
      exact q F' H' as1 O1 _ _ (g1.trans g') ⟨hd', ow', S1.sl.mono g'.ex⟩ (.int _) fin
end
end DL
namespace DL
open PySem PySem.Spec PyProof.Rows L2
def rLtD (K : PySem.W.Frag) : R2 := fun x y H Q => ∃ d e, Dp K H x d ∧ Dp K H y e ∧ PySem.W.alike d e = true ∧ d ≠ .none ∧ min d.depth e.depth ≤ 64 ∧ Q (.bl (PySem.W.dataLt d e)) H
theorem op_ltD {X : Cx} (hu : X.A.units + 64 < cLine) : OpR X (compareOp .Lt) (rLtD X.K) := by
  intro pins s σ H x y v u Q I rx ry h
  obtain ⟨d, e, hd, he, al, nn, dep, q⟩ := h
  obtain ⟨as, r1⟩ := Dp.reads I d x v hd rx
  obtain ⟨bs, r2⟩ := Dp.reads I e y u he ry
  exact PySem.W.rcLt_alike d e X.A s v u as bs r1 r2 al nn (by omega) X.prog X.w _ _ ⟨.bl _, H, I, rfl, q⟩
open PySem.W in
theorem ints_alike : ∀ ns ms : List Int, alikeAll (ns.map PyData.int) (ms.map PyData.int) = true
  | [], l => by cases l <;> rfl
  | _ :: _, [] => rfl
  | n :: ns, m :: ms => by
    show (alike (.int n) (.int m) && alikeAll (ns.map PyData.int) (ms.map PyData.int)) = true
    rw [ints_alike ns ms]
    rfl
open PySem.W in
theorem ints_lt : ∀ ns ms : List Int, PyProof.Rows.lexLt itemOrd (keyToksAll (ns.map PyData.int)) (keyToksAll (ms.map PyData.int)) = HT.lexLt ns ms
  | [], [] => by rfl
  | [], m :: ms => by
    rw [List.map_cons, toks_all_cons]
    rfl
  | n :: ns, [] => by
    rw [List.map_cons, toks_all_cons]
    rfl
  | n :: ns, m :: ms => by
    rw [List.map_cons, List.map_cons, HT.lexLt_cons]
    by_cases h : n = m
    · rw [if_pos h, dataLt_all_yes rfl (by subst h; exact beq_self_eq_true n), ints_lt ns ms]
    · rw [if_neg h, dataLt_all_no rfl (by show (n == m) = false; rw [beq_eq_false_iff_ne]; exact h), dataLt_int]
theorem ints_dp {K : PySem.W.Frag} {H : Hp} : ∀ ns : List Int, DpAll K H (ns.map V.int) (ns.map PyData.int)
  | [] => .nil
  | n :: r => .cons (.int n) (ints_dp r)
theorem ints_depth : ∀ ns : List Int, PyData.depthAll (ns.map PyData.int) = 0
  | [] => rfl
  | n :: r => by
    show max 0 (PyData.depthAll (r.map PyData.int)) = 0
    rw [ints_depth r]
    rfl
open PySem.W in
theorem pair_lt (n m : Int) (ns ms : List Int) : dataLt (.tuple [.int n, .list (ns.map PyData.int)]) (.tuple [.int m, .list (ms.map PyData.int)]) = if n = m then HT.lexLt ns ms else decide (n < m) := by
  rw [dataLt_tuple]
  by_cases h : n = m
  · rw [if_pos h, dataLt_all_yes rfl (by subst h; exact beq_self_eq_true n)]
    have al : alike (.list (ns.map PyData.int)) (.list (ms.map PyData.int)) = true := ints_alike ns ms
    by_cases e : PyData.eqv (.list (ns.map PyData.int)) (.list (ms.map PyData.int)) = true
    · rw [dataLt_all_yes al e]
      have h1 := (toks_eqv _ _ al).1 e
      have h2 := ints_lt ns ms
      rw [← dataLt_list] at h2
      unfold dataLt at h2
      rw [h1] at h2
      rw [← h2]
      generalize keyToks (.list (ms.map PyData.int)) = q
      show false = _
      induction q with
      | nil => rfl
      | cons x q ih => exact ih.trans (lex_self (O := itemOrd) x q q).symm
    · have e : PyData.eqv (.list (ns.map PyData.int)) (.list (ms.map PyData.int)) = false := by simpa using e
      rw [dataLt_all_no al e, dataLt_list, ints_lt]
  · rw [if_neg h, dataLt_all_no rfl (by show (n == m) = false; rw [beq_eq_false_iff_ne]; exact h), dataLt_int]
section
variable {L : List Addr} {as : List Addr} {O : List D} {k : List Addr → D → List D → Prop} {KK : PySem.W.Frag}
theorem rv_ltP {n m : Int} {ns ms : List Int} (z : k as (.bl (if n = m then HT.lexLt ns ms else decide (n < m))) O) : rv (rLtD KK) L as O (.tup [.int n, .lst (ns.map D.int)]) (.tup [.int m, .lst (ms.map D.int)]) k := fun F H x y hd ow r1 r2 Q q => by
  have dp : ∀ {v : V} {i : Int} {l : List Int}, R F v (.tup [.int i, .lst (l.map D.int)]) → Dp KK H v (.tuple [.int i, .list (l.map PyData.int)]) := fun {v i l} r => by
    cases r with
    | tup e r =>
      cases r with
      | cons q1 q2 =>
        cases q2 with
        | cons q3 q4 =>
          cases q4
          cases q1
          cases q3 with
          | lst e2 r2 =>
            rw [r2.ints] at e2
            exact .tup (SqT.of (hd.tup e)) (.cons (.int i) (.cons (.lst (SqL.of (hd.lst e2)) (ints_dp l)) .nil))
  refine ⟨_, _, dp r1, dp r2, ?_, (fun e => by cases e), ?_, ?_⟩
  · show (true && (PySem.W.alikeAll (ns.map PyData.int) (ms.map PyData.int) && true)) = true
    rw [ints_alike]
    rfl
  · show min (max 0 (max (PyData.depthAll (ns.map PyData.int) + 1) 0) + 1) _ ≤ 64
    rw [ints_depth]
    exact Nat.le_trans (Nat.min_le_left _ _) (by decide)
  · rw [pair_lt]
    exact q F H as O _ _ (.refl ..) hd ow (.bl _) z
end
end DL
namespace DL
open PySem PySem.Spec PyProof.Rows L2
section
variable {χ : Xk} {L : List Addr} {ρ : DSt}
theorem frzAll {as0 : List Addr} {O0 : List D} {H : Hp} {σ : L2.St} : ∀ {ps : List Addr} {cs : List D} {F : Hp}, ps.length = cs.length → as0.length = O0.length → Rep L (as0 ++ ps) F H σ ρ (O0 ++ cs) →
    ∃ F', Rep L as0 F' H σ ρ O0 ∧ Go (as0 ++ ps) F H as0 F' H ∧ ∀ (i : Nat) (p : Addr) (c : D), ps[i]? = some p → cs[i]? = some c → R F' (.ref p) c
  | [], [], F, _, _, S => ⟨F, by simpa using S, by simpa using Go.refl as0 F H, fun i p c h => by simp at h⟩
  | [], _ :: _, _, l, _, _ => by cases l
  | _ :: _, [], _, l, _, _ => by cases l
  | p :: ps, c :: cs, F, l, l0, S => by
    have ha : (as0 ++ p :: ps)[as0.length]? = some p := by simp
    have hc : (O0 ++ c :: cs)[as0.length]? = some c := by rw [l0]; simp
    obtain ⟨hf, o, ho, cn⟩ := S.own.at_ _ _ _ ha hc
    have S1 := S.frz ha hc hf ho cn
    have g1 : Go (as0 ++ p :: ps) F H ((as0 ++ p :: ps).eraseIdx as0.length) (upd F p o) H := go_frz hf ha
    have ea : (as0 ++ p :: ps).eraseIdx as0.length = as0 ++ ps := by
      rw [List.eraseIdx_append_of_length_le (Nat.le_refl _)]
      simp
    have eo : (O0 ++ c :: cs).eraseIdx as0.length = O0 ++ cs := by
      rw [l0, List.eraseIdx_append_of_length_le (Nat.le_refl _)]
      simp
    rw [ea, eo] at S1
    rw [ea] at g1
    obtain ⟨F', S2, g2, all⟩ := frzAll (by simpa using l) l0 S1
    refine ⟨F', S2, g1.trans g2, fun i q d h1 h2 => ?_⟩
    cases i with
    | zero =>
      simp at h1 h2
      subst h1
      subst h2
      exact (R.of upd_same (cn.mono (ex_lay hf))).mono g2.ex
    | succ i => exact all i q d (by simpa using h1) (by simpa using h2)
def zipD (ks : List Key) (ds : List D) : List (Key × D) := List.zipWith (fun k d => (k, d)) ks ds
theorem Rk.redo {F : Hp} : ∀ {ks : List Key} {ps : List Addr} {cs : List D} {kvs : List (Key × V)}, ps.length = cs.length → (∀ (i : Nat) (p : Addr) (c : D), ps[i]? = some p → cs[i]? = some c → R F (.ref p) c) → Rk F kvs (zipD ks (ps.map D.adr)) → Rk F kvs (zipD ks cs)
  | [], _, _, _, _, _, r => by
    cases r
    exact .nil
  | _ :: _, [], [], _, _, _, r => by
    cases r
    exact .nil
  | _ :: _, [], _ :: _, _, l, _, _ => by cases l
  | _ :: _, _ :: _, [], _, l, _, _ => by cases l
  | k :: ks, p :: ps, c :: cs, kvs, l, h, r => by
    cases r with
    | cons r1 r2 =>
      cases r1
      exact .cons (h 0 p c rfl rfl) (Rk.redo (by simpa using l) (fun i q d h1 h2 => h (i + 1) q d (by simpa using h1) (by simpa using h2)) r2)
theorem s_frzDict {K : Kt} {ts : TS} {as0 ps : List Addr} {O0 cs : List D} {ks : List Key} (j : Nat) (l : ps.length = cs.length) (l0 : as0.length = O0.length) (hj : O0[j]? = some (.dk (zipD ks (ps.map D.adr))))
    (h : dS χ ts L as0 ρ (O0.set j (.dk (zipD ks cs))) K) : dS χ ts L (as0 ++ ps) ρ (O0 ++ cs) K := fun F H σ S x Z z => by
  obtain ⟨F', S', g, all⟩ := frzAll l l0 S
  have own2 : Own F' H as0 (O0.set j (.dk (zipD ks cs))) := by
    refine ⟨S'.own.nd, by rw [List.length_set]; exact S'.own.len, fun i b d' e1 e2 => ?_⟩
    by_cases q : j = i
    · subst q
      rw [List.getElem?_set_self (List.getElem?_eq_some_iff.mp hj).1] at e2
      cases e2
      obtain ⟨f1, o1, f2, f3⟩ := S'.own.at_ j b _ e1 hj
      cases f3 with
      | dk rk => exact ⟨f1, _, f2, .dk (rk.redo l all)⟩
    · rw [List.getElem?_set_ne q] at e2
      exact S'.own.at_ i b d' e1 e2
  exact h F' H σ ⟨S'.hd, own2, S'.sl⟩ (x.go g) Z (z.go g)
end
end DL
namespace DL
open PySem PySem.Spec PyProof.Rows L2
end DL
namespace PyProof.Rows
open PySem PySem.Spec PySem.Builtin
end PyProof.Rows
namespace DL
open PySem PySem.Spec PyProof.Rows L2
end DL
namespace DL
open PySem PySem.Spec PyProof.Rows L2
section
variable {χ : Xk} {L : List Addr} {as : List Addr} {ρ : DSt} {O : List D} {k : List Addr → D → List D → Prop} {ta te : TE} {t : TA} {d d1 d2 : D} {KK : PySem.W.Frag}
theorem cut_to {ds : List D} {i : Nat} (h : i ≤ ds.length) : cutD ds none (some (i : Nat)) = ds.take i := by
  unfold cutD
  rw [HT.sIx_nat, HT.sIx_none, Nat.min_eq_left h, List.drop_zero, Nat.sub_zero]
theorem cut_from {ds : List D} {i : Nat} : cutD ds (some (i : Nat)) none = ds.drop i := by
  unfold cutD
  rw [HT.sIx_nat, HT.sIx_none]
  by_cases h : i ≤ ds.length
  · rw [Nat.min_eq_left h, List.take_of_length_le (by rw [List.length_drop]; omega)]
  · rw [Nat.min_eq_right (by omega), List.drop_length, List.drop_of_length_le (by omega)]
    simp
end
end DL
namespace DL
open PySem PySem.Spec PyProof.Rows L2 Builtin Builtin.Str Builtin.Int Builtin.Float
theorem core_len (b : Nat) : ∀ (f n : Nat) (acc : List Char), (Nat.toDigitsCore b f n acc).length ≤ f + acc.length
  | 0, _, acc => by
    show acc.length ≤ 0 + acc.length
    omega
  | f + 1, n, acc => by
    unfold Nat.toDigitsCore
    show (if n / b = 0 then (n % b).digitChar :: acc else b.toDigitsCore f (n / b) ((n % b).digitChar :: acc)).length ≤ _
    split
    · simp
      omega
    · have := core_len b f (n / b) ((n % b).digitChar :: acc)
      simp at this
      omega
end DL
namespace PySem
open Sem (wp)
open AutoSeq1 (wpAny_loadPart')
end PySem
namespace DL
open PySem PySem.Spec PyProof.Rows L2
end DL
namespace DL
open PySem PySem.Spec PyProof.Rows L2
mutual
def pdOf : D → PyData
  | .non => .none
  | .bl b => .bool b
  | .int i => .int i
  | .str x => .str x
  | .tup ds => .tuple (pdAll ds)
  | .lst ds => .list (pdAll ds)
  | _ => .dict []
def pdAll : List D → List PyData
  | [] => []
  | d :: r => pdOf d :: pdAll r
end
def okD (n : Nat) (d : D) : Prop := (pdOf d).canLay0 = true ∧ (pdOf d).depth ≤ n
theorem okD.more {n m : Nat} {d : D} (h : okD n d) (l : n ≤ m) : okD m d := ⟨h.1, Nat.le_trans h.2 l⟩
theorem okD.sh {n : Nat} {d : D} (h : okD n d) (l : n ≤ 64) : SeqAt.shaped (pdOf d) = true := by
  unfold SeqAt.shaped
  rw [h.1, decide_eq_true (Nat.le_trans h.2 l)]
  rfl
end DL
namespace DL
open PySem PySem.Spec PyProof.Rows L2 NdefX DLS
end DL
namespace DL
open PySem PySem.Spec PyProof.Rows L2 NdefX DLS
theorem num_len (n : Nat) : (Str.ofString (toString ((n : Nat) : Int))).length ≤ n + 1 := by
  show (Str.ofString (toString ((n : Nat) : Int))).cps.size ≤ _
  rw [← Array.length_toList, PySem.W.KIN.signs_num, List.length_map]
  have := core_len 10 (n + 1) n []
  simpa [Nat.toDigits] using this
theorem init1I {K : PySem.W.Frag} {D : Addr} {f c : Str} {N : List Str} {vs : List V} {H : Hp} {Q : VK} {E : XK} (h : spI K D [f] condI vs H Q E) (hN : N.length = 3) (hc : c.length ≤ 1000 := by decide) :
    tSup K D (tCons (tOp (fun x y H Q => ∃ i j, x = V.str i ∧ y = V.str j ∧ i.length + j.length ≤ sizeLine ∧ Q (.str (i ++ j)) H) (tC (.str c)) (tCB (fun xs H Q => ∃ i, xs = [V.int i] ∧ i.natAbs.log2 < 1920 ∧ Q (.str (toString i)) H) (tCons (tVar 1) tNil))) tNil) (tOst K f (tVar 0) (tVar 1)) { nx := fun _ H' => Q .non H', rt := Q } (startF N vs [some (.ref D)]) H :=
  init1 h hN fun a v σ k e ⟨n, ez, hz⟩ q => by
    cases ez
    refine ⟨_, e, _, rfl, ?_, _, _, rfl, rfl, Nat.le_trans (Nat.add_le_add hc (num_len n)) (Nat.le_trans (show 1000 + (n + 1) ≤ 100000 by omega) (by decide)), q _⟩
    rw [Int.natAbs_natCast]
    by_cases h0 : n = 0
    · subst h0
      decide
    · exact (Nat.log2_lt h0).mpr (Nat.lt_of_le_of_lt hz (by decide +kernel))
section
variable {χ : Xk} {L : List Addr} {as : List Addr} {ρ : DSt} {O : List D} {te : TE} {KK : PySem.W.Frag}
theorem s_raiseI {K : Kt} {C : Addr} {f : Str} {n : Nat} (T : OexC KK C ∧ SupC KK C C ∧ ∀ g ∈ [f], PySem.W.findIn KK (.ref C) g = some none) (hz : n ≤ 90000) (h : dE χ te L as ρ O fun as d O => d = .int (n : Nat) ∧ χ.e L C [(f, .int (n : Nat))] as ρ O) :
    dS χ (fun _ σ H => tMkO C (spI KK C [f] condI) [] (tCons te tNil) σ H fun cls d H' => χ.E cls d σ H') L as ρ O K :=
  s_raise T.1 T.2.1 T.2.2 (by simp) (w_cons (h.imp fun as d O ⟨ed, z'⟩ => w_nil ⟨rfl, fun F vs r => by
    subst ed
    cases r with
    | cons r1 r2 => cases r1; cases r2; exact ⟨n, rfl, hz⟩, by subst ed; exact z'⟩))
end
end DL
namespace DL
open PySem PySem.Spec PyProof.Rows L2
theorem g_subL {χ : Xk} {L as : List Addr} {ρ : DSt} {O : List D} {to ti : TE} {d : D} {kG : List Addr → DSt → List D → Prop} (h : dE χ to L as ρ O fun as1 o O1 => dE χ ti L as1 ρ O1 fun as2 y O2 => ∃ (j : Nat) (a : Addr) (ds : List D) (n : Nat), o = .adr a ∧ as2[j]? = some a ∧ O2[j]? = some (.lst ds) ∧ y = .int (n : Nat) ∧ n < ds.length ∧ kG as2 ρ (O2.set j (.lst (ds.set n d)))) : dG χ (gSub to ti rSetL) d L as ρ O kG := fun F H σ v S x r Q q =>
  h F H σ S x _ fun F1 H1 as1 O1 u o g1 S1 r1 z1 => z1 F1 H1 σ S1 (x.go g1) _ fun F2 H2 as2 O2 w y g2 S2 r2 ⟨j, a, ds, n, eo, ha, ho, ey, hn, z2⟩ => by
    subst eo
    subst ey
    cases r1
    cases r2
    obtain ⟨hf, o2, e2, cn2⟩ := S2.own.at_ j a _ ha ho
    cases cn2 with
    | @lst xs _ rs =>
      refine ⟨a, xs, (n : Nat), n, rfl, rfl, e2, ?_, ?_⟩
      · unfold ixN
        rw [if_pos (by omega), if_pos (by rw [rs.length]; omega)]
        rfl
      · exact q F2 _ as2 σ ρ _ (g1.trans (g2.trans (go_upd (List.mem_of_getElem? ha)))) ⟨S2.hd.upd hf, S2.own.put (.lst (rs.set ((r.mono g1.ex).mono g2.ex) n)) ha, S2.sl⟩ z2
theorem s_tail {χ : Xk} {L : List Addr} {ρ : DSt} {ts : TS} {K : Kt} {as0 : List Addr} {O0 : List D} (hl : as0.length = O0.length) : ∀ {new : List Addr} {cnew : List D}, dS χ ts L as0 ρ O0 K → dS χ ts L (as0 ++ new) ρ (O0 ++ cnew) K := fun {new cnew} h => by
  have key : ∀ (new : List Addr) (cnew : List D), new.length = cnew.length → dS χ ts L (as0 ++ new) ρ (O0 ++ cnew) K := by
    intro new
    induction new with
    | nil =>
      intro cnew e
      cases cnew with
      | nil => rw [List.append_nil, List.append_nil]; exact h
      | cons _ _ => cases e
    | cons a r ih =>
      intro cnew e
      cases cnew with
      | nil => cases e
      | cons c t =>
        refine s_let as0.length ?_
        rw [List.eraseIdx_append_of_length_le (Nat.le_refl _), hl, List.eraseIdx_append_of_length_le (Nat.le_refl _)]
        simp only [Nat.sub_self, List.eraseIdx_zero, List.tail_cons]
        exact ih t (by simpa using e)
  intro F H σ S
  exact key new cnew (by have := S.own.len; rw [List.length_append, List.length_append] at this; omega) F H σ S
theorem s_eq {χ : Xk} {L : List Addr} {ts : TS} {K : Kt} {as as' : List Addr} {ρ ρ' : DSt} {O O' : List D} (h1 : as = as') (h2 : ρ = ρ') (h3 : O = O') (h : dS χ ts L as' ρ' O' K) : dS χ ts L as ρ O K := by
  subst h1
  subst h2
  subst h3
  exact h
theorem Rk.merge {F : Hp} : ∀ {kvs : List (Key × V)} {kds : List (Key × D)}, Rk F kvs kds → ∀ {acc : List (Key × V)} {acc' : List (Key × D)}, Rk F acc acc' → Rk F (kvs.foldl (fun acc kv => putK acc kv.1 kv.2) acc) (kds.foldl (fun acc kv => putDk acc kv.1 kv.2) acc')
  | _, _, .nil, _, _, q => q
  | _, _, .cons r t, _, _, q => Rk.merge t (q.put r)
end DL
namespace DL
open PySem PySem.Spec PyProof.Rows L2
structure FnC (P : Program) (w : World) (K : PySem.W.Frag) (mg : Str → Option Value) (base : Heap) (CX : CXT) (k : Nat) (f : Addr) (fd : FuncData) (ps : List Str) (sp : Sp) : Prop where
  len : ∀ vs H Q E, sp vs H Q E → vs.length = ps.length
  run : ∀ (A : Around) (outer : List Env) (s : Shared) (H : Hp) (args : Args) (us : List Value) (vs : List V) (Q : VK) (E : XK) (p : Addr × Obj), L2H.RoomH k A → L2H.PinOk outer H s p → Env0 P w K mg base A outer s H → BindsTo s fd args (ps.zip us) → Vals vs us → sp vs H Q E →
    codeAny (model P w) A (.call (.ref f) args) (CR CX outer P w H s Q E) s
theorem FunD.okC {P : Program} {w : World} {K : PySem.W.Frag} {mg : Str → Option Value} {base : Heap} {x : Str} {qual : Str} {params : Arguments} {body : List Stmt} {scope : Scope} {dvs : List V} {kws : List (Str × V)} {f : Addr} {fd : FuncData} {CX : CXT} {N ps : List Str} {k : Nat} {sp : Sp} (F : FunD K x qual params body scope dvs kws f fd) (S : FnScope N ps scope) (len : ∀ vs H Q E, sp vs H Q E → vs.length = ps.length)
    (hbody : ∀ (cdv : Value) (A : Around) (outer : List Env) (s : Shared) (H : Hp) (vs : List V) (Q : VK) (E : XK) (p : Addr × Obj), L2H.RoomH k (A.deeper (envOfC qual scope s.heap.objs.size f cdv)) → sp vs H Q E →
      ∃ t, PSs (L2H.cxH CX P w K mg base N qual scope f cdv A outer s H E p) body t ∧ t { nx := fun _ H' => Q .non H', rt := Q } (start N vs) H) : FnC P w K mg base CX (k + 1) f fd ps sp := by
  obtain ⟨oc, od, dV, kV, doc, pm, an, cdv, ct, osl, rfl, lk, hcd, _, _⟩ := F.ex
  refine ⟨len, fun A outer s H args us vs Q E p hr hpin e0 hb r hsp => ?_⟩
  have KX : K.In s.heap := e0.mod.kin.keeps fun b o e => (e0.bs b o e).1
  have hkind : ∀ y ∈ ps.zip us, scope.names.lookup y.1 = some .local ∨ (scope.names.lookup y.1 = some .cell ∧ ((cellsFrom (s.heap.objs.size + 1) scope.names []).lookup y.1).isSome = true) := fun ⟨n, v⟩ hy => by
    rcases S.par n (List.of_mem_zip hy).1 with q | q
    · exact .inl q
    · exact .inr ⟨q, PySem.W.cellsFrom_some _ _ _ (.inl q)⟩
  refine codeAny_call_function hr.depth (KX _ _ lk) rfl S.co S.gen rfl (PySem.W.codeRec_of KX hcd) (hb _ _ _ _ ?_)
  refine wpAny_newFunctionEnv_cells S.kind hkind fun env he s1 x => ?_
  subst he
  refine ⟨(e0.mod.nolimit.keeps fun b o e => (e0.bs b o e).1).keeps x.toInCall.keep, codeAny_func ?_⟩
  obtain ⟨t, ht, hq⟩ := hbody cdv A outer s H vs Q E p (hr.deeper _) hsp
  refine wpAny_mono (ht.run [] s1 (L2.start N vs) H _ (L2H.inv_startH S hpin e0 (len _ _ _ _ hsp) r x) hq) (fun fl s' hs => ?_) fun e s' hs => hs
  cases fl with
  | ret u =>
    obtain ⟨v, σ', H', J, rv, q⟩ := hs
    exact ⟨v, H', J.os, J.bare, J.base, J.hok, rv, q⟩
  | next =>
    obtain ⟨σ', H', J, q⟩ := hs
    exact ⟨.non, H', J.os, J.bare, J.base, J.hok, rfl, q⟩
  | brk =>
    obtain ⟨_, _, _, q⟩ := hs
    exact False.elim q
  | cont =>
    obtain ⟨_, _, _, q⟩ := hs
    exact False.elim q
theorem roomH_mark {k : Nat} {A : Around} {h : Option Value} (r : Room k A) : L2H.RoomH k (A.mark h) := ⟨r.dp, r.un⟩
section
variable {X : Cx} {CX : CXT} {k : Nat} {f : Addr} {fd : FuncData} {ps : List Str} {sp : Sp} {E : XK} {x : Str} {pos q : Pos} {e : Expr} {es : List Expr} {t : TA}
theorem pe_callC (F : FnC X.prog X.w X.K X.mg X.base CX k f fd ps sp) (hr : L2H.RoomH k X.A) {p : Addr × Obj} (hp : p ∈ X.pn) (hg : Gl X x) (hm : X.mg x = some (.ref f)) (hk : PySem.W.keepIn X.K (.ref f) = true) (hb : Binds X.K fd ps []) (hx : Passes CX X E)
    (ha : PA X (e :: es) t) (hdb : (x == ("__debug__" : Str)) = false := by decide) (he : starEach (e :: es) X.env = (false, eval e X.env) :: starEach es X.env := by rfl) (hpl : (backTo pos (starEach es X.env)).any (·.1) = false := by rfl) :
    PE X (.Call (.Name x q) (e :: es) [] pos) (tCall sp [] E t) := by
  refine ⟨fun pins s σ H Q I h => wpAny_Call_Name_kw (ld_glob I hg hm ?_ hdb)⟩
  refine PySem.W.callWith_K (h₀ := X.base) I.ok.mod.kin hk (thn (ha.run pos pins s σ H _ I h) fun us s1 ⟨vs, H1, I1, r, q1⟩ => ⟨I1.kIn, ?_⟩) he hpl
  have z : sp vs H1 Q E := by rw [← List.append_nil vs]; exact q1
  have hl : us.length = ps.length := by rw [← r.length]; exact F.len _ _ _ _ z
  have b := hb s1 us I1.kIn (by rw [List.append_nil]; exact hl)
  rw [List.append_nil] at b
  have P1 := I1.pin p (List.mem_append_left _ hp)
  have hpin : L2H.PinOk X.stack H1 s1 p := ⟨P1.1, P1.2.1, fun hm => (List.mem_cons.mp (I1.stkSub p.1 hm)).elim P1.2.2.1 P1.2.2.2.1, P1.2.2.2.2⟩
  refine wpAny_call (codeAny_mono (F.run X.A X.stack s1 H1 ⟨us, []⟩ us vs Q E p hr hpin I1.env0 b r z) fun rr s' hq => ?_)
  cases rr with
  | error ev => exact hx pins σ H1 s1 ev s' I1 hq
  | ok fl =>
    cases fl with
    | ret u => exact I1.after hq
    | next => exact False.elim hq
    | brk => exact False.elim hq
    | cont => exact False.elim hq
end
end DL
set_option maxHeartbeats 4000000
namespace DL
open PySem PySem.Spec PyProof.Rows L2 CwR
def PTT (X : Cx) (e : Expr) (t : TT) : Prop :=
  ∀ (pins : List (Addr × Obj)) (s : Shared) (σ : L2.St) (H : Hp) (Q : Bool → Hp → Prop), 1 ≤ s.toks → Inv X pins σ H s → t σ H Q → wpAny (model X.prog X.w) X.A (isTrue e X.env (eval e X.env)) (TP X pins σ Q) X.xe s
section
variable {X : Cx} {a b e o : Expr} {es : List Expr} {ta tb te to : TE} {t tA : TT} {u : TA} {pos p apos cpos : Pos}
theorem PTT.of (h : PT X e t) : PTT X e t := fun pins s σ H Q _ I q => h.run pins s σ H Q I q
end
end DL
namespace DL
open PySem PySem.Spec PyProof.Rows L2
end DL
namespace DL
open PySem PySem.Spec PyProof.Rows L2
theorem ru_negO {L as : List Addr} {O : List D} {k : List Addr → D → List D → Prop} {i : Int} (z : k as (.int (-i)) O) : ru (rU fun i => .int (-i)) L as O (.int i) k := fun F H x hd ow r Q q => by
  cases r
  exact ⟨i, rfl, q F H as O _ _ (.refl ..) hd ow (.int _) z⟩
end DL
namespace DL
open PySem PySem.Spec PyProof.Rows L2
end DL
namespace DL
open PySem PySem.Spec PyProof.Rows L2
end DL
namespace DL
open PySem PySem.Spec PyProof.Rows L2
end DL
namespace DL
open PySem PySem.Spec PyProof.Rows L2
theorem law_start {K : PySem.W.Frag} {C : Ct} {H : Hp} {a : Addr} {ns : List Int} (hO : Only H) (hS : SqL K H a (ns.map V.int))
    (hC : ∀ d, lstR [] [] K d (ns.map D.int) → C [] [] [d] [] (fun _ d _ => d = .bl true) (fun _ _ _ _ _ => False)) : spC C [.ref a] H (fun v _ => v = .bl true) fun _ _ _ => False := by
  have fin : ∀ {F' : Hp} {v : V} {d : D}, R F' v d → d = .bl true → v = .bl true := fun r e => by
    subst e
    cases r
    rfl
  rcases hS with hS | hS
  · have hz : ∃ ob, H a = some (.frz ob (.lst (ns.map V.int))) := by
      rcases hS with h | ⟨ob, h⟩
      · rcases hO a with z | ⟨o, xs, z⟩
        · rw [h] at z; cases z
        · rw [h] at z; cases z
      · exact ⟨ob, h⟩
    obtain ⟨ob, h⟩ := hz
    refine ⟨[], fun b => if b = a then some (.frz ob (.lst (ns.map V.int))) else none, [], [.zst (ns.map D.int)], [], _, _, ⟨fun b o e => ?_, fun b m => (by cases m)⟩, ⟨List.nodup_nil, rfl, fun i b d h1 => by simp at h1⟩, .cons (.zst (o := ob) (if_pos rfl) (rs_ints ns)) .nil, hC _ (.inr (.inl rfl)), ?_, ?_⟩
    · by_cases q : b = a
      · subst q
        rw [if_pos rfl] at e
        cases e
        exact .inl ⟨fun m => (by cases m), h⟩
      · rw [if_neg q] at e; cases e
    · exact fun F' H' as' O' v d _ _ _ r e => fin r e
    · exact fun F' H' L' as' O' cls d fds _ _ _ _ z => z
  · refine ⟨[], fun _ => none, [], [.zkl K (ns.map D.int)], [], _, _, ⟨fun b o e => (by cases e), fun b m => (by cases m)⟩, ⟨List.nodup_nil, rfl, fun i b d h1 => by simp at h1⟩, .cons (.zkl (fun H => .inr hS) (rs_ints ns)) .nil, hC _ (.inr (.inr rfl)), ?_, ?_⟩
    · exact fun F' H' as' O' v d _ _ _ r e => fin r e
    · exact fun F' H' L' as' O' cls d fds _ _ _ _ z => z
theorem cx_none {P : Program} {w : World} {H : Hp} {s : Shared} {e : Value} {s' : Shared} (c : L2.CX P w [] H s (fun _ _ _ => False) e s') : False := by
  obtain ⟨_, _, _, _, _, _, _, _, _, _, _, _, z⟩ := c
  exact z
theorem walk_ofW {l : PySem.W.OpenLaw} {n k : Nat} {q : Program} {loose : List Str} {XP : (Str → Option Value) → Heap → Prop} {YP : World → Heap → Prop} {d : DefRec} {CX : World → CXT} {x : Str}
    (hn : l.most = some n) (hn2 : n ≤ sizeLine) (hdf : d.params.defaults = []) (hr : Room k callerA)
    (F : ∀ (w : World) (mg : Str → Option Value) (fa : Addr) (h : Heap), YP w h → h.Ns mainGlobals mg → mg d.name = some (.ref fa) →
      ∃ (K : PySem.W.Frag) (fd : FuncData) (sp : Sp), K.In h ∧ (∀ (s : Shared) (u : Value), BindsTo s fd ⟨[u], []⟩ [(x, u)]) ∧
        (∀ (H : Hp) (a : Addr) (ns : List Int), ns.length ≤ n → Only H → SqL K H a (ns.map V.int) → sp [.ref a] H (fun v _ => v = .bl true) fun _ _ _ => False) ∧
        ∀ base : Heap, K.In base → base.Ns mainGlobals mg → FnOk l.prog w K mg base (CX w) k fa fd [x] sp)
    (hCX : ∀ (w : World) (H : Hp) (s : Shared) (e : Value) (s' : Shared), CX w [] H s (fun _ _ _ => False) e s' → False) :
    PySem.W.WalkO q loose XP YP l.row.toRowW d [] (fun f vs => PySem.call f vs) := by
  refine Att.attach_call hn hdf fun w s₀ s₁ mg mb fa o pm cd doc a vs ns G Y ho hd hcd hmg hobj hints hlen hg => ?_
  obtain ⟨K, fd, sp, KX, hb, hsp, hF⟩ := F w mg fa _ Y G.T.g hmg
  exact law_call KX G.T.g G.T.b G.T.builtins G.T.nolimit hg hobj hints (Nat.le_trans hlen hn2) hr hF hb (fun H hO hS => hsp H a ns hlen hO hS) fun H e s' => hCX w H s₁ e s'
end DL
namespace MN
open PySem L2 DL
abbrev tl (z : Str) : List Nat := z.cps.toList
def letS : Str := "ABCDEFGHIJKLMNOPQRSTUVWXYZabcdefghijklmnopqrstuvwxyz"
def digS : Str := "0123456789"
def alnS : Str := "abcdefghijklmnopqrstuvwxyzABCDEFGHIJKLMNOPQRSTUVWXYZ0123456789"
def okc (c : Nat) : Bool := decide (c ∈ tl letS) || decide (c ∈ tl digS)
def nameL : List Nat → Bool
  | [] => false
  | c :: r => decide (c ∈ tl letS) && r.all okc
def isName (z : Str) : Bool := nameL (tl z) && decide (z.length ≤ 24)
theorem aln_ok : ∀ i, i < 62 → ∃ c, (tl alnS)[i]? = some c ∧ okc c = true ∧ c < 0x110000 := by decide +kernel
theorem let_ok : ∀ i, i < 52 → ∃ c, (tl alnS)[i]? = some c ∧ decide (c ∈ tl letS) = true ∧ c < 0x110000 := by decide +kernel
theorem let_okc {c : Nat} (h : decide (c ∈ tl letS) = true) : okc c = true := by unfold okc; rw [h]; rfl
theorem aln_at {n : Int} {m : Int} (hm : 0 < m) (h62 : m ≤ 62) : ∃ c, atI (tl alnS) (n % m) = some c ∧ okc c = true ∧ c < 0x110000 := by
  have h0 := Int.emod_nonneg n (Int.ne_of_gt hm)
  have h1 := Int.emod_lt_of_pos n hm
  obtain ⟨c, e, h⟩ := aln_ok (n % m).toNat (by omega)
  exact ⟨c, by rw [show n % m = ((n % m).toNat : Int) by omega]; exact atI_nat e, h⟩
theorem let_at {n : Int} : ∃ c, atI (tl alnS) (n % 52) = some c ∧ decide (c ∈ tl letS) = true ∧ c < 0x110000 := by
  have h0 := Int.emod_nonneg n (show (52 : Int) ≠ 0 by decide)
  have h1 := Int.emod_lt_of_pos n (show (0 : Int) < 52 by decide)
  obtain ⟨c, e, h⟩ := let_ok (n % 52).toNat (by omega)
  exact ⟨c, by rw [show n % 52 = ((n % 52).toNat : Int) by omega]; exact atI_nat e, h⟩
theorem tl_app (x y : Str) : tl (x ++ y) = tl x ++ tl y := TL.tl_append x y
theorem len_tl (x : Str) : x.length = (tl x).length := TL.len_tl x
theorem nameL_app {l m : List Nat} (h : nameL l = true) (hm : m.all okc = true) : nameL (l ++ m) = true := by
  cases l with
  | nil => cases h
  | cons c r =>
    simp only [nameL, Bool.and_eq_true] at h
    show (decide (c ∈ tl letS) && (r ++ m).all okc) = true
    rw [h.1, List.all_append, h.2, hm]
    rfl
def exs (n : Nat) : Str := ⟨(List.replicate n 120).toArray⟩
theorem tl_exs (n : Nat) : tl (exs n) = List.replicate n 120 := by simp [exs, tl]
theorem exs_succ (b : Str) (n : Nat) : (b ++ exs n) ++ ("x" : Str) = b ++ exs (n + 1) := by
  apply TL.ext_tl
  show tl _ = tl _
  rw [tl_app, tl_app, tl_app, tl_exs, tl_exs, List.replicate_succ', List.append_assoc]
  rfl
theorem exs_zero (b : Str) : b ++ exs 0 = b := by
  apply TL.ext_tl
  show tl _ = tl _
  rw [tl_app, tl_exs]
  simp
theorem exs_inj (b : Str) {i j : Nat} (h : b ++ exs i = b ++ exs j) : i = j := by
  have := congrArg (fun z => (tl z).length) h
  simp only [tl_app, tl_exs, List.length_append, List.length_replicate] at this
  omega
theorem pigeon {α : Type} [BEq α] [LawfulBEq α] {f : Nat → α} (inj : ∀ i j, f i = f j → i = j) : ∀ (n : Nat) (zs : List α), (∀ j, j < n → f j ∈ zs) → n ≤ zs.length
  | 0, _, _ => Nat.zero_le _
  | n + 1, zs, h => by
    have h1 : f n ∈ zs := h n (Nat.lt_succ_self n)
    have := pigeon inj n (zs.erase (f n)) fun j hj => (List.mem_erase_of_ne (fun e => by have := inj _ _ e; omega)).mpr (h j (by omega))
    rw [List.length_erase_of_mem h1] at this
    have : 0 < zs.length := List.length_pos_of_mem h1
    omega
end MN
namespace MR
open PySem L2 DL
def byteS : Str := "byte"
structure Part where
  nm : Str
  inn : Str
  pr : Option Int
def dPart (p : Part) : D := .tup (.str p.nm :: .str p.inn :: match p.pr with
  | none => []
  | some i => [.int i])
structure Row where
  kind : Str
  maker : Str
  parts : List Part
def dRow (r : Row) : D := .tup [.str r.kind, .str r.maker, .tup (r.parts.map dPart)]
def trees (ps : List Part) : Nat := (ps.filter fun p => p.pr.isSome).length
def Part.ok (nms : List Str) (p : Part) : Prop := (p.inn = byteS ∧ p.pr = none) ∨ (p.inn ∈ nms ∧ ∃ i : Int, p.pr = some i ∧ 1 ≤ i ∧ i ≤ 1000)
structure Drawn (nms : List Str) (b : Bool) (ps : List Part) : Prop where
  len : ps.length ≤ 4
  nd : (ps.map (·.nm)).Nodup
  name : ∀ p ∈ ps, MN.nameL (MN.tl p.nm) = true ∧ p.nm.length ≤ 8
  ok : ∀ p ∈ ps, p.ok nms
  few : b = true → trees ps ≤ 2
theorem Drawn.nil {nms : List Str} {b : Bool} : Drawn nms b [] where
  len := by simp
  nd := by simp
  name := by simp
  ok := by simp
  few := fun _ => by simp [trees]
theorem trees_app (ps : List Part) (p : Part) : trees (ps ++ [p]) = trees ps + if p.pr.isSome then 1 else 0 := by
  unfold trees
  rw [List.filter_append, List.length_append]
  cases h : p.pr <;> simp [h]
theorem Drawn.snoc {nms : List Str} {b : Bool} {ps : List Part} {p : Part} (h : Drawn nms b ps) (hl : ps.length < 4) (h1 : MN.nameL (MN.tl p.nm) = true) (h2 : p.nm.length ≤ 8) (h3 : p.nm ∉ ps.map (·.nm)) (h4 : p.ok nms) (h5 : b = true → p.pr.isSome = true → trees ps < 2) : Drawn nms b (ps ++ [p]) where
  len := by rw [List.length_append]; show ps.length + 1 ≤ 4; omega
  nd := by
    rw [List.map_append, List.nodup_append]
    refine ⟨h.nd, by simp, fun a m c m' z => ?_⟩
    simp at m'
    subst m'
    subst z
    exact h3 m
  name := fun q m => by
    rcases List.mem_append.mp m with m | m
    · exact h.name q m
    · simp at m; subst m; exact ⟨h1, h2⟩
  ok := fun q m => by
    rcases List.mem_append.mp m with m | m
    · exact h.ok q m
    · simp at m; subst m; exact h4
  few := fun e => by
    rw [trees_app]
    have := h.few e
    cases z : p.pr.isSome with
    | false => simpa [z] using this
    | true => have := h5 e z; simp; omega
theorem Drawn.wide {nms ms : List Str} {b : Bool} {ps : List Part} (h : Drawn nms b ps) (s : ∀ x ∈ nms, x ∈ ms) : Drawn ms b ps :=
  ⟨h.len, h.nd, h.name, fun p m => (h.ok p m).imp id fun ⟨z, y⟩ => ⟨s _ z, y⟩, h.few⟩
structure Names (nms : List Str) : Prop where
  nd : nms.Nodup
  name : ∀ z ∈ nms, MN.nameL (MN.tl z) = true ∧ z.length ≤ 8
  byte : byteS ∉ nms
structure Some_ (nms : List Str) (n : Nat) (rows : List Row) : Prop where
  len : rows.length ≤ n
  nd : (rows.map (·.maker)).Nodup
  maker : ∀ r ∈ rows, MN.nameL (MN.tl r.maker) = true ∧ r.maker.length ≤ 14
  kind : ∀ r ∈ rows, r.kind ∈ nms
  parts : ∀ r ∈ rows, ∃ b, Drawn nms b r.parts
def Base (nms : List Str) (rows : List Row) (k : Nat) : Prop := ∃ r ∈ rows, nms[k]? = some r.kind ∧ ∀ p ∈ r.parts, p.inn = byteS ∨ p.inn ∈ nms.drop (k + 1)
theorem Base.more {nms : List Str} {rows : List Row} {k : Nat} (h : Base nms rows k) (r : Row) : Base nms (rows ++ [r]) k := by
  obtain ⟨x, m, z⟩ := h
  exact ⟨x, List.mem_append_left _ m, z⟩
theorem Some_.nil {nms : List Str} {n : Nat} : Some_ nms n [] where
  len := by simp
  nd := by simp
  maker := by simp
  kind := by simp
  parts := by simp
theorem Some_.snoc {nms : List Str} {n : Nat} {rows : List Row} {r : Row} (h : Some_ nms n rows) (h1 : MN.nameL (MN.tl r.maker) = true ∧ r.maker.length ≤ 14) (h2 : r.maker ∉ rows.map (·.maker)) (h3 : r.kind ∈ nms) (h4 : ∃ b, Drawn nms b r.parts) : Some_ nms (n + 1) (rows ++ [r]) where
  len := by rw [List.length_append]; have := h.len; show rows.length + 1 ≤ _; omega
  nd := by
    rw [List.map_append, List.nodup_append]
    refine ⟨h.nd, by simp, fun a m c m' z => ?_⟩
    simp at m'
    subst m'
    subst z
    exact h2 m
  maker := fun q m => by
    rcases List.mem_append.mp m with m | m
    · exact h.maker q m
    · simp at m; subst m; exact h1
  kind := fun q m => by
    rcases List.mem_append.mp m with m | m
    · exact h.kind q m
    · simp at m; subst m; exact h3
  parts := fun q m => by
    rcases List.mem_append.mp m with m | m
    · exact h.parts q m
    · simp at m; subst m; exact h4
theorem Some_.le {nms : List Str} {n m : Nat} {rows : List Row} (h : Some_ nms n rows) (l : n ≤ m) : Some_ nms m rows := { h with len := Nat.le_trans h.len l }
structure SomeX (nms : List Str) (rows : List Row) : Prop where
  len : rows.length ≤ 10
  nd : (rows.map (·.maker)).Nodup
  maker : ∀ r ∈ rows, MN.nameL (MN.tl r.maker) = true ∧ r.maker.length ≤ 24
  kind : ∀ r ∈ rows, r.kind ∈ nms
  parts : ∀ r ∈ rows, ∃ b, Drawn nms b r.parts
theorem Some_.x {nms : List Str} {n : Nat} {rows : List Row} (h : Some_ nms n rows) (l : n ≤ 10) : SomeX nms rows := ⟨Nat.le_trans h.len l, h.nd, fun r m => ⟨(h.maker r m).1, Nat.le_trans (h.maker r m).2 (by decide)⟩, h.kind, h.parts⟩
structure Table (nms : List Str) (rows : List Row) : Prop where
  names : Names nms
  few : nms.length ≤ 3
  ne : rows ≠ []
  some : SomeX nms rows
  base : ∀ k, k < nms.length → Base nms rows k
theorem Table.perm {nms : List Str} {rows rows' : List Row} (h : Table nms rows) (p : rows'.Perm rows) : Table nms rows' where
  names := h.names
  few := h.few
  ne := fun e => h.ne (by subst e; exact p.symm.eq_nil)
  some := ⟨by rw [p.length_eq]; exact h.some.len, (p.map _).nodup_iff.mpr h.some.nd, fun r m => h.some.maker r (p.mem_iff.mp m), fun r m => h.some.kind r (p.mem_iff.mp m), fun r m => h.some.parts r (p.mem_iff.mp m)⟩
  base := fun k hk => by
    obtain ⟨r, m, z⟩ := h.base k hk
    exact ⟨r, p.mem_iff.mpr m, z⟩
end MR
namespace MT
open PySem L2 DL
def tabF (t f n o s : D) : List (Str × D) := [("table", t), ("family", f), ("names", n), ("order", o), ("smallest", s)]
def dEnt (kind : Str) (tag : Nat) (ps : List MR.Part) : D := .tup [.str kind, .int (tag : Nat), .tup (ps.map MR.dPart)]
end MT
namespace ML
open PySem L2 DL
theorem valD_cons {k j : Key} {d : D} {r : List (Key × D)} : valD ((j, d) :: r) k = if j = k then some d else valD r k := by
  unfold valD
  rw [List.find?_cons]
  by_cases h : j = k
  · rw [if_pos h]; simp [h]
  · rw [if_neg h]; simp [h]
theorem valD_app {k : Key} : ∀ {a b : List (Key × D)}, valD (a ++ b) k = (valD a k).or (valD b k)
  | [], b => by simp [valD]
  | (j, d) :: a, b => by
    rw [List.cons_append, valD_cons, valD_cons, valD_app (a := a)]
    by_cases h : j = k
    · rw [if_pos h, if_pos h]; rfl
    · rw [if_neg h, if_neg h]
theorem any_valD {k : Key} : ∀ {a : List (Key × D)}, (a.any fun kv => decide (kv.1 = k)) = (valD a k).isSome
  | [] => rfl
  | (j, d) :: a => by
    rw [List.any_cons, valD_cons, any_valD (a := a)]
    by_cases h : j = k
    · rw [if_pos h]; simp [h]
    · rw [if_neg h]; simp [h]
theorem valD_map {k j : Key} {y : D} : ∀ {a : List (Key × D)}, valD (a.map fun kv => if kv.1 = k then (kv.1, y) else kv) j = (valD a j).map fun d => if j = k then y else d
  | [] => rfl
  | (i, d) :: a => by
    rw [List.map_cons, valD_cons]
    by_cases h : i = k
    · rw [if_pos h, valD_cons, valD_map (a := a)]
      by_cases h2 : i = j
      · rw [if_pos h2, if_pos h2]; simp [← h2, h]
      · rw [if_neg h2, if_neg h2]
    · rw [if_neg h, valD_cons, valD_map (a := a)]
      by_cases h2 : i = j
      · rw [if_pos h2, if_pos h2]; simp [← h2, h]
      · rw [if_neg h2, if_neg h2]
theorem valD_put {k j : Key} {y : D} {a : List (Key × D)} : valD (putDk a k y) j = if j = k then some y else valD a j := by
  unfold putDk
  rw [any_valD]
  by_cases h : (valD a k).isSome = true
  · rw [if_pos h, valD_map]
    by_cases h2 : j = k
    · subst h2
      rw [if_pos rfl]
      cases e : valD a j with
      | none => rw [e] at h; cases h
      | some d => simp
    · rw [if_neg h2]
      cases valD a j <;> simp [h2]
  · rw [if_neg h, valD_app, valD_cons]
    have hn : valD a k = none := by
      cases e : valD a k with
      | none => rfl
      | some d => rw [e] at h; exact absurd rfl h
    by_cases h2 : j = k
    · subst h2
      rw [if_pos rfl, hn, if_pos rfl]
      rfl
    · rw [if_neg h2, if_neg (fun z => h2 z.symm)]
      cases valD a j <;> rfl
theorem mem_put {k : Key} {y : D} {a : List (Key × D)} {kv : Key × D} (h : kv ∈ putDk a k y) : kv.2 = y ∨ kv ∈ a := by
  unfold putDk at h
  by_cases z : (a.any fun kv => decide (kv.1 = k)) = true
  · rw [if_pos z] at h
    obtain ⟨u, m, e⟩ := List.mem_map.mp h
    by_cases q : u.1 = k
    · rw [if_pos q] at e; subst e; exact .inl rfl
    · rw [if_neg q] at e; subst e; exact .inr m
  · rw [if_neg z] at h
    rcases List.mem_append.mp h with m | m
    · exact .inr m
    · simp at m; subst m; exact .inl rfl
theorem len_put {k : Key} {y : D} {a : List (Key × D)} : (putDk a k y).length ≤ a.length + 1 := by
  unfold putDk
  by_cases z : (a.any fun kv => decide (kv.1 = k)) = true
  · rw [if_pos z, List.length_map]; omega
  · rw [if_neg z, List.length_append]; exact Nat.le_refl _
def val : List Int → Nat
  | [] => 0
  | x :: r => x.toNat * 10 ^ r.length + val r
def Dig (ns : List Int) : Prop := ∀ e ∈ ns, 0 ≤ e ∧ e < 10
theorem val_lt : ∀ {ns : List Int}, Dig ns → val ns < 10 ^ ns.length
  | [], _ => by decide
  | x :: r, h => by
    have h1 := val_lt (ns := r) fun e m => h e (List.mem_cons_of_mem _ m)
    have h2 := h x List.mem_cons_self
    have h3 : x.toNat + 1 ≤ 10 := by omega
    have h4 := Nat.mul_le_mul_right (10 ^ r.length) h3
    rw [Nat.add_mul, Nat.one_mul] at h4
    show x.toNat * 10 ^ r.length + val r < 10 ^ (r.length + 1)
    rw [Nat.pow_succ, Nat.mul_comm (10 ^ r.length)]
    omega
theorem val_lex : ∀ {ns ms : List Int}, Dig ns → Dig ms → ns.length = ms.length → HT.lexLt ns ms = true → val ns < val ms
  | [], [], _, _, _, h => by cases h
  | [], _ :: _, _, _, l, _ => by cases l
  | _ :: _, [], _, _, l, _ => by cases l
  | x :: r, y :: t, h1, h2, l, h => by
    have l : r.length = t.length := by simpa using l
    have d1 : Dig r := fun e m => h1 e (List.mem_cons_of_mem _ m)
    have d2 : Dig t := fun e m => h2 e (List.mem_cons_of_mem _ m)
    rw [HT.lexLt_cons] at h
    show x.toNat * 10 ^ r.length + val r < y.toNat * 10 ^ t.length + val t
    by_cases q : x = y
    · rw [if_pos q] at h
      have := val_lex d1 d2 l h
      rw [q, l]
      omega
    · rw [if_neg q] at h
      have h := of_decide_eq_true h
      have hx := h1 x List.mem_cons_self
      have h3 : x.toNat + 1 ≤ y.toNat := by have := h2 y List.mem_cons_self; omega
      have h4 := Nat.mul_le_mul_right (10 ^ r.length) h3
      rw [Nat.add_mul, Nat.one_mul] at h4
      have := val_lt d1
      rw [← l]
      omega
def P : Nat := 10 ^ 90
def code (ns : List Int) : Nat := ns.length * P + val ns
theorem val_P {ns : List Int} (d : Dig ns) (l : ns.length ≤ 90) : val ns < P := Nat.lt_of_lt_of_le (val_lt d) (Nat.pow_le_pow_right (by decide) l)
theorem code_lt {ns ms : List Int} (d1 : Dig ns) (d2 : Dig ms) (l1 : ns.length ≤ 90) (h : (if (ns.length : Int) = (ms.length : Int) then HT.lexLt ns ms else decide ((ns.length : Int) < (ms.length : Int))) = true) : code ns < code ms ∧ ns.length ≤ ms.length := by
  unfold code
  by_cases e : (ns.length : Int) = (ms.length : Int)
  · rw [if_pos e] at h
    have e : ns.length = ms.length := by omega
    have := val_lex d1 d2 e h
    rw [e]
    omega
  · rw [if_neg e] at h
    have h := of_decide_eq_true h
    have h3 : ns.length + 1 ≤ ms.length := by omega
    have h4 := Nat.mul_le_mul_right P h3
    rw [Nat.add_mul, Nat.one_mul] at h4
    have := val_P d1 l1
    omega
def BIG : Nat := 100 * P
theorem code_big {ns : List Int} (d : Dig ns) (l : ns.length ≤ 90) : code ns < BIG := by
  unfold code BIG
  have h1 := val_P d l
  have h2 := Nat.mul_le_mul_right P l
  omega
def sumf (f : Str → Nat) : List Str → Nat
  | [] => 0
  | k :: r => f k + sumf f r
theorem sum_out {f g : Str → Nat} {k : Str} (h : ∀ j, j ≠ k → f j = g j) : ∀ {l : List Str}, k ∉ l → sumf f l = sumf g l
  | [], _ => rfl
  | j :: r, n => by
    show f j + _ = g j + _
    rw [h j (fun z => n (z ▸ List.mem_cons_self)), sum_out h fun m => n (List.mem_cons_of_mem _ m)]
theorem sum_upd {f g : Str → Nat} {k : Str} (h : ∀ j, j ≠ k → f j = g j) : ∀ {l : List Str}, l.Nodup → k ∈ l → sumf f l + g k = sumf g l + f k
  | [], _, m => by cases m
  | j :: r, nd, m => by
    obtain ⟨n1, n2⟩ := List.nodup_cons.mp nd
    show f j + sumf f r + g k = g j + sumf g r + f k
    by_cases e : j = k
    · subst e
      rw [sum_out h n1]
      omega
    · have := sum_upd h n2 ((List.mem_cons.mp m).resolve_left fun z => e z.symm)
      rw [h j e]
      omega
theorem sum_le {f : Str → Nat} {c : Nat} (h : ∀ k, f k ≤ c) : ∀ l : List Str, sumf f l ≤ c * l.length
  | [] => Nat.le_refl _
  | k :: r => by
    have := sum_le h r
    have := h k
    show f k + sumf f r ≤ c * (r.length + 1)
    rw [Nat.mul_add, Nat.mul_one]
    omega
abbrev Fnd := Str → Option (List Int)
def one (o : Option (List Int)) : Nat := if o.isSome = true then 1 else 0
def cost : Option (List Int) → Nat
  | none => BIG
  | some ns => code ns
def cnt (nms : List Str) (g : Fnd) : Nat := sumf (fun k => one (g k)) nms
def rank (nms : List Str) (g : Fnd) : Nat := sumf (fun k => cost (g k)) nms
def B : Nat → Nat
  | 0 => 1
  | c + 1 => 1 + 4 * B c
theorem B_up (c : Nat) : B c ≤ B (c + 1) := by
  show B c ≤ 1 + 4 * B c
  omega
theorem B_three {c : Nat} (h : c ≤ 3) : B c ≤ 85 := by
  rcases (show c = 0 ∨ c = 1 ∨ c = 2 ∨ c = 3 by omega) with rfl | rfl | rfl | rfl <;> decide
theorem cnt_le (nms : List Str) (g : Fnd) : cnt nms g ≤ nms.length := by
  have := sum_le (f := fun k => one (g k)) (c := 1) (fun k => by show one (g k) ≤ 1; unfold one; split <;> omega) nms
  show sumf _ nms ≤ _
  omega
def setG (g : Fnd) (k : Str) (ns : List Int) : Fnd := fun j => if j = k then some ns else g j
theorem cnt_set {nms : List Str} {g : Fnd} {k : Str} {ns : List Int} (nd : nms.Nodup) (m : k ∈ nms) : cnt nms (setG g k ns) + one (g k) = cnt nms g + 1 := by
  have := sum_upd (f := fun j => one (setG g k ns j)) (g := fun j => one (g j)) (k := k) (fun j hj => by show one (setG g k ns j) = one (g j); unfold setG; rw [if_neg hj]) nd m
  have e : one (setG g k ns k) = 1 := by unfold setG; rw [if_pos rfl]; rfl
  simp only [e] at this
  exact this
theorem rank_set {nms : List Str} {g : Fnd} {k : Str} {ns : List Int} (nd : nms.Nodup) (m : k ∈ nms) : rank nms (setG g k ns) + cost (g k) = rank nms g + code ns := by
  have := sum_upd (f := fun j => cost (setG g k ns j)) (g := fun j => cost (g j)) (k := k) (fun j hj => by show cost (setG g k ns j) = cost (g j); unfold setG; rw [if_neg hj]) nd m
  have e : cost (setG g k ns k) = code ns := by unfold setG; rw [if_pos rfl]; rfl
  simp only [e] at this
  exact this
theorem len_put_old {k : Key} {y : D} {a : List (Key × D)} (h : (valD a k).isSome = true) : (putDk a k y).length = a.length := by
  unfold putDk
  rw [any_valD, if_pos h, List.length_map]
structure St (nms : List Str) (g : Fnd) (lds sds : List (Key × D)) : Prop where
  look : ∀ k, valD lds (.inr k) = (g k).map fun ns => D.lst (ns.map D.int)
  small : ∀ k, (valD sds (.inr k)).isSome = (g k).isSome
  cz : ∀ kv ∈ sds, Cz kv.2
  dig : ∀ k ns, g k = some ns → Dig ns ∧ ns.length ≤ B (cnt nms g)
  ll : lds.length ≤ cnt nms g
  ls : sds.length ≤ cnt nms g
theorem St.nil {nms : List Str} : St nms (fun _ => none) [] [] where
  look := fun _ => rfl
  small := fun _ => rfl
  cz := fun _ m => by cases m
  dig := fun _ _ h => by cases h
  ll := Nat.zero_le _
  ls := Nat.zero_le _
theorem St.put {nms : List Str} {g : Fnd} {lds sds : List (Key × D)} {k : Str} {ns : List Int} {y : D} (h : St nms g lds sds) (nd : nms.Nodup) (few : nms.length ≤ 3) (m : k ∈ nms) (dg : Dig ns) (cy : Cz y)
    (c : (g k = none ∧ ns.length ≤ 1 + 4 * B (cnt nms g)) ∨ ∃ old, g k = some old ∧ ns.length ≤ 85 ∧ (if (ns.length : Int) = (old.length : Int) then HT.lexLt ns old else decide ((ns.length : Int) < (old.length : Int))) = true) :
    St nms (setG g k ns) (putDk lds (.inr k) (.lst (ns.map D.int))) (putDk sds (.inr k) y) ∧ rank nms (setG g k ns) < rank nms g := by
  have hc := cnt_set (g := g) (ns := ns) nd m
  have hr := rank_set (g := g) (ns := ns) nd m
  have h3 := cnt_le nms (setG g k ns)
  have lk := h.look k
  have sk := h.small k
  have main : ns.length ≤ B (cnt nms (setG g k ns)) ∧ B (cnt nms g) ≤ B (cnt nms (setG g k ns)) ∧ (putDk lds (.inr k) (D.lst (ns.map D.int))).length ≤ cnt nms (setG g k ns) ∧ (putDk sds (.inr k) y).length ≤ cnt nms (setG g k ns) ∧ code ns < cost (g k) := by
    rcases c with ⟨e, hl⟩ | ⟨old, e, hl, hlt⟩
    · rw [e] at hc hr ⊢
      have ec : cnt nms (setG g k ns) = cnt nms g + 1 := hc
      rw [ec]
      refine ⟨hl, B_up _, ?_, ?_, ?_⟩
      · exact Nat.le_trans len_put (Nat.succ_le_succ h.ll)
      · exact Nat.le_trans len_put (Nat.succ_le_succ h.ls)
      · have := B_three (c := cnt nms g + 1) (by omega)
        have hl' : ns.length ≤ B (cnt nms g + 1) := hl
        exact code_big dg (by omega)
    · rw [e] at hc hr lk sk ⊢
      have ec : cnt nms (setG g k ns) = cnt nms g := by have : cnt nms (setG g k ns) + 1 = cnt nms g + 1 := hc; omega
      obtain ⟨d1, d2⟩ := h.dig k old e
      obtain ⟨q1, q2⟩ := code_lt dg d1 (by omega) hlt
      rw [ec]
      refine ⟨Nat.le_trans q2 d2, Nat.le_refl _, ?_, ?_, q1⟩
      · rw [len_put_old (by rw [lk]; rfl)]; exact h.ll
      · rw [len_put_old (by rw [sk]; rfl)]; exact h.ls
  obtain ⟨m1, m2, m3, m4, m5⟩ := main
  refine ⟨⟨fun j => ?_, fun j => ?_, fun kv mk => ?_, fun j ms hj => ?_, m3, m4⟩, by omega⟩
  · rw [valD_put]
    unfold setG
    by_cases q : j = k
    · subst q; rw [if_pos rfl, if_pos rfl]; rfl
    · rw [if_neg (fun z => q (by cases z; rfl)), if_neg q]; exact h.look j
  · rw [valD_put]
    unfold setG
    by_cases q : j = k
    · subst q; rw [if_pos rfl, if_pos rfl]; rfl
    · rw [if_neg (fun z => q (by cases z; rfl)), if_neg q]; exact h.small j
  · rcases mem_put mk with z | z
    · rw [z]; exact cy
    · exact h.cz kv z
  · by_cases q : j = k
    · subst q
      have : setG g j ns j = some ns := by unfold setG; rw [if_pos rfl]
      rw [this] at hj
      cases hj
      exact ⟨dg, m1⟩
    · have : setG g k ns j = g j := by unfold setG; rw [if_neg q]
      rw [this] at hj
      obtain ⟨d1, d2⟩ := h.dig j ms hj
      exact ⟨d1, Nat.le_trans d2 m2⟩
end ML
namespace ML3
open PySem L2 DL
theorem valD_cons {k j : Key} {d : D} {r : List (Key × D)} : valD ((j, d) :: r) k = if j = k then some d else valD r k := by
  unfold valD
  rw [List.find?_cons]
  by_cases h : j = k
  · rw [if_pos h]; simp [h]
  · rw [if_neg h]; simp [h]
theorem valD_app {k : Key} : ∀ {a b : List (Key × D)}, valD (a ++ b) k = (valD a k).or (valD b k)
  | [], b => by simp [valD]
  | (j, d) :: a, b => by
    rw [List.cons_append, valD_cons, valD_cons, valD_app (a := a)]
    by_cases h : j = k
    · rw [if_pos h, if_pos h]; rfl
    · rw [if_neg h, if_neg h]
theorem any_valD {k : Key} : ∀ {a : List (Key × D)}, (a.any fun kv => decide (kv.1 = k)) = (valD a k).isSome
  | [] => rfl
  | (j, d) :: a => by
    rw [List.any_cons, valD_cons, any_valD (a := a)]
    by_cases h : j = k
    · rw [if_pos h]; simp [h]
    · rw [if_neg h]; simp [h]
theorem valD_map {k j : Key} {y : D} : ∀ {a : List (Key × D)}, valD (a.map fun kv => if kv.1 = k then (kv.1, y) else kv) j = (valD a j).map fun d => if j = k then y else d
  | [] => rfl
  | (i, d) :: a => by
    rw [List.map_cons, valD_cons]
    by_cases h : i = k
    · rw [if_pos h, valD_cons, valD_map (a := a)]
      by_cases h2 : i = j
      · rw [if_pos h2, if_pos h2]; simp [← h2, h]
      · rw [if_neg h2, if_neg h2]
    · rw [if_neg h, valD_cons, valD_map (a := a)]
      by_cases h2 : i = j
      · rw [if_pos h2, if_pos h2]; simp [← h2, h]
      · rw [if_neg h2, if_neg h2]
theorem valD_put {k j : Key} {y : D} {a : List (Key × D)} : valD (putDk a k y) j = if j = k then some y else valD a j := by
  unfold putDk
  rw [any_valD]
  by_cases h : (valD a k).isSome = true
  · rw [if_pos h, valD_map]
    by_cases h2 : j = k
    · subst h2
      rw [if_pos rfl]
      cases e : valD a j with
      | none => rw [e] at h; cases h
      | some d => simp
    · rw [if_neg h2]
      cases valD a j <;> simp [h2]
  · rw [if_neg h, valD_app, valD_cons]
    have hn : valD a k = none := by
      cases e : valD a k with
      | none => rfl
      | some d => rw [e] at h; exact absurd rfl h
    by_cases h2 : j = k
    · subst h2
      rw [if_pos rfl, hn, if_pos rfl]
      rfl
    · rw [if_neg h2, if_neg (fun z => h2 z.symm)]
      cases valD a j <;> rfl
theorem mem_put {k : Key} {y : D} {a : List (Key × D)} {kv : Key × D} (h : kv ∈ putDk a k y) : kv.2 = y ∨ kv ∈ a := by
  unfold putDk at h
  by_cases z : (a.any fun kv => decide (kv.1 = k)) = true
  · rw [if_pos z] at h
    obtain ⟨u, m, e⟩ := List.mem_map.mp h
    by_cases q : u.1 = k
    · rw [if_pos q] at e; subst e; exact .inl rfl
    · rw [if_neg q] at e; subst e; exact .inr m
  · rw [if_neg z] at h
    rcases List.mem_append.mp h with m | m
    · exact .inr m
    · simp at m; subst m; exact .inl rfl
theorem len_put {k : Key} {y : D} {a : List (Key × D)} : (putDk a k y).length ≤ a.length + 1 := by
  unfold putDk
  by_cases z : (a.any fun kv => decide (kv.1 = k)) = true
  · rw [if_pos z, List.length_map]; omega
  · rw [if_neg z, List.length_append]; exact Nat.le_refl _
def val : List Int → Nat
  | [] => 0
  | x :: r => x.toNat * 20 ^ r.length + val r
def Dig (ns : List Int) : Prop := ∀ e ∈ ns, 0 ≤ e ∧ e < 20
theorem val_lt : ∀ {ns : List Int}, Dig ns → val ns < 20 ^ ns.length
  | [], _ => by decide
  | x :: r, h => by
    have h1 := val_lt (ns := r) fun e m => h e (List.mem_cons_of_mem _ m)
    have h2 := h x List.mem_cons_self
    have h3 : x.toNat + 1 ≤ 20 := by omega
    have h4 := Nat.mul_le_mul_right (20 ^ r.length) h3
    rw [Nat.add_mul, Nat.one_mul] at h4
    show x.toNat * 20 ^ r.length + val r < 20 ^ (r.length + 1)
    rw [Nat.pow_succ, Nat.mul_comm (20 ^ r.length)]
    omega
theorem val_lex : ∀ {ns ms : List Int}, Dig ns → Dig ms → ns.length = ms.length → HT.lexLt ns ms = true → val ns < val ms
  | [], [], _, _, _, h => by cases h
  | [], _ :: _, _, _, l, _ => by cases l
  | _ :: _, [], _, _, l, _ => by cases l
  | x :: r, y :: t, h1, h2, l, h => by
    have l : r.length = t.length := by simpa using l
    have d1 : Dig r := fun e m => h1 e (List.mem_cons_of_mem _ m)
    have d2 : Dig t := fun e m => h2 e (List.mem_cons_of_mem _ m)
    rw [HT.lexLt_cons] at h
    show x.toNat * 20 ^ r.length + val r < y.toNat * 20 ^ t.length + val t
    by_cases q : x = y
    · rw [if_pos q] at h
      have := val_lex d1 d2 l h
      rw [q, l]
      omega
    · rw [if_neg q] at h
      have h := of_decide_eq_true h
      have hx := h1 x List.mem_cons_self
      have h3 : x.toNat + 1 ≤ y.toNat := by have := h2 y List.mem_cons_self; omega
      have h4 := Nat.mul_le_mul_right (20 ^ r.length) h3
      rw [Nat.add_mul, Nat.one_mul] at h4
      have := val_lt d1
      rw [← l]
      omega
def P : Nat := 20 ^ 400
def code (ns : List Int) : Nat := ns.length * P + val ns
theorem val_P {ns : List Int} (d : Dig ns) (l : ns.length ≤ 400) : val ns < P := Nat.lt_of_lt_of_le (val_lt d) (Nat.pow_le_pow_right (by decide) l)
theorem code_lt {ns ms : List Int} (d1 : Dig ns) (d2 : Dig ms) (l1 : ns.length ≤ 400) (h : (if (ns.length : Int) = (ms.length : Int) then HT.lexLt ns ms else decide ((ns.length : Int) < (ms.length : Int))) = true) : code ns < code ms ∧ ns.length ≤ ms.length := by
  unfold code
  by_cases e : (ns.length : Int) = (ms.length : Int)
  · rw [if_pos e] at h
    have e : ns.length = ms.length := by omega
    have := val_lex d1 d2 e h
    rw [e]
    omega
  · rw [if_neg e] at h
    have h := of_decide_eq_true h
    have h3 : ns.length + 1 ≤ ms.length := by omega
    have h4 := Nat.mul_le_mul_right P h3
    rw [Nat.add_mul, Nat.one_mul] at h4
    have := val_P d1 l1
    omega
def BIG : Nat := 500 * P
theorem code_big {ns : List Int} (d : Dig ns) (l : ns.length ≤ 400) : code ns < BIG := by
  unfold code BIG
  have h1 := val_P d l
  have h2 := Nat.mul_le_mul_right P l
  omega
def sumf (f : Str → Nat) : List Str → Nat
  | [] => 0
  | k :: r => f k + sumf f r
theorem sum_out {f g : Str → Nat} {k : Str} (h : ∀ j, j ≠ k → f j = g j) : ∀ {l : List Str}, k ∉ l → sumf f l = sumf g l
  | [], _ => rfl
  | j :: r, n => by
    show f j + _ = g j + _
    rw [h j (fun z => n (z ▸ List.mem_cons_self)), sum_out h fun m => n (List.mem_cons_of_mem _ m)]
theorem sum_upd {f g : Str → Nat} {k : Str} (h : ∀ j, j ≠ k → f j = g j) : ∀ {l : List Str}, l.Nodup → k ∈ l → sumf f l + g k = sumf g l + f k
  | [], _, m => by cases m
  | j :: r, nd, m => by
    obtain ⟨n1, n2⟩ := List.nodup_cons.mp nd
    show f j + sumf f r + g k = g j + sumf g r + f k
    by_cases e : j = k
    · subst e
      rw [sum_out h n1]
      omega
    · have := sum_upd h n2 ((List.mem_cons.mp m).resolve_left fun z => e z.symm)
      rw [h j e]
      omega
theorem sum_le {f : Str → Nat} {c : Nat} (h : ∀ k, f k ≤ c) : ∀ l : List Str, sumf f l ≤ c * l.length
  | [] => Nat.le_refl _
  | k :: r => by
    have := sum_le h r
    have := h k
    show f k + sumf f r ≤ c * (r.length + 1)
    rw [Nat.mul_add, Nat.mul_one]
    omega
abbrev Fnd := Str → Option (List Int)
def one (o : Option (List Int)) : Nat := if o.isSome = true then 1 else 0
def cost : Option (List Int) → Nat
  | none => BIG
  | some ns => code ns
def cnt (nms : List Str) (g : Fnd) : Nat := sumf (fun k => one (g k)) nms
def rank (nms : List Str) (g : Fnd) : Nat := sumf (fun k => cost (g k)) nms
def B : Nat → Nat
  | 0 => 1
  | c + 1 => 1 + 4 * B c
theorem B_up (c : Nat) : B c ≤ B (c + 1) := by
  show B c ≤ 1 + 4 * B c
  omega
theorem B_three {c : Nat} (h : c ≤ 4) : B c ≤ 341 := by
  rcases (show c = 0 ∨ c = 1 ∨ c = 2 ∨ c = 3 ∨ c = 4 by omega) with rfl | rfl | rfl | rfl | rfl <;> decide
theorem cnt_le (nms : List Str) (g : Fnd) : cnt nms g ≤ nms.length := by
  have := sum_le (f := fun k => one (g k)) (c := 1) (fun k => by show one (g k) ≤ 1; unfold one; split <;> omega) nms
  show sumf _ nms ≤ _
  omega
def setG (g : Fnd) (k : Str) (ns : List Int) : Fnd := fun j => if j = k then some ns else g j
theorem cnt_set {nms : List Str} {g : Fnd} {k : Str} {ns : List Int} (nd : nms.Nodup) (m : k ∈ nms) : cnt nms (setG g k ns) + one (g k) = cnt nms g + 1 := by
  have := sum_upd (f := fun j => one (setG g k ns j)) (g := fun j => one (g j)) (k := k) (fun j hj => by show one (setG g k ns j) = one (g j); unfold setG; rw [if_neg hj]) nd m
  have e : one (setG g k ns k) = 1 := by unfold setG; rw [if_pos rfl]; rfl
  simp only [e] at this
  exact this
theorem rank_set {nms : List Str} {g : Fnd} {k : Str} {ns : List Int} (nd : nms.Nodup) (m : k ∈ nms) : rank nms (setG g k ns) + cost (g k) = rank nms g + code ns := by
  have := sum_upd (f := fun j => cost (setG g k ns j)) (g := fun j => cost (g j)) (k := k) (fun j hj => by show cost (setG g k ns j) = cost (g j); unfold setG; rw [if_neg hj]) nd m
  have e : cost (setG g k ns k) = code ns := by unfold setG; rw [if_pos rfl]; rfl
  simp only [e] at this
  exact this
theorem len_put_old {k : Key} {y : D} {a : List (Key × D)} (h : (valD a k).isSome = true) : (putDk a k y).length = a.length := by
  unfold putDk
  rw [any_valD, if_pos h, List.length_map]
structure St (nms : List Str) (g : Fnd) (lds sds : List (Key × D)) : Prop where
  look : ∀ k, valD lds (.inr k) = (g k).map fun ns => D.lst (ns.map D.int)
  small : ∀ k, (valD sds (.inr k)).isSome = (g k).isSome
  cz : ∀ kv ∈ sds, Cz kv.2
  dig : ∀ k ns, g k = some ns → Dig ns ∧ ns.length ≤ B (cnt nms g)
  ll : lds.length ≤ cnt nms g
  ls : sds.length ≤ cnt nms g
theorem St.nil {nms : List Str} : St nms (fun _ => none) [] [] where
  look := fun _ => rfl
  small := fun _ => rfl
  cz := fun _ m => by cases m
  dig := fun _ _ h => by cases h
  ll := Nat.zero_le _
  ls := Nat.zero_le _
theorem St.put {nms : List Str} {g : Fnd} {lds sds : List (Key × D)} {k : Str} {ns : List Int} {y : D} (h : St nms g lds sds) (nd : nms.Nodup) (few : nms.length ≤ 4) (m : k ∈ nms) (dg : Dig ns) (cy : Cz y)
    (c : (g k = none ∧ ns.length ≤ 1 + 4 * B (cnt nms g)) ∨ ∃ old, g k = some old ∧ ns.length ≤ 341 ∧ (if (ns.length : Int) = (old.length : Int) then HT.lexLt ns old else decide ((ns.length : Int) < (old.length : Int))) = true) :
    St nms (setG g k ns) (putDk lds (.inr k) (.lst (ns.map D.int))) (putDk sds (.inr k) y) ∧ rank nms (setG g k ns) < rank nms g := by
  have hc := cnt_set (g := g) (ns := ns) nd m
  have hr := rank_set (g := g) (ns := ns) nd m
  have h3 := cnt_le nms (setG g k ns)
  have lk := h.look k
  have sk := h.small k
  have main : ns.length ≤ B (cnt nms (setG g k ns)) ∧ B (cnt nms g) ≤ B (cnt nms (setG g k ns)) ∧ (putDk lds (.inr k) (D.lst (ns.map D.int))).length ≤ cnt nms (setG g k ns) ∧ (putDk sds (.inr k) y).length ≤ cnt nms (setG g k ns) ∧ code ns < cost (g k) := by
    rcases c with ⟨e, hl⟩ | ⟨old, e, hl, hlt⟩
    · rw [e] at hc hr ⊢
      have ec : cnt nms (setG g k ns) = cnt nms g + 1 := hc
      rw [ec]
      refine ⟨hl, B_up _, ?_, ?_, ?_⟩
      · exact Nat.le_trans len_put (Nat.succ_le_succ h.ll)
      · exact Nat.le_trans len_put (Nat.succ_le_succ h.ls)
      · have := B_three (c := cnt nms g + 1) (by omega)
        have hl' : ns.length ≤ B (cnt nms g + 1) := hl
        exact code_big dg (by omega)
    · rw [e] at hc hr lk sk ⊢
      have ec : cnt nms (setG g k ns) = cnt nms g := by have : cnt nms (setG g k ns) + 1 = cnt nms g + 1 := hc; omega
      obtain ⟨d1, d2⟩ := h.dig k old e
      obtain ⟨q1, q2⟩ := code_lt dg d1 (by omega) hlt
      rw [ec]
      refine ⟨Nat.le_trans q2 d2, Nat.le_refl _, ?_, ?_, q1⟩
      · rw [len_put_old (by rw [lk]; rfl)]; exact h.ll
      · rw [len_put_old (by rw [sk]; rfl)]; exact h.ls
  obtain ⟨m1, m2, m3, m4, m5⟩ := main
  refine ⟨⟨fun j => ?_, fun j => ?_, fun kv mk => ?_, fun j ms hj => ?_, m3, m4⟩, by omega⟩
  · rw [valD_put]
    unfold setG
    by_cases q : j = k
    · subst q; rw [if_pos rfl, if_pos rfl]; rfl
    · rw [if_neg (fun z => q (by cases z; rfl)), if_neg q]; exact h.look j
  · rw [valD_put]
    unfold setG
    by_cases q : j = k
    · subst q; rw [if_pos rfl, if_pos rfl]; rfl
    · rw [if_neg (fun z => q (by cases z; rfl)), if_neg q]; exact h.small j
  · rcases mem_put mk with z | z
    · rw [z]; exact cy
    · exact h.cz kv z
  · by_cases q : j = k
    · subst q
      have : setG g j ns j = some ns := by unfold setG; rw [if_pos rfl]
      rw [this] at hj
      cases hj
      exact ⟨dg, m1⟩
    · have : setG g k ns j = g j := by unfold setG; rw [if_neg q]
      rw [this] at hj
      obtain ⟨d1, d2⟩ := h.dig j ms hj
      exact ⟨d1, Nat.le_trans d2 m2⟩
end ML3
namespace MI
open PySem L2 DL
def kindsOf (rs : List MR.Row) : List Str := dist (rs.map (·.kind))
def makersOf (k : Str) (rs : List MR.Row) : List Str := (rs.filter fun r => decide (r.kind = k)).map (·.maker)
def lstD (rs : List MR.Row) (k : Str) : D := .lst ((makersOf k rs).map D.str)
def keys (rs : List MR.Row) : List Key := (kindsOf rs).map Sum.inr
theorem dist_mem {z : Str} (l : List Str) : z ∈ dist l ↔ z ∈ l := by
  refine snoc_ind (C := fun l => z ∈ dist l ↔ z ∈ l) (by simp [dist]) (fun l y ih => ?_) l
  rw [dist_snoc]
  by_cases h : y ∈ dist l
  · rw [if_pos h, ih]
    constructor
    · exact fun m => List.mem_append_left _ m
    · intro m
      rcases List.mem_append.mp m with m | m
      · exact m
      · simp at m; subst m; exact ih.mp h
  · rw [if_neg h, List.mem_append, List.mem_append, ih]
theorem dist_nd (l : List Str) : (dist l).Nodup := by
  refine snoc_ind (C := fun l => (dist l).Nodup) (by simp [dist]) (fun l y ih => ?_) l
  rw [dist_snoc]
  by_cases h : y ∈ dist l
  · rw [if_pos h]; exact ih
  · rw [if_neg h, List.nodup_append]
    refine ⟨ih, by simp, fun a m b m' z => ?_⟩
    simp at m'
    subst m'; subst z
    exact h m
theorem kinds_nd (rs : List MR.Row) : (kindsOf rs).Nodup := dist_nd _
theorem kinds_snoc (rs : List MR.Row) (r : MR.Row) : kindsOf (rs ++ [r]) = if r.kind ∈ kindsOf rs then kindsOf rs else kindsOf rs ++ [r.kind] := by
  unfold kindsOf
  rw [List.map_append]
  exact dist_snoc _ _
theorem makers_snoc (rs : List MR.Row) (r : MR.Row) (k : Str) : makersOf k (rs ++ [r]) = if r.kind = k then makersOf k rs ++ [r.maker] else makersOf k rs := by
  unfold makersOf
  rw [List.filter_append, List.map_append]
  by_cases h : r.kind = k
  · rw [if_pos h]; simp [h]
  · rw [if_neg h]; simp [h]
theorem makers_none {k : Str} {rs : List MR.Row} (h : k ∉ kindsOf rs) : makersOf k rs = [] := by
  unfold makersOf
  rw [List.filter_eq_nil_iff.mpr, List.map_nil]
  intro r m e
  have e := of_decide_eq_true e
  refine h ((dist_mem _).mpr ?_)
  rw [← e]
  exact List.mem_map_of_mem m
theorem lists_new {rs : List MR.Row} {r : MR.Row} (h : r.kind ∉ kindsOf rs) : (kindsOf rs).map (lstD rs) ++ [.lst [.str r.maker]] = (kindsOf (rs ++ [r])).map (lstD (rs ++ [r])) := by
  rw [kinds_snoc, if_neg h, List.map_append]
  congr 1
  · refine List.map_congr_left fun k m => ?_
    unfold lstD
    rw [makers_snoc, if_neg (show ¬ r.kind = k from fun z => h (by rw [z]; exact m))]
  · show _ = [lstD (rs ++ [r]) r.kind]
    unfold lstD
    rw [makers_snoc, if_pos rfl, makers_none h]
    rfl
theorem lists_old {rs : List MR.Row} {r : MR.Row} {q : Nat} (hq : (kindsOf rs)[q]? = some r.kind) : ((kindsOf rs).map (lstD rs)).set q (.lst ((makersOf r.kind rs).map D.str ++ [.str r.maker])) = (kindsOf (rs ++ [r])).map (lstD (rs ++ [r])) := by
  have m : r.kind ∈ kindsOf rs := List.mem_of_getElem? hq
  rw [kinds_snoc, if_pos m]
  apply List.ext_getElem?
  intro i
  by_cases e : q = i
  · subst e
    have hl := (List.getElem?_eq_some_iff.mp hq).1
    rw [List.getElem?_set_self (by rw [List.length_map]; exact hl), List.getElem?_map, hq]
    show _ = some (lstD (rs ++ [r]) r.kind)
    unfold lstD
    rw [makers_snoc, if_pos rfl, List.map_append]
    rfl
  · rw [List.getElem?_set_ne e, List.getElem?_map, List.getElem?_map]
    cases ei : (kindsOf rs)[i]? with
    | none => rfl
    | some k =>
      show some (lstD rs k) = some (lstD (rs ++ [r]) k)
      unfold lstD
      rw [makers_snoc, if_neg]
      intro z
      have nd : (kindsOf rs).Nodup := dist_nd _
      exact e (L2.nd_ix nd hq (z ▸ ei))
theorem val_zip : ∀ {ks : List Str} {ds : List D} {q : Nat} {k : Str}, ks.Nodup → ks[q]? = some k → ks.length = ds.length → valD (zipD (ks.map Sum.inr) ds) (.inr k) = ds[q]?
  | [], _, _, _, _, h, _ => by simp at h
  | _ :: _, [], _, _, _, _, l => by cases l
  | j :: ks, d :: ds, 0, k, _, h, _ => by
    simp at h
    subst h
    show valD ((Sum.inr j, d) :: zipD (ks.map Sum.inr) ds) (.inr j) = some d
    rw [ML.valD_cons, if_pos rfl]
  | j :: ks, d :: ds, q + 1, k, nd, h, l => by
    have h : ks[q]? = some k := by simpa using h
    obtain ⟨n1, n2⟩ := List.nodup_cons.mp nd
    show valD ((Sum.inr j, d) :: zipD (ks.map Sum.inr) ds) (.inr k) = (d :: ds)[q + 1]?
    rw [ML.valD_cons, if_neg (fun z => n1 (by cases z; exact List.mem_of_getElem? h)), val_zip (ds := ds) n2 h (by simpa using l)]
    simp
theorem val_zip_none {k : Str} : ∀ {ks : List Str} {ds : List D}, k ∉ ks → valD (zipD (ks.map Sum.inr) ds) (.inr k) = none
  | [], _, _ => rfl
  | _ :: _, [], _ => rfl
  | j :: ks, d :: ds, h => by
    show valD ((Sum.inr j, d) :: zipD (ks.map Sum.inr) ds) (.inr k) = none
    rw [ML.valD_cons, if_neg (fun z => h (by cases z; exact List.mem_cons_self)), val_zip_none fun m => h (List.mem_cons_of_mem _ m)]
def entsFrom : List MR.Row → List MR.Row → List (Key × D)
  | _, [] => []
  | pre, r :: t => (Sum.inr r.maker, MT.dEnt r.kind (makersOf r.kind pre).length r.parts) :: entsFrom (pre ++ [r]) t
theorem ents_snoc : ∀ (pre rs : List MR.Row) (r : MR.Row), entsFrom pre (rs ++ [r]) = entsFrom pre rs ++ [(Sum.inr r.maker, MT.dEnt r.kind (makersOf r.kind (pre ++ rs)).length r.parts)]
  | pre, [], r => by rw [List.append_nil]; rfl
  | pre, x :: rs, r => by
    show _ :: entsFrom (pre ++ [x]) (rs ++ [r]) = _ :: entsFrom (pre ++ [x]) rs ++ _
    rw [ents_snoc (pre ++ [x]) rs r, List.append_assoc]
    rfl
theorem ents_len : ∀ pre rs : List MR.Row, (entsFrom pre rs).length = rs.length
  | _, [] => rfl
  | pre, x :: rs => congrArg (· + 1) (ents_len (pre ++ [x]) rs)
theorem ents_none {z : Str} : ∀ {pre rs : List MR.Row}, z ∉ rs.map (·.maker) → valD (entsFrom pre rs) (.inr z) = none
  | _, [], _ => rfl
  | pre, x :: rs, h => by
    show valD ((Sum.inr x.maker, _) :: entsFrom (pre ++ [x]) rs) (.inr z) = none
    rw [ML.valD_cons, if_neg (fun q => h (by cases q; exact List.mem_cons_self)), ents_none fun m => h (List.mem_cons_of_mem _ m)]
theorem ents_put {rs : List MR.Row} {r : MR.Row} (h : r.maker ∉ rs.map (·.maker)) : putDk (entsFrom [] rs) (.inr r.maker) (MT.dEnt r.kind (makersOf r.kind rs).length r.parts) = entsFrom [] (rs ++ [r]) := by
  unfold putDk
  rw [ML.any_valD, ents_none h, ents_snoc]
  rfl
theorem nd_le : ∀ {l m : List Str}, l.Nodup → (∀ x ∈ l, x ∈ m) → l.length ≤ m.length
  | [], _, _, _ => Nat.zero_le _
  | x :: l, m, nd, h => by
    obtain ⟨n1, n2⟩ := List.nodup_cons.mp nd
    have hx := h x List.mem_cons_self
    have := nd_le (m := m.erase x) n2 fun y hy => (List.mem_erase_of_ne (show y ≠ x from fun e => n1 (by rw [← e]; exact hy))).mpr (h y (List.mem_cons_of_mem _ hy))
    rw [List.length_erase_of_mem hx] at this
    have : 0 < m.length := List.length_pos_of_mem hx
    show l.length + 1 ≤ _
    omega
theorem kinds_few {nms : List Str} {rows : List MR.Row} (hT : MR.Table nms rows) (i : Nat) : (kindsOf (rows.take i)).length ≤ 3 := by
  refine Nat.le_trans (nd_le (dist_nd _) fun x m => ?_) hT.few
  obtain ⟨r, hr, e⟩ := List.mem_map.mp ((dist_mem _).mp m)
  rw [← e]
  exact hT.some.kind r (List.mem_of_mem_take hr)
theorem isName_of {z : Str} {n : Nat} (h : MN.nameL (MN.tl z) = true ∧ z.length ≤ n) (hn : n ≤ 24) : MN.isName z = true ∧ z.length ≤ 100 := by
  refine ⟨?_, by omega⟩
  unfold MN.isName
  rw [h.1, decide_eq_true (by omega)]
  rfl
theorem maker_new {rows : List MR.Row} {i : Nat} {r : MR.Row} (nd : (rows.map (·.maker)).Nodup) (hr : rows[i]? = some r) : r.maker ∉ (rows.take i).map (·.maker) := fun m => by
  obtain ⟨q, hq, e⟩ := List.mem_map.mp m
  obtain ⟨j, hj, ej⟩ := List.mem_iff_getElem.mp hq
  rw [List.length_take] at hj
  rw [List.getElem_take] at ej
  have h1 : (rows.map (·.maker))[i]? = some r.maker := by rw [List.getElem?_map, hr]; rfl
  have h2 : (rows.map (·.maker))[j]? = some r.maker := by rw [List.getElem?_map, List.getElem?_eq_getElem (by omega), ej, ← e]; rfl
  have := L2.nd_ix nd h1 h2
  omega
theorem at_end {α : Type} (a b c p : α) (l : List α) : ([a, b, c] ++ l ++ [p])[3 + l.length]? = some p := by
  have h : ([a, b, c] ++ l).length = 3 + l.length := by
    rw [List.length_append]
    rfl
  rw [← h, List.getElem?_append_right (Nat.le_refl _), Nat.sub_self]
  rfl
theorem at_end_set {α : Type} (a b c p q : α) (l : List α) : ([a, b, c] ++ l ++ [p]).set (3 + l.length) q = [a, b, c] ++ l ++ [q] := by
  have h : ([a, b, c] ++ l).length = 3 + l.length := by
    rw [List.length_append]
    rfl
  rw [← h, List.set_append_right _ _ (Nat.le_refl _), Nat.sub_self]
  rfl
theorem at_end_erase {α : Type} (a b c p : α) (l : List α) : ([a, b, c] ++ l ++ [p]).eraseIdx (3 + l.length) = [a, b, c] ++ l := by
  have h : ([a, b, c] ++ l).length = 3 + l.length := by
    rw [List.length_append]
    rfl
  rw [← h, List.eraseIdx_append_of_length_le (Nat.le_refl _), Nat.sub_self]
  exact List.append_nil _
theorem kinds_sub {nms : List Str} {rows : List MR.Row} (hT : MR.Table nms rows) {k : Str} (m : k ∈ kindsOf rows) : k ∈ nms := by
  obtain ⟨r, hr, e⟩ := List.mem_map.mp ((dist_mem _).mp m)
  rw [← e]
  exact hT.some.kind r hr
theorem kind_mem {nms : List Str} {rows : List MR.Row} (hT : MR.Table nms rows) {k : Str} (m : k ∈ nms) : k ∈ kindsOf rows := by
  obtain ⟨i, hi, e⟩ := List.mem_iff_getElem.mp m
  obtain ⟨r, hr, er, _⟩ := hT.base i hi
  rw [List.getElem?_eq_getElem hi, e] at er
  cases er
  exact (dist_mem _).mpr (List.mem_map_of_mem hr)
theorem zip_keys : ∀ {ks : List Str} {ds : List D}, ds.length = ks.length → ((zipD (ks.map Sum.inr) ds).map fun kv => kD kv.1) = ks.map D.str
  | [], _, _ => rfl
  | _ :: _, [], l => by cases l
  | k :: ks, d :: ds, l => by
    show kD (.inr k) :: (zipD (ks.map Sum.inr) ds).map _ = _
    rw [zip_keys (by simpa using l)]
    rfl
theorem ents_keys : ∀ pre rs : List MR.Row, ((entsFrom pre rs).map fun kv => kD kv.1) = (rs.map (·.maker)).map D.str
  | _, [] => rfl
  | pre, r :: rs => by
    show kD (.inr r.maker) :: (entsFrom (pre ++ [r]) rs).map _ = _
    rw [ents_keys (pre ++ [r]) rs]
    rfl
end MI
namespace ML
open PySem L2 DL
structure Ent where
  maker : Str
  kind : Str
  tag : Nat
  ps : List MR.Part
def okP (g : Fnd) (p : MR.Part) : Bool := (p.inn == MR.byteS) || (g p.inn).isSome
def rowP (g : Fnd) (p : MR.Part) : List Int := if p.inn = MR.byteS then [0] else (g p.inn).getD []
def valP (sds : List (Key × D)) (p : MR.Part) : D := if p.inn = MR.byteS then .int 0 else (valD sds (.inr p.inn)).getD .non
def made (g : Fnd) (e : Ent) : List Int := (e.tag : Nat) :: e.ps.flatMap (rowP g)
def madeT (sds : List (Key × D)) (e : Ent) : D := .tup (.str e.maker :: e.ps.map (valP sds))
def LT (es : List Ent) : Nat → Str → D → List Int → Prop
  | 0 => fun _ _ _ => False
  | n + 1 => fun k d ns => ∃ e ∈ es, ∃ (vd : MR.Part → D) (vr : MR.Part → List Int), e.kind = k ∧ d = .tup (.str e.maker :: e.ps.map vd) ∧ ns = ((e.tag : Nat) : Int) :: e.ps.flatMap vr ∧
    ∀ p ∈ e.ps, (p.inn = MR.byteS ∧ vd p = .int 0 ∧ vr p = [0]) ∨ (p.inn ≠ MR.byteS ∧ LT es n p.inn (vd p) (vr p))
theorem LT.up {es : List Ent} : ∀ {n : Nat} {k : Str} {d : D} {ns : List Int}, LT es n k d ns → LT es (n + 1) k d ns
  | 0, _, _, _, h => h.elim
  | n + 1, k, d, ns, h => by
    obtain ⟨e, me, vd, vr, h1, h2, h3, h4⟩ := h
    refine ⟨e, me, vd, vr, h1, h2, h3, fun p m => ?_⟩
    rcases h4 p m with z | z
    · exact .inl z
    · exact .inr ⟨z.1, LT.up z.2⟩
theorem LT.mono {es : List Ent} {n : Nat} {k : Str} {d : D} {ns : List Int} (h : LT es n k d ns) : ∀ {m : Nat}, n ≤ m → LT es m k d ns
  | 0, l => by
    have : n = 0 := by omega
    subst this
    exact h
  | m + 1, l => by
    by_cases e : n = m + 1
    · exact e ▸ h
    · exact LT.up (LT.mono h (m := m) (by omega))
def clT (g : Fnd) (ns : List Int) (k : Str) : Nat := match g k with
  | some ms => if code ms ≤ code ns then 1 else 0
  | none => 0
def cl (nms : List Str) (g : Fnd) (ns : List Int) : Nat := sumf (clT g ns) nms
theorem sumf_mono {f g : Str → Nat} : ∀ {l : List Str}, (∀ k ∈ l, f k ≤ g k) → sumf f l ≤ sumf g l
  | [], _ => Nat.le_refl _
  | k :: r, h => Nat.add_le_add (h k List.mem_cons_self) (sumf_mono fun j m => h j (List.mem_cons_of_mem _ m))
theorem sumf_lt {f g : Str → Nat} {k : Str} : ∀ {l : List Str}, (∀ j ∈ l, f j ≤ g j) → k ∈ l → f k < g k → sumf f l < sumf g l
  | [], _, m, _ => by cases m
  | j :: r, h, m, hk => by
    have h1 := h j List.mem_cons_self
    have h2 := sumf_mono fun i m => h i (List.mem_cons_of_mem j m)
    show f j + sumf f r < g j + sumf g r
    by_cases e : j = k
    · subst e
      omega
    · have := sumf_lt (fun i m => h i (List.mem_cons_of_mem j m)) ((List.mem_cons.mp m).resolve_left fun z => e z.symm) hk
      omega
structure Fin (nms : List Str) (es : List Ent) (g : Fnd) (sds : List (Key × D)) : Prop where
  tr : ∀ k ns, g k = some ns → ∃ d, valD sds (.inr k) = some d ∧ LT es (cl nms g ns) k d ns
theorem Fin.nil {nms : List Str} {es : List Ent} : Fin nms es (fun _ => none) [] := ⟨fun _ _ h => by cases h⟩
theorem code_short {ns ms : List Int} (h : ns.length < ms.length) (d : Dig ns) (l : ns.length ≤ 90) : code ns < code ms := by
  unfold code
  have h4 := Nat.mul_le_mul_right P (show ns.length + 1 ≤ ms.length from h)
  rw [Nat.add_mul, Nat.one_mul] at h4
  have := val_P d l
  omega
theorem made_long {g : Fnd} {e : Ent} {p : MR.Part} (m : p ∈ e.ps) : (rowP g p).length < (made g e).length := by
  unfold made
  rw [List.length_cons]
  have : ∀ {ps : List MR.Part}, p ∈ ps → (rowP g p).length ≤ (ps.flatMap (rowP g)).length := fun {ps} m => by
    induction ps with
    | nil => cases m
    | cons q r ih =>
      rw [List.flatMap_cons, List.length_append]
      rcases List.mem_cons.mp m with rfl | m
      · omega
      · have := ih m
        omega
  have := this m
  omega
theorem Fin.put {nms : List Str} {es : List Ent} {g : Fnd} {sds : List (Key × D)} (h : Fin nms es g sds) {e : Ent} (me : e ∈ es) (mk : e.kind ∈ nms) (hp : ∀ p ∈ e.ps, okP g p = true) (hd : ∀ k ns, g k = some ns → Dig ns ∧ ns.length ≤ 85) (c : ∀ old, g e.kind = some old → code (made g e) < code old) :
    Fin nms es (setG g e.kind (made g e)) (putDk sds (.inr e.kind) (madeT sds e)) := by
  refine ⟨fun k ns hk => ?_⟩
  have hcl : ∀ ms j, clT g ms j ≤ clT (setG g e.kind (made g e)) ms j := fun ms j => by
    unfold clT setG
    by_cases q : j = e.kind
    · subst q
      rw [if_pos rfl]
      cases ho : g e.kind with
      | none => exact Nat.zero_le _
      | some old =>
        have := c old ho
        show (if code old ≤ code ms then 1 else 0) ≤ if code (made g e) ≤ code ms then 1 else 0
        split
        · rw [if_pos (by omega)]
          omega
        · exact Nat.zero_le _
    · rw [if_neg q]
      exact Nat.le_refl _
  by_cases q : k = e.kind
  · subst q
    unfold setG at hk
    rw [if_pos rfl] at hk
    cases hk
    refine ⟨madeT sds e, by rw [valD_put, if_pos rfl], ?_⟩
    have key : ∀ p ∈ e.ps, ∀ ms, p.inn ≠ MR.byteS → g p.inn = some ms → cl nms g ms < cl nms (setG g e.kind (made g e)) (made g e) := fun p mp ms hb hg => by
      obtain ⟨d1, l1⟩ := hd _ _ hg
      have hr : rowP g p = ms := by
        unfold rowP
        rw [if_neg hb, hg]
        rfl
      have hlt : code ms < code (made g e) := code_short (hr ▸ made_long mp) d1 (by omega)
      refine sumf_lt (k := e.kind) (fun j _ => Nat.le_trans ?_ (hcl (made g e) j)) mk ?_
      · unfold clT
        cases g j with
        | none => exact Nat.le_refl _
        | some os =>
          show (if code os ≤ code ms then 1 else 0) ≤ if code os ≤ code (made g e) then 1 else 0
          split
          · rw [if_pos (by omega)]
            omega
          · exact Nat.zero_le _
      · have e1 : clT (setG g e.kind (made g e)) (made g e) e.kind = 1 := by
          unfold clT setG
          rw [if_pos rfl]
          exact if_pos (Nat.le_refl _)
        rw [e1]
        unfold clT
        cases ho : g e.kind with
        | none => exact Nat.zero_lt_one
        | some old =>
          have := c old ho
          show (if code old ≤ code ms then 1 else 0) < 1
          rw [if_neg (by omega)]
          exact Nat.zero_lt_one
    have h1 : 1 ≤ cl nms (setG g e.kind (made g e)) (made g e) := by
      have : sumf (fun _ => 0) nms < cl nms (setG g e.kind (made g e)) (made g e) := sumf_lt (k := e.kind) (fun _ _ => Nat.zero_le _) mk (by
        unfold clT setG
        rw [if_pos rfl]
        show 0 < if code (made g e) ≤ code (made g e) then 1 else 0
        rw [if_pos (Nat.le_refl _)]
        exact Nat.zero_lt_one)
      omega
    obtain ⟨m, hm⟩ : ∃ m, cl nms (setG g e.kind (made g e)) (made g e) = m + 1 := ⟨_, (Nat.sub_add_cancel h1).symm⟩
    rw [hm]
    refine ⟨e, me, valP sds, rowP g, rfl, rfl, rfl, fun p mp => ?_⟩
    by_cases hb : p.inn = MR.byteS
    · exact .inl ⟨hb, if_pos hb, if_pos hb⟩
    · refine .inr ⟨hb, ?_⟩
      have hs : (g p.inn).isSome = true := by
        have := hp p mp
        unfold okP at this
        rw [beq_eq_false_iff_ne.mpr hb, Bool.false_or] at this
        exact this
      obtain ⟨ms, hg⟩ := Option.isSome_iff_exists.mp hs
      obtain ⟨d, h2, h3⟩ := h.tr _ _ hg
      have := key p mp ms hb hg
      have e1 : valP sds p = d := by
        unfold valP
        rw [if_neg hb, h2]
        rfl
      have e2 : rowP g p = ms := by
        unfold rowP
        rw [if_neg hb, hg]
        rfl
      rw [e1, e2]
      exact h3.mono (by omega)
  · unfold setG at hk
    rw [if_neg q] at hk
    obtain ⟨d, h2, h3⟩ := h.tr k ns hk
    refine ⟨d, ?_, h3.mono (sumf_mono fun j _ => hcl ns j)⟩
    rw [valD_put, if_neg fun z => q (Sum.inr.inj z)]
    exact h2
end ML
namespace ML3
open PySem L2 DL
structure Ent where
  maker : Str
  kind : Str
  tag : Nat
  ps : List MR.Part
def entD (e : Ent) : Key × D := (.inr e.maker, MT.dEnt e.kind e.tag e.ps)
structure EntOk (nms : List Str) (e : Ent) : Prop where
  kind : e.kind ∈ nms
  tag : e.tag < 20
  few : e.ps.length ≤ 4
def okP (g : Fnd) (p : MR.Part) : Bool := (p.inn == MR.byteS) || (g p.inn).isSome
def rowP (g : Fnd) (p : MR.Part) : List Int := if p.inn = MR.byteS then [0] else (g p.inn).getD []
def valP (sds : List (Key × D)) (p : MR.Part) : D := if p.inn = MR.byteS then .int 0 else (valD sds (.inr p.inn)).getD .non
def made (g : Fnd) (e : Ent) : List Int := (e.tag : Nat) :: e.ps.flatMap (rowP g)
def madeT (sds : List (Key × D)) (e : Ent) : D := .tup (.str e.maker :: e.ps.map (valP sds))
def lessL (ns ms : List Int) : Bool := if (ns.length : Int) = (ms.length : Int) then HT.lexLt ns ms else decide ((ns.length : Int) < (ms.length : Int))
def LT (es : List Ent) : Nat → Str → D → List Int → Prop
  | 0 => fun _ _ _ => False
  | n + 1 => fun k d ns => ∃ e ∈ es, ∃ (vd : MR.Part → D) (vr : MR.Part → List Int), e.kind = k ∧ d = .tup (.str e.maker :: e.ps.map vd) ∧ ns = ((e.tag : Nat) : Int) :: e.ps.flatMap vr ∧
    ∀ p ∈ e.ps, (p.inn = MR.byteS ∧ vd p = .int 0 ∧ vr p = [0]) ∨ (p.inn ≠ MR.byteS ∧ LT es n p.inn (vd p) (vr p))
theorem LT.up {es : List Ent} : ∀ {n : Nat} {k : Str} {d : D} {ns : List Int}, LT es n k d ns → LT es (n + 1) k d ns
  | 0, _, _, _, h => h.elim
  | n + 1, k, d, ns, h => by
    obtain ⟨e, me, vd, vr, h1, h2, h3, h4⟩ := h
    refine ⟨e, me, vd, vr, h1, h2, h3, fun p m => ?_⟩
    rcases h4 p m with z | z
    · exact .inl z
    · exact .inr ⟨z.1, LT.up z.2⟩
theorem LT.mono {es : List Ent} {n : Nat} {k : Str} {d : D} {ns : List Int} (h : LT es n k d ns) : ∀ {m : Nat}, n ≤ m → LT es m k d ns
  | 0, l => by
    have : n = 0 := by omega
    subst this
    exact h
  | m + 1, l => by
    by_cases e : n = m + 1
    · exact e ▸ h
    · exact LT.up (LT.mono h (m := m) (by omega))
def clT (g : Fnd) (ns : List Int) (k : Str) : Nat := match g k with
  | some ms => if code ms ≤ code ns then 1 else 0
  | none => 0
def cl (nms : List Str) (g : Fnd) (ns : List Int) : Nat := sumf (clT g ns) nms
theorem sumf_mono {f g : Str → Nat} : ∀ {l : List Str}, (∀ k ∈ l, f k ≤ g k) → sumf f l ≤ sumf g l
  | [], _ => Nat.le_refl _
  | k :: r, h => Nat.add_le_add (h k List.mem_cons_self) (sumf_mono fun j m => h j (List.mem_cons_of_mem _ m))
theorem sumf_lt {f g : Str → Nat} {k : Str} : ∀ {l : List Str}, (∀ j ∈ l, f j ≤ g j) → k ∈ l → f k < g k → sumf f l < sumf g l
  | [], _, m, _ => by cases m
  | j :: r, h, m, hk => by
    have h1 := h j List.mem_cons_self
    have h2 := sumf_mono fun i m => h i (List.mem_cons_of_mem j m)
    show f j + sumf f r < g j + sumf g r
    by_cases e : j = k
    · subst e
      omega
    · have := sumf_lt (fun i m => h i (List.mem_cons_of_mem j m)) ((List.mem_cons.mp m).resolve_left fun z => e z.symm) hk
      omega
structure Fin (nms : List Str) (es : List Ent) (g : Fnd) (sds : List (Key × D)) : Prop where
  tr : ∀ k ns, g k = some ns → ∃ d, valD sds (.inr k) = some d ∧ LT es (cl nms g ns) k d ns
theorem Fin.nil {nms : List Str} {es : List Ent} : Fin nms es (fun _ => none) [] := ⟨fun _ _ h => by cases h⟩
theorem code_short {ns ms : List Int} (h : ns.length < ms.length) (d : Dig ns) (l : ns.length ≤ 400) : code ns < code ms := by
  unfold code
  have h4 := Nat.mul_le_mul_right P (show ns.length + 1 ≤ ms.length from h)
  rw [Nat.add_mul, Nat.one_mul] at h4
  have := val_P d l
  omega
theorem made_long {g : Fnd} {e : Ent} {p : MR.Part} (m : p ∈ e.ps) : (rowP g p).length < (made g e).length := by
  unfold made
  rw [List.length_cons]
  have : ∀ {ps : List MR.Part}, p ∈ ps → (rowP g p).length ≤ (ps.flatMap (rowP g)).length := fun {ps} m => by
    induction ps with
    | nil => cases m
    | cons q r ih =>
      rw [List.flatMap_cons, List.length_append]
      rcases List.mem_cons.mp m with rfl | m
      · omega
      · have := ih m
        omega
  have := this m
  omega
theorem Fin.put {nms : List Str} {es : List Ent} {g : Fnd} {sds : List (Key × D)} (h : Fin nms es g sds) {e : Ent} (me : e ∈ es) (mk : e.kind ∈ nms) (hp : ∀ p ∈ e.ps, okP g p = true) (hd : ∀ k ns, g k = some ns → Dig ns ∧ ns.length ≤ 341) (c : ∀ old, g e.kind = some old → code (made g e) < code old) :
    Fin nms es (setG g e.kind (made g e)) (putDk sds (.inr e.kind) (madeT sds e)) := by
  refine ⟨fun k ns hk => ?_⟩
  have hcl : ∀ ms j, clT g ms j ≤ clT (setG g e.kind (made g e)) ms j := fun ms j => by
    unfold clT setG
    by_cases q : j = e.kind
    · subst q
      rw [if_pos rfl]
      cases ho : g e.kind with
      | none => exact Nat.zero_le _
      | some old =>
        have := c old ho
        show (if code old ≤ code ms then 1 else 0) ≤ if code (made g e) ≤ code ms then 1 else 0
        split
        · rw [if_pos (by omega)]
          omega
        · exact Nat.zero_le _
    · rw [if_neg q]
      exact Nat.le_refl _
  by_cases q : k = e.kind
  · subst q
    unfold setG at hk
    rw [if_pos rfl] at hk
    cases hk
    refine ⟨madeT sds e, by rw [valD_put, if_pos rfl], ?_⟩
    have key : ∀ p ∈ e.ps, ∀ ms, p.inn ≠ MR.byteS → g p.inn = some ms → cl nms g ms < cl nms (setG g e.kind (made g e)) (made g e) := fun p mp ms hb hg => by
      obtain ⟨d1, l1⟩ := hd _ _ hg
      have hr : rowP g p = ms := by
        unfold rowP
        rw [if_neg hb, hg]
        rfl
      have hlt : code ms < code (made g e) := code_short (hr ▸ made_long mp) d1 (by omega)
      refine sumf_lt (k := e.kind) (fun j _ => Nat.le_trans ?_ (hcl (made g e) j)) mk ?_
      · unfold clT
        cases g j with
        | none => exact Nat.le_refl _
        | some os =>
          show (if code os ≤ code ms then 1 else 0) ≤ if code os ≤ code (made g e) then 1 else 0
          split
          · rw [if_pos (by omega)]
            omega
          · exact Nat.zero_le _
      · have e1 : clT (setG g e.kind (made g e)) (made g e) e.kind = 1 := by
          unfold clT setG
          rw [if_pos rfl]
          exact if_pos (Nat.le_refl _)
        rw [e1]
        unfold clT
        cases ho : g e.kind with
        | none => exact Nat.zero_lt_one
        | some old =>
          have := c old ho
          show (if code old ≤ code ms then 1 else 0) < 1
          rw [if_neg (by omega)]
          exact Nat.zero_lt_one
    have h1 : 1 ≤ cl nms (setG g e.kind (made g e)) (made g e) := by
      have : sumf (fun _ => 0) nms < cl nms (setG g e.kind (made g e)) (made g e) := sumf_lt (k := e.kind) (fun _ _ => Nat.zero_le _) mk (by
        unfold clT setG
        rw [if_pos rfl]
        show 0 < if code (made g e) ≤ code (made g e) then 1 else 0
        rw [if_pos (Nat.le_refl _)]
        exact Nat.zero_lt_one)
      omega
    obtain ⟨m, hm⟩ : ∃ m, cl nms (setG g e.kind (made g e)) (made g e) = m + 1 := ⟨_, (Nat.sub_add_cancel h1).symm⟩
    rw [hm]
    refine ⟨e, me, valP sds, rowP g, rfl, rfl, rfl, fun p mp => ?_⟩
    by_cases hb : p.inn = MR.byteS
    · exact .inl ⟨hb, if_pos hb, if_pos hb⟩
    · refine .inr ⟨hb, ?_⟩
      have hs : (g p.inn).isSome = true := by
        have := hp p mp
        unfold okP at this
        rw [beq_eq_false_iff_ne.mpr hb, Bool.false_or] at this
        exact this
      obtain ⟨ms, hg⟩ := Option.isSome_iff_exists.mp hs
      obtain ⟨d, h2, h3⟩ := h.tr _ _ hg
      have := key p mp ms hb hg
      have e1 : valP sds p = d := by
        unfold valP
        rw [if_neg hb, h2]
        rfl
      have e2 : rowP g p = ms := by
        unfold rowP
        rw [if_neg hb, hg]
        rfl
      rw [e1, e2]
      exact h3.mono (by omega)
  · unfold setG at hk
    rw [if_neg q] at hk
    obtain ⟨d, h2, h3⟩ := h.tr k ns hk
    refine ⟨d, ?_, h3.mono (sumf_mono fun j _ => hcl ns j)⟩
    rw [valD_put, if_neg fun z => q (Sum.inr.inj z)]
    exact h2
def Closed (es : List Ent) (g : Fnd) : Prop := ∀ e ∈ es, (∀ p ∈ e.ps, okP g p = true) → ∃ old, g e.kind = some old ∧ lessL (made g e) old = false
structure Done (nms : List Str) (es : List Ent) (g : Fnd) (sds : List (Key × D)) : Prop where
  fin : Fin nms es g sds
  closed : Closed es g
  small : ∀ k, (valD sds (.inr k)).isSome = (g k).isSome
  dig : ∀ k ns, g k = some ns → Dig ns ∧ ns.length ≤ 341
end ML3
namespace MB
open PySem L2 DL
def partB (p : MR.Part) : Bool := MN.isName p.nm && match p.pr with
  | none => p.inn == MR.byteS
  | some i => MN.isName p.inn && (!(p.inn == MR.byteS) && (decide (1 ≤ i) && decide (i ≤ 1000)))
def newV (r : MR.Row) (tds fds : List (Key × D)) : Bool := MN.isName r.kind && (!(r.kind == MR.byteS) && (MN.isName r.maker && (!(valD tds (.inr r.maker)).isSome && (((valD fds (.inr r.kind)).isSome || !decide (fds.length = 4)) && (decide (r.parts.length ≤ 4) && (r.parts.all partB && decide ((r.parts.map (·.nm)).Nodup)))))))
def newB (pre : List MR.Row) (r : MR.Row) : Bool := MN.isName r.kind && (!(r.kind == MR.byteS) && (MN.isName r.maker && (!decide (r.maker ∈ pre.map (·.maker)) && ((decide (r.kind ∈ MI.kindsOf pre) || !decide ((MI.kindsOf pre).length = 4)) && (decide (r.parts.length ≤ 4) && (r.parts.all partB && decide ((r.parts.map (·.nm)).Nodup)))))))
def treeOk (rows : List MR.Row) (p : MR.Part) : Bool := p.inn == MR.byteS || decide (p.inn ∈ MI.kindsOf rows)
def finB (rows : List MR.Row) : Nat → Str → Bool
  | 0, _ => false
  | n + 1, k => rows.any fun r => decide (r.kind = k) && r.parts.all fun p => p.inn == MR.byteS || finB rows n p.inn
structure Small (rows : List MR.Row) : Prop where
  len : rows.length ≤ 14
  row : ∀ r ∈ rows, r.kind.length ≤ 100 ∧ r.maker.length ≤ 100 ∧ r.parts.length ≤ 5 ∧ ∀ p ∈ r.parts, p.nm.length ≤ 100 ∧ p.inn.length ≤ 100
def New (rows : List MR.Row) (m : Nat) : Prop := ∀ j r, j < m → rows[j]? = some r → newB (rows.take j) r = true
def Trees (rows : List MR.Row) (m : Nat) : Prop := ∀ j r, j < m → rows[j]? = some r → r.parts.all (treeOk rows) = true
inductive Bad (rows : List MR.Row) : Nat → Prop
  | empty : rows = [] → Bad rows 0
  | one {a : Nat} {r : MR.Row} : rows[a]? = some r → New rows a → a ≤ 12 → (a = 12 ∨ newB (rows.take a) r = false) → Bad rows a
  | two {a : Nat} {r : MR.Row} : rows.length ≤ 12 → New rows rows.length → rows[a]? = some r → Trees rows a → r.parts.all (treeOk rows) = false → Bad rows a
  | three {a : Nat} {r : MR.Row} : rows.length ≤ 12 → New rows rows.length → Trees rows rows.length → rows[a]? = some r → (∀ j r', j < a → rows[j]? = some r' → ∃ n, finB rows n r'.kind = true) → (∀ n, finB rows n r.kind = false) → Bad rows a
structure Good (rows : List MR.Row) : Prop where
  ne : rows ≠ []
  len : rows.length ≤ 12
  new : New rows rows.length
  trees : Trees rows rows.length
  fin : ∀ r ∈ rows, ∃ n, finB rows n r.kind = true
def Verd (rows : List MR.Row) : Option Nat → Prop
  | none => Good rows
  | some a => Bad rows a
theorem new_parts {pre : List MR.Row} {r : MR.Row} (h : newB pre r = true) : MN.isName r.kind = true ∧ r.kind ≠ MR.byteS ∧ MN.isName r.maker = true ∧ r.maker ∉ pre.map (·.maker) ∧ (r.kind ∈ MI.kindsOf pre ∨ (MI.kindsOf pre).length ≠ 4) ∧ r.parts.length ≤ 4 ∧ r.parts.all partB = true ∧ (r.parts.map (·.nm)).Nodup := by
  unfold newB at h
  simp only [Bool.and_eq_true, Bool.or_eq_true, Bool.not_eq_true', decide_eq_true_eq, decide_eq_false_iff_not, beq_eq_false_iff_ne] at h
  obtain ⟨h1, h2, h3, h4, h5, h6, h7, h8⟩ := h
  exact ⟨h1, h2, h3, h4, h5, h6, h7, h8⟩
theorem take_snoc {α : Type} {l : List α} {i : Nat} {r : α} (h : l[i]? = some r) : l.take (i + 1) = l.take i ++ [r] := by rw [List.take_add_one, h]; rfl
theorem kinds4 {rows : List MR.Row} {m : Nat} (h : New rows m) : ∀ i, i ≤ m → (MI.kindsOf (rows.take i)).length ≤ 4
  | 0, _ => by rw [List.take_zero]; exact Nat.zero_le _
  | i + 1, hi => by
    have ih := kinds4 h i (by omega)
    cases e : rows[i]? with
    | none =>
      have : rows.length ≤ i := List.getElem?_eq_none_iff.mp e
      rw [List.take_of_length_le (by omega)]
      rw [List.take_of_length_le this] at ih
      exact ih
    | some r =>
      obtain ⟨_, _, _, _, h5, _⟩ := new_parts (h i r (by omega) e)
      rw [take_snoc e, MI.kinds_snoc]
      by_cases hk : r.kind ∈ MI.kindsOf (rows.take i)
      · rw [if_pos hk]
        exact ih
      · rw [if_neg hk, List.length_append]
        have := h5.resolve_left hk
        show _ + 1 ≤ 4
        omega
theorem newV_eq {pre : List MR.Row} {r : MR.Row} {ds : List D} (hl : ds.length = (MI.kindsOf pre).length) : newV r (MI.entsFrom [] pre) (zipD (MI.keys pre) ds) = newB pre r := by
  unfold newV newB
  have e1 : (valD (MI.entsFrom [] pre) (.inr r.maker)).isSome = decide (r.maker ∈ pre.map (·.maker)) := by
    by_cases h : r.maker ∈ pre.map (·.maker)
    · rw [decide_eq_true h, ← ML.any_valD, List.any_eq_true]
      have hk := MI.ents_keys [] pre
      have : D.str r.maker ∈ (MI.entsFrom [] pre).map fun kv => kD kv.1 := by
        rw [hk]
        exact List.mem_map_of_mem h
      obtain ⟨kv, mkv, e⟩ := List.mem_map.mp this
      refine ⟨kv, mkv, decide_eq_true ?_⟩
      obtain ⟨k, v⟩ := kv
      cases k with
      | inl i => cases e
      | inr z =>
        have e : D.str z = D.str r.maker := e
        cases e
        rfl
    · rw [decide_eq_false h, MI.ents_none h]
      rfl
  have e2 : (valD (zipD (MI.keys pre) ds) (.inr r.kind)).isSome = decide (r.kind ∈ MI.kindsOf pre) := by
    by_cases h : r.kind ∈ MI.kindsOf pre
    · rw [decide_eq_true h]
      obtain ⟨q, hq⟩ := List.mem_iff_getElem?.mp h
      have hql := (List.getElem?_eq_some_iff.mp hq).1
      rw [MI.keys, MI.val_zip (MI.kinds_nd _) hq hl.symm, List.getElem?_eq_getElem (by omega)]
      rfl
    · rw [decide_eq_false h]
      unfold MI.keys
      rw [MI.val_zip_none h]
      rfl
  have e3 : (zipD (MI.keys pre) ds).length = (MI.kindsOf pre).length := by
    unfold zipD MI.keys
    rw [List.length_zipWith, List.length_map, hl]
    omega
  rw [e1, e2, e3]
theorem fin_up {rows : List MR.Row} : ∀ {n : Nat} {k : Str}, finB rows n k = true → finB rows (n + 1) k = true
  | 0, _, h => by cases h
  | n + 1, k, h => by
    unfold finB at h ⊢
    rw [List.any_eq_true] at h ⊢
    obtain ⟨r, mr, h⟩ := h
    rw [Bool.and_eq_true, List.all_eq_true] at h
    refine ⟨r, mr, ?_⟩
    rw [Bool.and_eq_true, List.all_eq_true]
    refine ⟨h.1, fun p mp => ?_⟩
    have := h.2 p mp
    rw [Bool.or_eq_true] at this ⊢
    exact this.imp id fin_up
theorem fin_le {rows : List MR.Row} {n m : Nat} {k : Str} (h : finB rows n k = true) (l : n ≤ m) : finB rows m k = true := by
  induction m with
  | zero =>
    have : n = 0 := by omega
    rw [this] at h
    exact h
  | succ m ih =>
    by_cases e : n = m + 1
    · rw [← e]
      exact h
    · exact fin_up (ih (by omega))
theorem fin_mk {rows : List MR.Row} {r : MR.Row} (mr : r ∈ rows) (h : ∀ p ∈ r.parts, p.inn = MR.byteS ∨ ∃ n, finB rows n p.inn = true) : ∃ n, finB rows n r.kind = true := by
  have : ∃ n, ∀ p ∈ r.parts, p.inn = MR.byteS ∨ finB rows n p.inn = true := by
    generalize r.parts = ps at h
    induction ps with
    | nil => exact ⟨0, fun p m => by cases m⟩
    | cons p ps ih =>
      obtain ⟨n, hn⟩ := ih fun q m => h q (List.mem_cons_of_mem _ m)
      rcases h p List.mem_cons_self with e | ⟨m, hm⟩
      · refine ⟨n, fun q mq => ?_⟩
        rcases List.mem_cons.mp mq with rfl | mq
        · exact .inl e
        · exact hn q mq
      · refine ⟨max n m, fun q mq => ?_⟩
        rcases List.mem_cons.mp mq with rfl | mq
        · exact .inr (fin_le hm (by omega))
        · exact (hn q mq).imp id fun z => fin_le z (by omega)
  obtain ⟨n, hn⟩ := this
  refine ⟨n + 1, ?_⟩
  unfold finB
  rw [List.any_eq_true]
  refine ⟨r, mr, ?_⟩
  rw [Bool.and_eq_true, List.all_eq_true]
  refine ⟨decide_eq_true rfl, fun p mp => ?_⟩
  rw [Bool.or_eq_true, beq_iff_eq]
  exact hn p mp
theorem fin_loop {rows : List MR.Row} {k : Str} (hk : k ≠ MR.byteS) (h : ∀ r ∈ rows, r.kind = k → ∃ p ∈ r.parts, p.inn = k) : ∀ n, finB rows n k = false
  | 0 => rfl
  | n + 1 => by
    cases e : finB rows (n + 1) k with
    | false => rfl
    | true =>
      unfold finB at e
      rw [List.any_eq_true] at e
      obtain ⟨r, mr, e⟩ := e
      rw [Bool.and_eq_true, List.all_eq_true] at e
      obtain ⟨p, mp, ep⟩ := h r mr (of_decide_eq_true e.1)
      have := e.2 p mp
      rw [ep, fin_loop hk h n, Bool.or_false, beq_iff_eq] at this
      exact absurd this hk
theorem ents_of {rows : List MR.Row} (h12 : rows.length ≤ 12) (hn : New rows rows.length) : ∃ es : List ML3.Ent, es.map ML3.entD = MI.entsFrom [] rows ∧ (∀ e ∈ es, ML3.EntOk (MI.kindsOf rows) e) ∧ (∀ r ∈ rows, ∃ e ∈ es, e.kind = r.kind ∧ e.ps = r.parts) ∧ ∀ e ∈ es, ∃ r ∈ rows, r.kind = e.kind ∧ r.parts = e.ps := by
  have main : ∀ (rs pre : List MR.Row), (∀ r ∈ rs, r ∈ rows) → pre.length + rs.length ≤ 12 → ∃ es : List ML3.Ent, es.map ML3.entD = MI.entsFrom pre rs ∧ (∀ e ∈ es, ML3.EntOk (MI.kindsOf rows) e) ∧ (∀ r ∈ rs, ∃ e ∈ es, e.kind = r.kind ∧ e.ps = r.parts) ∧ ∀ e ∈ es, ∃ r ∈ rows, r.kind = e.kind ∧ r.parts = e.ps := by
    intro rs
    induction rs with
    | nil => exact fun pre _ _ => ⟨[], rfl, (fun _ m => by cases m), (fun _ m => by cases m), fun _ m => by cases m⟩
    | cons r rs ih =>
      intro pre hm hl
      obtain ⟨es, h1, h2, h3, h4⟩ := ih (pre ++ [r]) (fun x m => hm x (List.mem_cons_of_mem _ m)) (by rw [List.length_append]; simp at hl ⊢; omega)
      have mr := hm r List.mem_cons_self
      refine ⟨⟨r.maker, r.kind, (MI.makersOf r.kind pre).length, r.parts⟩ :: es, ?_, fun e m => ?_, fun x m => ?_, fun e m => ?_⟩
      · rw [List.map_cons, h1]
        rfl
      · rcases List.mem_cons.mp m with m | m
        · subst m
          obtain ⟨j, hj⟩ := List.mem_iff_getElem?.mp mr
          have hp := new_parts (hn j r (List.getElem?_eq_some_iff.mp hj).1 hj)
          refine ⟨(MI.dist_mem _).mpr (List.mem_map_of_mem mr), ?_, hp.2.2.2.2.2.1⟩
          have : (MI.makersOf r.kind pre).length ≤ pre.length := by
            unfold MI.makersOf
            rw [List.length_map]
            exact List.length_filter_le ..
          show (MI.makersOf r.kind pre).length < 20
          simp at hl
          omega
        · exact h2 e m
      · rcases List.mem_cons.mp m with m | m
        · subst m
          exact ⟨_, List.mem_cons_self, rfl, rfl⟩
        · obtain ⟨e, me, z⟩ := h3 x m
          exact ⟨e, List.mem_cons_of_mem _ me, z⟩
      · rcases List.mem_cons.mp m with m | m
        · subst m
          exact ⟨r, mr, rfl, rfl⟩
        · exact h4 e m
  obtain ⟨es, h1, h2, h3, h4⟩ := main rows [] (fun _ m => m) (by simpa using h12)
  exact ⟨es, h1, h2, h3, h4⟩
theorem found_iff {rows : List MR.Row} {es : List ML3.Ent} {g : ML3.Fnd} {nms : List Str} {sds : List (Key × D)} (hd : ML3.Done nms es g sds) (h3 : ∀ r ∈ rows, ∃ e ∈ es, e.kind = r.kind ∧ e.ps = r.parts) (h4 : ∀ e ∈ es, ∃ r ∈ rows, r.kind = e.kind ∧ r.parts = e.ps) (k : Str) : (valD sds (.inr k)).isSome = true ↔ ∃ n, finB rows n k = true := by
  rw [hd.small]
  constructor
  · intro h
    obtain ⟨ns, hns⟩ := Option.isSome_iff_exists.mp h
    obtain ⟨d, _, hlt⟩ := hd.fin.tr k ns hns
    have key : ∀ (n : Nat) (k : Str) (d : D) (ns : List Int), ML3.LT es n k d ns → ∃ m, finB rows m k = true := by
      intro n
      induction n with
      | zero => exact fun _ _ _ h => h.elim
      | succ n ih =>
        rintro k d ns ⟨e, me, vd, vr, rfl, _, _, hp⟩
        obtain ⟨r, mr, e1, e2⟩ := h4 e me
        rw [← e1]
        refine fin_mk mr fun p mp => ?_
        rw [e2] at mp
        rcases hp p mp with ⟨z, _⟩ | ⟨_, z⟩
        · exact .inl z
        · exact .inr (ih _ _ _ z)
    exact key _ _ _ _ hlt
  · rintro ⟨n, hn⟩
    have key : ∀ (n : Nat) (k : Str), finB rows n k = true → (g k).isSome = true := by
      intro n
      induction n with
      | zero => exact fun _ h => by cases h
      | succ n ih =>
        intro k h
        unfold finB at h
        rw [List.any_eq_true] at h
        obtain ⟨r, mr, h⟩ := h
        rw [Bool.and_eq_true, List.all_eq_true] at h
        obtain ⟨e, me, e1, e2⟩ := h3 r mr
        obtain ⟨old, ho, _⟩ := hd.closed e me fun p mp => by
          rw [e2] at mp
          unfold ML3.okP
          have := h.2 p mp
          rw [Bool.or_eq_true] at this ⊢
          exact this.imp id (ih _)
        rw [e1, of_decide_eq_true h.1] at ho
        rw [ho]
        rfl
    exact key n k hn
theorem dist_pre (a : List Str) : ∀ b : List Str, ∃ t, dist (a ++ b) = dist a ++ t := fun b => by
  refine snoc_ind (C := fun b => ∃ t, dist (a ++ b) = dist a ++ t) ⟨[], by rw [List.append_nil, List.append_nil]⟩ (fun l z ih => ?_) b
  obtain ⟨t, e⟩ := ih
  rw [← List.append_assoc, dist_snoc]
  by_cases h : z ∈ dist (a ++ l)
  · rw [if_pos h]
    exact ⟨t, e⟩
  · rw [if_neg h, e]
    exact ⟨t ++ [z], List.append_assoc ..⟩
theorem dist_le (l : List Str) : (dist l).length ≤ l.length ∧ ((dist l).length = l.length → l.Nodup) := by
  refine snoc_ind (C := fun l => (dist l).length ≤ l.length ∧ ((dist l).length = l.length → l.Nodup)) ⟨Nat.le_refl _, fun _ => List.nodup_nil⟩ (fun l z ih => ?_) l
  rw [dist_snoc]
  by_cases h : z ∈ dist l
  · rw [if_pos h, List.length_append]
    refine ⟨Nat.le_trans ih.1 (Nat.le_add_right _ _), fun e => ?_⟩
    have e : (dist l).length = l.length + 1 := e
    omega
  · rw [if_neg h, List.length_append, List.length_append]
    refine ⟨Nat.add_le_add_right ih.1 _, fun e => ?_⟩
    have e : (dist l).length + 1 = l.length + 1 := e
    have nd := ih.2 (by omega)
    rw [List.nodup_append]
    refine ⟨nd, by simp, fun a m b m' q => ?_⟩
    simp at m'
    subst m'
    subst q
    exact h ((MI.dist_mem _).mpr m)
theorem dist_eq (l : List Str) : (((dist l).length : Int) == (l.length : Int)) = decide l.Nodup := by
  by_cases h : l.Nodup
  · rw [decide_eq_true h, dist_nodup _ h]
    exact beq_self_eq_true _
  · rw [decide_eq_false h, beq_eq_false_iff_ne]
    intro e
    exact h ((dist_le l).2 (by omega))
theorem mem_split {z : Str} : ∀ {l : List MR.Row}, z ∈ l.map (·.kind) → ∃ a r b, l = a ++ r :: b ∧ r.kind = z ∧ z ∉ a.map (·.kind)
  | [], h => by cases h
  | x :: l, h => by
    by_cases e : x.kind = z
    · exact ⟨[], x, l, rfl, e, by simp⟩
    · have h : z ∈ l.map (·.kind) := by
        rcases List.mem_cons.mp h with q | q
        · exact absurd q.symm e
        · exact q
      obtain ⟨a, r, b, rfl, h1, h2⟩ := mem_split h
      refine ⟨x :: a, r, b, rfl, h1, fun m => ?_⟩
      rcases List.mem_cons.mp m with q | q
      · exact e q.symm
      · exact h2 q
theorem kind_at {rows : List MR.Row} {i : Nat} {z : Str} (h : (MI.kindsOf rows)[i]? = some z) : ∃ (j : Nat) (r : MR.Row), rows[j]? = some r ∧ r.kind = z ∧ (∀ m, m < j → ∀ r' : MR.Row, rows[m]? = some r' → r'.kind ≠ z ∧ r'.kind ∈ (MI.kindsOf rows).take i) := by
  obtain ⟨a, r, b, rfl, hz, hn⟩ := mem_split ((MI.dist_mem _).mp (List.mem_of_getElem? h))
  refine ⟨a.length, r, by simp, hz, fun m hm r' hr' => ?_⟩
  have hr2 : a[m]? = some r' := by
    rw [List.getElem?_append_left hm] at hr'
    exact hr'
  have mr := List.mem_of_getElem? hr2
  refine ⟨fun e => hn (by rw [← e]; exact List.mem_map_of_mem mr), ?_⟩
  have nd := MI.kinds_nd (a ++ r :: b)
  obtain ⟨t, et⟩ := dist_pre (a.map (·.kind) ++ [r.kind]) (b.map (·.kind))
  have ek : MI.kindsOf (a ++ r :: b) = dist (a.map (·.kind)) ++ ([z] ++ t) := by
    unfold MI.kindsOf
    rw [List.map_append, List.map_cons]
    have e0 : a.map (·.kind) ++ r.kind :: b.map (·.kind) = (a.map (·.kind) ++ [r.kind]) ++ b.map (·.kind) := by rw [List.append_assoc]; rfl
    rw [e0, et, dist_snoc, if_neg (fun m => hn (by rw [hz] at m; exact (MI.dist_mem _).mp m)), hz, List.append_assoc]
  have hi : i = (dist (a.map (·.kind))).length := by
    have h2 : (MI.kindsOf (a ++ r :: b))[(dist (a.map (·.kind))).length]? = some z := by
      rw [ek, List.getElem?_append_right (Nat.le_refl _), Nat.sub_self]
      rfl
    exact L2.nd_ix nd h h2
  rw [hi, ek, List.take_left]
  exact (MI.dist_mem _).mpr (List.mem_map_of_mem mr)
theorem one_le {rows : List MR.Row} {a : Nat} {r : MR.Row} (hr : rows[a]? = some r) (ha : a ≤ 12) (h : a = 12 ∨ newB (rows.take a) r = false) {m : Nat} (hm : New rows m) (h12 : m ≤ 12) : m ≤ a := by
  refine Nat.not_lt.mp fun l => ?_
  rcases h with h | h
  · omega
  · rw [hm a r l hr] at h
    cases h
theorem two_le {rows : List MR.Row} {a : Nat} {r : MR.Row} (hr : rows[a]? = some r) (h : r.parts.all (treeOk rows) = false) {m : Nat} (hm : Trees rows m) : m ≤ a := by
  refine Nat.not_lt.mp fun l => ?_
  rw [hm a r l hr] at h
  cases h
theorem three_le {rows : List MR.Row} {a : Nat} {r : MR.Row} (hr : rows[a]? = some r) (h : ∀ n, finB rows n r.kind = false) {m : Nat} (hm : ∀ j r', j < m → rows[j]? = some r' → ∃ n, finB rows n r'.kind = true) : m ≤ a := by
  refine Nat.not_lt.mp fun l => ?_
  obtain ⟨n, e⟩ := hm a r l hr
  rw [h n] at e
  cases e
theorem lt_of {α : Type} {l : List α} {a : Nat} {r : α} (h : l[a]? = some r) : a < l.length := (List.getElem?_eq_some_iff.mp h).1
theorem uniq {rows : List MR.Row} {a b : Nat} (ha : Bad rows a) (hb : Bad rows b) : a = b := by
  cases ha with
  | empty e =>
    subst e
    cases hb with
    | empty _ => rfl
    | one hr _ _ _ => cases hr
    | two _ _ hr _ _ => cases hr
    | three _ _ _ hr _ _ => cases hr
  | one hr hn hl hf =>
    cases hb with
    | empty e => subst e; cases hr
    | one hr' hn' hl' hf' => exact Nat.le_antisymm (one_le hr' hl' hf' hn hl) (one_le hr hl hf hn' hl')
    | two h12 hn' _ _ _ => exact absurd (one_le hr hl hf hn' h12) (Nat.not_le.mpr (lt_of hr))
    | three h12 hn' _ _ _ _ => exact absurd (one_le hr hl hf hn' h12) (Nat.not_le.mpr (lt_of hr))
  | two h12 hn hr ht hf =>
    cases hb with
    | empty e => subst e; cases hr
    | one hr' hn' hl' hf' => exact absurd (one_le hr' hl' hf' hn h12) (Nat.not_le.mpr (lt_of hr'))
    | two _ _ hr' ht' hf' => exact Nat.le_antisymm (two_le hr' hf' ht) (two_le hr hf ht')
    | three _ _ ht' _ _ _ => exact absurd (two_le hr hf ht') (Nat.not_le.mpr (lt_of hr))
  | three h12 hn ht hr hp hf =>
    cases hb with
    | empty e => subst e; cases hr
    | one hr' hn' hl' hf' => exact absurd (one_le hr' hl' hf' hn h12) (Nat.not_le.mpr (lt_of hr'))
    | two _ _ hr' _ hf' => exact absurd (two_le hr' hf' ht) (Nat.not_le.mpr (lt_of hr'))
    | three _ _ _ hr' hp' hf' => exact Nat.le_antisymm (three_le hr' hf' hp) (three_le hr hf hp')
theorem not_both {rows : List MR.Row} {a : Nat} (ha : Bad rows a) (g : Good rows) : False := by
  cases ha with
  | empty e => exact g.ne e
  | one hr hn hl hf => exact absurd (one_le hr hl hf g.new g.len) (Nat.not_le.mpr (lt_of hr))
  | two _ _ hr _ hf => exact absurd (two_le hr hf g.trees) (Nat.not_le.mpr (lt_of hr))
  | three _ _ _ hr _ hf => exact absurd (three_le hr hf (m := rows.length) fun j r' _ h => g.fin r' (List.mem_of_getElem? h)) (Nat.not_le.mpr (lt_of hr))
theorem New.next {rows : List MR.Row} {i : Nat} {r : MR.Row} (h : New rows i) (hr : rows[i]? = some r) (hb : newB (rows.take i) r = true) : New rows (i + 1) := fun j x hj hx => by
  by_cases e : j = i
  · subst e
    rw [hr] at hx
    cases hx
    exact hb
  · exact h j x (by omega) hx
theorem Trees.next {rows : List MR.Row} {i : Nat} {r : MR.Row} (h : Trees rows i) (hr : rows[i]? = some r) (hb : r.parts.all (treeOk rows) = true) : Trees rows (i + 1) := fun j x hj hx => by
  by_cases e : j = i
  · subst e
    rw [hr] at hx
    cases hx
    exact hb
  · exact h j x (by omega) hx
def SmallR (r : MR.Row) : Prop := r.kind.length ≤ 100 ∧ r.maker.length ≤ 100 ∧ r.parts.length ≤ 5 ∧ ∀ p ∈ r.parts, p.nm.length ≤ 100 ∧ p.inn.length ≤ 100
def q24 : Str := ⟨(List.replicate 24 113).toArray⟩
def b25 : Str := ⟨(List.replicate 25 98).toArray⟩
def way11 (r : MR.Row) : MR.Row := ⟨r.kind, r.maker, [⟨"a", q24, some 3⟩]⟩
def SpRow (rows : List MR.Row) (a : Nat) (way : Int) (x : MR.Row) : Prop := SmallR x ∧ (way ≠ 11 → newB (rows.take a) x = false) ∧ (way ≠ 11 → way ≠ 3 → ∀ pre, newB pre x = false) ∧ (way = 11 → ∃ r, rows[a]? = some r ∧ x = way11 r)
theorem sp_any {rows : List MR.Row} {a : Nat} {way : Int} {x : MR.Row} (s : SmallR x) (h : ∀ pre, newB pre x = false) (w : way ≠ 11) : SpRow rows a way x := ⟨s, fun _ => h _, fun _ _ => h, fun e => absurd e w⟩
def badL : List Str := ["", "1a", "a b", "a.b", "a_b", "+a", b25, "a\n"]
theorem bad_nm {v : Int} (h0 : 0 ≤ v) (h8 : v < 8) : ∃ z, atI (badL.map D.str) v = some (.str z) ∧ MN.isName z = false ∧ z.length ≤ 25 := by
  have hv : v = 0 ∨ v = 1 ∨ v = 2 ∨ v = 3 ∨ v = 4 ∨ v = 5 ∨ v = 6 ∨ v = 7 := by omega
  rcases hv with rfl | rfl | rfl | rfl | rfl | rfl | rfl | rfl
  all_goals exact ⟨_, rfl, by decide +kernel, by decide +kernel⟩
theorem new_kind {z m : Str} {ps : List MR.Part} (h : MN.isName z = false) (pre : List MR.Row) : newB pre ⟨z, m, ps⟩ = false := by
  unfold newB
  rw [h, Bool.false_and]
theorem new_byte {m : Str} {ps : List MR.Part} (pre : List MR.Row) : newB pre ⟨MR.byteS, m, ps⟩ = false := by
  unfold newB
  show (_ && (!(MR.byteS == MR.byteS) && _)) = false
  rw [beq_self_eq_true, Bool.not_true, Bool.false_and, Bool.and_false]
theorem new_maker {z m : Str} {ps : List MR.Part} (h : MN.isName m = false) (pre : List MR.Row) : newB pre ⟨z, m, ps⟩ = false := by
  unfold newB
  rw [h, Bool.false_and, Bool.and_false, Bool.and_false]
theorem new_taken {r : MR.Row} {pre : List MR.Row} (h : r.maker ∈ pre.map (·.maker)) : newB pre r = false := by
  unfold newB
  rw [decide_eq_true h, Bool.not_true, Bool.false_and, Bool.and_false, Bool.and_false, Bool.and_false]
theorem new_parts5 {r : MR.Row} (h : 4 < r.parts.length) (pre : List MR.Row) : newB pre r = false := by
  unfold newB
  rw [decide_eq_false (show ¬ r.parts.length ≤ 4 by omega), Bool.false_and, Bool.and_false, Bool.and_false, Bool.and_false, Bool.and_false, Bool.and_false]
theorem new_partF {r : MR.Row} {p : MR.Part} (m : p ∈ r.parts) (h : partB p = false) (pre : List MR.Row) : newB pre r = false := by
  have : r.parts.all partB = false := by
    cases e : r.parts.all partB with
    | false => rfl
    | true =>
      rw [List.all_eq_true] at e
      rw [e p m] at h
      cases h
  unfold newB
  rw [this, Bool.false_and, Bool.and_false, Bool.and_false, Bool.and_false, Bool.and_false, Bool.and_false, Bool.and_false]
theorem new_dup {r : MR.Row} (h : ¬ (r.parts.map (·.nm)).Nodup) (pre : List MR.Row) : newB pre r = false := by
  unfold newB
  rw [decide_eq_false h, Bool.and_false, Bool.and_false, Bool.and_false, Bool.and_false, Bool.and_false, Bool.and_false, Bool.and_false]
theorem table_new {nms : List Str} {rows : List MR.Row} (hT : MR.Table nms rows) {r : MR.Row} {i : Nat} (hr : rows[i]? = some r) : newB (rows.take i) r = true := by
  have mr : r ∈ rows := List.mem_of_getElem? hr
  have hk := hT.some.kind r mr
  obtain ⟨b, hd⟩ := hT.some.parts r mr
  unfold newB
  have h1 : r.parts.all partB = true := by
    rw [List.all_eq_true]
    intro p m
    obtain ⟨n1, n2⟩ := MI.isName_of (hd.name p m) (by decide)
    unfold partB
    rw [n1, Bool.true_and]
    rcases hd.ok p m with ⟨h, h2⟩ | ⟨h1, i, h2, h3, h4⟩
    · rw [h2]
      show (p.inn == MR.byteS) = true
      rw [h]
      exact beq_self_eq_true _
    · rw [h2]
      show (MN.isName p.inn && (!(p.inn == MR.byteS) && (decide (1 ≤ i) && decide (i ≤ 1000)))) = true
      rw [(MI.isName_of (hT.names.name _ h1) (by decide)).1, decide_eq_true h3, decide_eq_true h4]
      have : (p.inn == MR.byteS) = false := by
        rw [beq_eq_false_iff_ne]
        intro e
        exact hT.names.byte (e ▸ h1)
      rw [this]
      rfl
  rw [(MI.isName_of (hT.names.name _ hk) (by decide)).1, (MI.isName_of (hT.some.maker r mr) (by decide)).1, h1, decide_eq_true hd.nd, decide_eq_true hd.len, decide_eq_false (MI.maker_new hT.some.nd hr)]
  have e1 : (r.kind == MR.byteS) = false := by
    rw [beq_eq_false_iff_ne]
    intro e
    exact hT.names.byte (e ▸ hk)
  have := MI.kinds_few hT i
  rw [e1, decide_eq_false (show ¬ (MI.kindsOf (rows.take i)).length = 4 by omega)]
  simp
theorem table_small {nms : List Str} {rows : List MR.Row} (hT : MR.Table nms rows) {r : MR.Row} (mr : r ∈ rows) : SmallR r := by
  obtain ⟨b, hd⟩ := hT.some.parts r mr
  have h8 : ∀ z ∈ nms, z.length ≤ 100 := fun z m => Nat.le_trans (hT.names.name z m).2 (by decide)
  refine ⟨h8 _ (hT.some.kind r mr), Nat.le_trans (hT.some.maker r mr).2 (by decide), Nat.le_trans hd.len (by decide), fun p m => ⟨Nat.le_trans (hd.name p m).2 (by decide), ?_⟩⟩
  rcases hd.ok p m with ⟨h, _⟩ | ⟨h, _⟩
  · rw [h]; decide
  · exact h8 _ h
theorem table_trees {nms : List Str} {rows : List MR.Row} (hT : MR.Table nms rows) {r : MR.Row} (mr : r ∈ rows) : r.parts.all (treeOk rows) = true := by
  obtain ⟨b, hd⟩ := hT.some.parts r mr
  rw [List.all_eq_true]
  intro p m
  unfold treeOk
  rw [Bool.or_eq_true, beq_iff_eq, decide_eq_true_eq]
  exact (hd.ok p m).imp (fun z => z.1) fun z => MI.kind_mem hT z.1
theorem table_fin {nms : List Str} {rows : List MR.Row} (hT : MR.Table nms rows) : ∀ k, k ∈ nms → ∃ n, finB rows n k = true := by
  have main : ∀ (n i : Nat), nms.length - i = n → ∀ k, k ∈ nms.drop i → ∃ n, finB rows n k = true := by
    intro n
    induction n with
    | zero =>
      intro i hi k m
      rw [List.drop_of_length_le (by omega)] at m
      cases m
    | succ n ih =>
      intro i hi k m
      have hlt : i < nms.length := by omega
      rw [List.drop_eq_getElem_cons hlt] at m
      rcases List.mem_cons.mp m with m | m
      · obtain ⟨r, hr, er, hp⟩ := hT.base i hlt
        rw [List.getElem?_eq_getElem hlt, ← m] at er
        cases er
        refine fin_mk hr fun p mp => ?_
        rcases hp p mp with z | z
        · exact .inl z
        · exact .inr (ih (i + 1) (by omega) _ z)
      · exact ih (i + 1) (by omega) k m
  exact fun k m => main nms.length 0 rfl k m
theorem table_good {nms : List Str} {rows : List MR.Row} (hT : MR.Table nms rows) : Good rows where
  ne := hT.ne
  len := Nat.le_trans hT.some.len (by decide)
  new := fun _ _ _ h => table_new hT h
  trees := fun _ _ _ h => table_trees hT (List.mem_of_getElem? h)
  fin := fun r m => table_fin hT _ (hT.some.kind r m)
def ownB (r : MR.Row) : Bool := MN.isName r.kind && (!(r.kind == MR.byteS) && (MN.isName r.maker && (decide (r.parts.length ≤ 4) && (r.parts.all partB && decide ((r.parts.map (·.nm)).Nodup)))))
theorem own_of {pre : List MR.Row} {r : MR.Row} (h : newB pre r = true) : ownB r = true := by
  obtain ⟨h1, h2, h3, _, _, h6, h7, h8⟩ := new_parts h
  unfold ownB
  rw [h1, h3, h7, decide_eq_true h6, decide_eq_true h8, beq_eq_false_iff_ne.mpr h2]
  rfl
theorem new_own {pre : List MR.Row} {r : MR.Row} (h : ownB r = true) (h4 : r.maker ∉ pre.map (·.maker)) (h5 : r.kind ∈ MI.kindsOf pre ∨ (MI.kindsOf pre).length ≠ 4) : newB pre r = true := by
  unfold ownB at h
  simp only [Bool.and_eq_true, Bool.not_eq_true', decide_eq_true_eq, beq_eq_false_iff_ne] at h
  obtain ⟨h1, h2, h3, h6, h7, h8⟩ := h
  unfold newB
  rw [h1, h3, h7, decide_eq_true h6, decide_eq_true h8, beq_eq_false_iff_ne.mpr h2, decide_eq_false h4]
  have : (decide (r.kind ∈ MI.kindsOf pre) || !decide ((MI.kindsOf pre).length = 4)) = true := by
    rcases h5 with h | h
    · rw [decide_eq_true h]; rfl
    · rw [decide_eq_false h, Bool.not_false, Bool.or_true]
  rw [this]
  rfl
theorem new_all {rows : List MR.Row} {ks : List Str} (nd : (rows.map (·.maker)).Nodup) (hk : ∀ r ∈ rows, r.kind ∈ ks) (h4 : ks.length ≤ 4) (own : ∀ r ∈ rows, ownB r = true) : New rows rows.length := fun j r _ hr => by
  have mr := List.mem_of_getElem? hr
  refine new_own (own r mr) (MI.maker_new nd hr) ?_
  by_cases h : r.kind ∈ MI.kindsOf (rows.take j)
  · exact .inl h
  · refine .inr fun e => ?_
    have : (r.kind :: MI.kindsOf (rows.take j)).length ≤ ks.length := MI.nd_le (List.nodup_cons.mpr ⟨h, MI.kinds_nd _⟩) fun x m => by
      rcases List.mem_cons.mp m with m | m
      · rw [m]; exact hk r mr
      · obtain ⟨q, hq, e⟩ := List.mem_map.mp ((MI.dist_mem _).mp m)
        rw [← e]
        exact hk q (List.mem_of_mem_take hq)
    rw [List.length_cons, e] at this
    omega
theorem fin_sub {rows X : List MR.Row} (h : ∀ r ∈ rows, r ∈ X) : ∀ {n : Nat} {k : Str}, finB rows n k = true → finB X n k = true
  | 0, _, e => by cases e
  | n + 1, k, e => by
    unfold finB at e ⊢
    rw [List.any_eq_true] at e ⊢
    obtain ⟨r, mr, e⟩ := e
    rw [Bool.and_eq_true, List.all_eq_true] at e
    refine ⟨r, h r mr, ?_⟩
    rw [Bool.and_eq_true, List.all_eq_true]
    refine ⟨e.1, fun p mp => ?_⟩
    have := e.2 p mp
    rw [Bool.or_eq_true] at this ⊢
    exact this.imp id (fin_sub h)
theorem kind_in {X : List MR.Row} {r : MR.Row} (h : r ∈ X) : r.kind ∈ MI.kindsOf X := (MI.dist_mem _).mpr (List.mem_map_of_mem h)
theorem kinds_in {rows X : List MR.Row} (h : ∀ r ∈ rows, r ∈ X) {k : Str} (m : k ∈ MI.kindsOf rows) : k ∈ MI.kindsOf X := by
  obtain ⟨q, hq, e⟩ := List.mem_map.mp ((MI.dist_mem _).mp m)
  rw [← e]
  exact kind_in (h q hq)
theorem trees_in {nms : List Str} {rows X : List MR.Row} (hT : MR.Table nms rows) (h : ∀ r ∈ rows, r ∈ X) {r : MR.Row} (mr : r ∈ rows) : r.parts.all (treeOk X) = true := by
  have := table_trees hT mr
  rw [List.all_eq_true] at this ⊢
  intro p m
  have := this p m
  unfold treeOk at this ⊢
  rw [Bool.or_eq_true, decide_eq_true_eq] at this ⊢
  exact this.imp id (kinds_in h)
def z20 : Str := ⟨(List.replicate 20 122).toArray⟩
def y20 : Str := ⟨(List.replicate 20 121).toArray⟩
def x20 : Str := ⟨(List.replicate 20 120).toArray⟩
def w20 : Str := ⟨(List.replicate 20 119).toArray⟩
def eRow : MR.Row := ⟨z20, y20, [⟨"a", MR.byteS, none⟩, ⟨"b", z20, some 1⟩]⟩
def xRow : MR.Row := ⟨z20, x20, []⟩
def wRow (k : Str) : MR.Row := ⟨k, w20, [⟨"a", q24, some 2⟩]⟩
theorem z_len : z20.length = 20 := by decide +kernel
theorem z_out {nms : List Str} {rows : List MR.Row} (hT : MR.Table nms rows) : z20 ∉ nms := fun m => by
  have := (hT.names.name _ m).2
  rw [z_len] at this
  omega
theorem ends_new {nms : List Str} {rows ex X : List MR.Row} (hT : MR.Table nms rows) (h14 : ∀ r ∈ rows, r.maker.length ≤ 14) (hp : X.Perm (ex ++ rows)) (h : ∀ r ∈ ex, ownB r = true ∧ r.kind ∈ z20 :: nms ∧ r.maker.length = 20) (nd : (ex.map (·.maker)).Nodup) : New X X.length := by
  have hmem : ∀ {r}, r ∈ X → r ∈ ex ∨ r ∈ rows := fun m => List.mem_append.mp (hp.mem_iff.mp m)
  refine new_all (ks := z20 :: nms) ?_ (fun r m => ?_) (by rw [List.length_cons]; have := hT.few; omega) fun r m => ?_
  · rw [(hp.map _).nodup_iff, List.map_append, List.nodup_append]
    refine ⟨nd, hT.some.nd, fun a ma b mb e => ?_⟩
    obtain ⟨q, hq, e1⟩ := List.mem_map.mp ma
    obtain ⟨q', hq', e2⟩ := List.mem_map.mp mb
    have l1 := (h q hq).2.2
    have l2 := h14 q' hq'
    rw [e1, e, ← e2] at l1
    omega
  · rcases hmem m with m | m
    · exact (h r m).2.1
    · exact List.mem_cons_of_mem _ (hT.some.kind r m)
  · rcases hmem m with m | m
    · exact (h r m).1
    · obtain ⟨j, hj⟩ := List.mem_iff_getElem?.mp m
      exact own_of (table_new hT hj)
def endR (rows : List MR.Row) (p : Nat) : List MR.Row := rows.take p ++ [eRow] ++ rows.drop p
theorem end_perm (rows : List MR.Row) (p : Nat) : (endR rows p).Perm ([eRow] ++ rows) := by
  unfold endR
  rw [List.append_assoc]
  refine (List.perm_append_comm_assoc ..).trans ?_
  rw [List.take_append_drop]
theorem end_len (rows : List MR.Row) (p : Nat) : (endR rows p).length = rows.length + 1 := by
  rw [(end_perm rows p).length_eq, List.length_append, Nat.add_comm]
  rfl
theorem end_mem {rows : List MR.Row} {p : Nat} {r : MR.Row} : r ∈ endR rows p ↔ r = eRow ∨ r ∈ rows := by
  rw [(end_perm rows p).mem_iff, List.mem_append, List.mem_singleton]
theorem own_e : ownB eRow = true := by decide +kernel
theorem own_x : ownB xRow = true := by decide +kernel
theorem own_w {k : Str} (h : MN.isName k = true) (hb : k ≠ MR.byteS) : ownB (wRow k) = true := by
  unfold ownB
  rw [show (wRow k).kind = k from rfl, h, beq_eq_false_iff_ne.mpr hb]
  have : (wRow k).maker = w20 := rfl
  rw [this]
  have : (wRow k).parts = [⟨"a", q24, some 2⟩] := rfl
  rw [this]
  decide +kernel
theorem e_mem {nms : List Str} : ∀ r ∈ [eRow], ownB r = true ∧ r.kind ∈ z20 :: nms ∧ r.maker.length = 20 := fun r m => by
  rw [List.mem_singleton.mp m]
  exact ⟨own_e, List.mem_cons_self, by decide +kernel⟩
theorem end_trees {nms : List Str} {rows X : List MR.Row} {p : Nat} (hT : MR.Table nms rows) (h : ∀ r ∈ endR rows p, r ∈ X) {r : MR.Row} (mr : r ∈ endR rows p) : r.parts.all (treeOk X) = true := by
  rcases end_mem.mp mr with e | mr
  · subst e
    have hz : z20 ∈ MI.kindsOf X := kind_in (r := eRow) (h _ mr)
    show (treeOk X ⟨"a", MR.byteS, none⟩ && (treeOk X ⟨"b", z20, some 1⟩ && true)) = true
    unfold treeOk
    simp only
    rw [beq_self_eq_true, decide_eq_true hz, Bool.or_true]
    rfl
  · exact trees_in hT (fun r m => h r (end_mem.mpr (.inr m))) mr
theorem verd_end {nms : List Str} {rows : List MR.Row} (hT : MR.Table nms rows) (h9 : rows.length ≤ 9) (h14 : ∀ r ∈ rows, r.maker.length ≤ 14) {p : Nat} (hp : p ≤ rows.length) : Verd (endR rows p) (some p) := by
  have hat : (endR rows p)[p]? = some eRow := by
    unfold endR
    rw [List.append_assoc, List.getElem?_append_right (by rw [List.length_take]; omega), List.length_take, Nat.min_eq_left hp, Nat.sub_self]
    rfl
  refine Bad.three (r := eRow) (by rw [end_len]; omega) (ends_new hT h14 (end_perm rows p) e_mem (by decide +kernel)) (fun _ _ _ h => end_trees hT (fun _ m => m) (List.mem_of_getElem? h)) hat (fun j r' hj hr' => ?_) ?_
  · unfold endR at hr'
    rw [List.append_assoc, List.getElem?_append_left (by rw [List.length_take]; omega)] at hr'
    have mr := List.mem_of_mem_take (List.mem_of_getElem? hr')
    obtain ⟨n, hn⟩ := table_fin hT _ (hT.some.kind r' mr)
    exact ⟨n, fin_sub (fun r m => end_mem.mpr (.inr m)) hn⟩
  · refine fin_loop (k := z20) (by decide +kernel) fun r m e => ?_
    rcases end_mem.mp m with m | m
    · subst m
      exact ⟨⟨"b", z20, some 1⟩, List.mem_cons_of_mem _ List.mem_cons_self, rfl⟩
    · exact absurd (e ▸ hT.some.kind r m) (z_out hT)
theorem verd_endx {nms : List Str} {rows : List MR.Row} (hT : MR.Table nms rows) (h9 : rows.length ≤ 9) (h14 : ∀ r ∈ rows, r.maker.length ≤ 14) (p : Nat) : Verd (endR rows p ++ [xRow]) none := by
  have hperm : (endR rows p ++ [xRow]).Perm ([xRow, eRow] ++ rows) := by
    refine List.perm_append_comm.trans ?_
    show (xRow :: endR rows p).Perm (xRow :: ([eRow] ++ rows))
    exact (end_perm rows p).cons _
  have hsub : ∀ r ∈ rows, r ∈ endR rows p ++ [xRow] := fun r m => List.mem_append_left _ (end_mem.mpr (.inr m))
  have hz : ∃ n, finB (endR rows p ++ [xRow]) n z20 = true := fin_mk (r := xRow) (List.mem_append_right _ List.mem_cons_self) fun p m => by cases m
  exact
  { ne := fun e => by
      have := congrArg List.length e
      rw [List.length_append] at this
      cases this
    len := by rw [List.length_append, end_len]; show _ + 1 + 1 ≤ 12; omega
    new := ends_new hT h14 hperm (fun r m => by
      rcases List.mem_cons.mp m with m | m
      · subst m
        exact ⟨own_x, List.mem_cons_self, by decide +kernel⟩
      · exact e_mem r m) (by decide +kernel)
    trees := fun j r _ hr => by
      rcases List.mem_append.mp (List.mem_of_getElem? hr) with m | m
      · exact end_trees hT (fun r m => List.mem_append_left _ m) m
      · rw [List.mem_singleton.mp m]
        rfl
    fin := fun r m => by
      rcases List.mem_append.mp m with m | m
      · rcases end_mem.mp m with e | m
        · subst e
          exact hz
        · obtain ⟨n, hn⟩ := table_fin hT _ (hT.some.kind r m)
          exact ⟨n, fin_sub hsub hn⟩
      · rw [List.mem_singleton.mp m]
        exact hz }
theorem verd_endw {nms : List Str} {rows : List MR.Row} (hT : MR.Table nms rows) (h9 : rows.length ≤ 9) (h14 : ∀ r ∈ rows, r.maker.length ≤ 14) (p : Nat) {k : Str} (hk : k ∈ nms) : Verd (endR rows p ++ [wRow k]) (some (endR rows p).length) := by
  have hperm : (endR rows p ++ [wRow k]).Perm ([wRow k, eRow] ++ rows) := by
    refine List.perm_append_comm.trans ?_
    show (wRow k :: endR rows p).Perm (wRow k :: ([eRow] ++ rows))
    exact (end_perm rows p).cons _
  have hkn := hT.names.name k hk
  have hat : (endR rows p ++ [wRow k])[(endR rows p).length]? = some (wRow k) := by
    rw [List.getElem?_append_right (Nat.le_refl _), Nat.sub_self]
    rfl
  refine Bad.two (r := wRow k) (by rw [List.length_append, end_len]; show _ + 1 + 1 ≤ 12; omega) (ends_new hT h14 hperm (fun r m => ?_) ?_) hat (fun j r hj hr => ?_) ?_
  · rcases List.mem_cons.mp m with m | m
    · subst m
      exact ⟨own_w (MI.isName_of hkn (by decide)).1 (fun e => hT.names.byte (e ▸ hk)), List.mem_cons_of_mem _ hk, by show w20.length = 20; decide +kernel⟩
    · exact e_mem r m
  · show [w20, y20].Nodup
    decide +kernel
  · rw [List.getElem?_append_left hj] at hr
    exact end_trees hT (fun r m => List.mem_append_left _ m) (List.mem_of_getElem? hr)
  · show (treeOk _ ⟨"a", q24, some 2⟩ && true) = false
    have : q24 ∉ MI.kindsOf (endR rows p ++ [wRow k]) := fun m => by
      obtain ⟨q, hq, e⟩ := List.mem_map.mp ((MI.dist_mem _).mp m)
      have l : q24.length = 24 := by decide +kernel
      rw [← e] at l
      rcases List.mem_append.mp hq with m | m
      · rcases end_mem.mp m with m | m
        · subst m
          have := z_len
          rw [show eRow.kind = z20 from rfl] at l
          omega
        · have := (hT.names.name _ (hT.some.kind q m)).2
          omega
      · rw [List.mem_singleton.mp m, show (wRow k).kind = k from rfl] at l
        have := hkn.2
        omega
    unfold treeOk
    rw [decide_eq_false this]
    decide +kernel
theorem small_end {nms : List Str} {rows : List MR.Row} (hT : MR.Table nms rows) (h9 : rows.length ≤ 9) (p : Nat) : Small (endR rows p) := ⟨by rw [end_len]; omega, fun r m => by
  rcases end_mem.mp m with m | m
  · subst m
    refine ⟨by decide +kernel, by decide +kernel, by decide +kernel, fun p m => ?_⟩
    rcases List.mem_cons.mp m with m | m
    · subst m; exact ⟨by decide +kernel, by decide +kernel⟩
    · rw [List.mem_singleton.mp m]; exact ⟨by decide +kernel, by decide +kernel⟩
  · exact table_small hT m⟩
theorem small_snoc {rows : List MR.Row} {r : MR.Row} (h : Small rows) (hl : rows.length ≤ 13) (hr : SmallR r) : Small (rows ++ [r]) := ⟨by rw [List.length_append]; show _ + 1 ≤ 14; omega, fun q m => by
  rcases List.mem_append.mp m with m | m
  · exact h.row q m
  · rw [List.mem_singleton.mp m]; exact hr⟩
theorem small_x : SmallR xRow := ⟨by decide +kernel, by decide +kernel, by decide +kernel, fun p m => by cases m⟩
theorem small_w {k : Str} (h : k.length ≤ 100) : SmallR (wRow k) := ⟨h, by show w20.length ≤ 100; decide +kernel, by show 1 ≤ 5; decide, fun p m => by
  have m : p ∈ [(⟨"a", q24, some 2⟩ : MR.Part)] := m
  rw [List.mem_singleton.mp m]
  exact ⟨by decide +kernel, by decide +kernel⟩⟩
def goodB (rows : List MR.Row) (n : Nat) : Bool := !rows.isEmpty && (decide (rows.length ≤ 12) && ((List.range rows.length).all (fun j => (rows[j]?).all fun r => newB (rows.take j) r) && (rows.all (fun r => r.parts.all (treeOk rows)) && rows.all fun r => finB rows n r.kind)))
theorem good_of {rows : List MR.Row} {n : Nat} (h : goodB rows n = true) : Verd rows none := by
  unfold goodB at h
  simp only [Bool.and_eq_true, Bool.not_eq_true', decide_eq_true_eq, List.all_eq_true, List.mem_range] at h
  obtain ⟨h1, h2, h3, h4, h5⟩ := h
  exact
  { ne := fun e => by rw [e] at h1; cases h1
    len := h2
    new := fun j r hj hr => by
      have := h3 j hj
      rw [hr] at this
      exact this
    trees := fun j r _ hr => by
      rw [List.all_eq_true]
      exact h4 r (List.mem_of_getElem? hr)
    fin := fun r m => ⟨n, h5 r m⟩ }
def oneB (rows : List MR.Row) (a : Nat) : Bool := (rows[a]?).any (fun r => decide (a = 12) || !newB (rows.take a) r) && (decide (a ≤ 12) && (List.range a).all (fun j => (rows[j]?).all fun r => newB (rows.take j) r))
theorem one_of {rows : List MR.Row} {a : Nat} (h : oneB rows a = true) : Verd rows (some a) := by
  unfold oneB at h
  simp only [Bool.and_eq_true, Bool.not_eq_true', decide_eq_true_eq, List.all_eq_true, List.mem_range] at h
  obtain ⟨h1, h2, h3⟩ := h
  cases hr : rows[a]? with
  | none => rw [hr] at h1; cases h1
  | some r =>
    rw [hr] at h1
    have h1 : (decide (a = 12) || !newB (rows.take a) r) = true := h1
    rw [Bool.or_eq_true, decide_eq_true_eq, Bool.not_eq_true'] at h1
    exact Bad.one hr (fun j r hj hr => by
      have := h3 j hj
      rw [hr] at this
      exact this) h2 h1
def smallB (rows : List MR.Row) : Bool := decide (rows.length ≤ 14) && rows.all fun r => decide (r.kind.length ≤ 100) && (decide (r.maker.length ≤ 100) && (decide (r.parts.length ≤ 5) && r.parts.all fun p => decide (p.nm.length ≤ 100) && decide (p.inn.length ≤ 100)))
theorem small_of {rows : List MR.Row} (h : smallB rows = true) : Small rows := by
  unfold smallB at h
  simp only [Bool.and_eq_true, decide_eq_true_eq, List.all_eq_true] at h
  exact ⟨h.1, fun r m => ⟨(h.2 r m).1, (h.2 r m).2.1, (h.2 r m).2.2.1, fun p mp => (h.2 r m).2.2.2 p mp⟩⟩
def threeB (rows : List MR.Row) (a n : Nat) (k : Str) : Bool := decide (rows.length ≤ 12) && ((List.range rows.length).all (fun j => (rows[j]?).all fun r => newB (rows.take j) r) && (rows.all (fun r => r.parts.all (treeOk rows)) && ((rows[a]?).any (fun r => decide (r.kind = k)) && ((rows.take a).all (fun r => finB rows n r.kind) && (!decide (k = MR.byteS) && rows.all fun r => !decide (r.kind = k) || r.parts.any fun p => decide (p.inn = k))))))
theorem three_of {rows : List MR.Row} {a n : Nat} {k : Str} (h : threeB rows a n k = true) : Verd rows (some a) := by
  unfold threeB at h
  simp only [Bool.and_eq_true, Bool.or_eq_true, Bool.not_eq_true', decide_eq_true_eq, decide_eq_false_iff_not, List.all_eq_true, List.any_eq_true, List.mem_range] at h
  obtain ⟨h1, h2, h3, h4, h5, h6, h7⟩ := h
  cases hr : rows[a]? with
  | none => rw [hr] at h4; cases h4
  | some r =>
    rw [hr] at h4
    have h4 : decide (r.kind = k) = true := h4
    rw [decide_eq_true_eq] at h4
    refine Bad.three h1 (fun j r hj hr => ?_) (fun j r _ hr => ?_) hr (fun j r' hj hr' => ⟨n, h5 r' ?_⟩) ?_
    · have := h2 j hj
      rw [hr] at this
      exact this
    · rw [List.all_eq_true]
      exact h3 r (List.mem_of_getElem? hr)
    · exact List.mem_of_getElem? (i := j) (by rw [List.getElem?_take_of_lt hj]; exact hr')
    · rw [h4]
      exact fin_loop h6 fun q m e => (h7 q m).resolve_left fun z => z e
structure Keep (rows X : List MR.Row) : Prop where
  len : X.length = rows.length
  row : ∀ (j : Nat) (x : MR.Row), X[j]? = some x → ∃ r : MR.Row, rows[j]? = some r ∧ (x = r ∨ x = way11 r)
theorem Keep.rfl' (rows : List MR.Row) : Keep rows rows := ⟨rfl, fun j x h => ⟨x, h, .inl rfl⟩⟩
theorem Keep.set {rows X : List MR.Row} {a : Nat} {r : MR.Row} (h : Keep rows X) (hr : rows[a]? = some r) : Keep rows (X.set a (way11 r)) := ⟨by rw [List.length_set]; exact h.len, fun j x hx => by
  rw [List.getElem?_set] at hx
  by_cases e : a = j
  · subst e
    rw [if_pos rfl] at hx
    split at hx
    · cases hx
      exact ⟨r, hr, .inr rfl⟩
    · cases hx
  · rw [if_neg e] at hx
    exact h.row j x hx⟩
theorem Keep.maps {rows X : List MR.Row} (h : Keep rows X) : X.map (·.maker) = rows.map (·.maker) ∧ X.map (·.kind) = rows.map (·.kind) := by
  constructor
  all_goals
    refine List.ext_getElem? fun j => ?_
    rw [List.getElem?_map, List.getElem?_map]
    cases e : X[j]? with
    | none =>
      have : rows[j]? = none := List.getElem?_eq_none (by rw [← h.len]; exact List.getElem?_eq_none_iff.mp e)
      rw [this]
    | some x =>
      obtain ⟨r, hr, hx⟩ := h.row j x e
      rw [hr]
      rcases hx with rfl | rfl
      · rfl
      · rfl
theorem own11 {r : MR.Row} (h : ownB r = true) : ownB (way11 r) = true := by
  unfold ownB at h ⊢
  simp only [Bool.and_eq_true] at h
  obtain ⟨h1, h2, h3, _⟩ := h
  show (MN.isName r.kind && (!(r.kind == MR.byteS) && (MN.isName r.maker && (decide ([(⟨"a", q24, some 3⟩ : MR.Part)].length ≤ 4) && ([(⟨"a", q24, some 3⟩ : MR.Part)].all partB && decide (([(⟨"a", q24, some 3⟩ : MR.Part)].map (·.nm)).Nodup)))))) = true
  rw [h1, h2, h3]
  decide +kernel
theorem keep_new {nms : List Str} {rows X : List MR.Row} (hT : MR.Table nms rows) (h : Keep rows X) : New X X.length := by
  obtain ⟨m1, m2⟩ := h.maps
  refine new_all (ks := nms) (by rw [m1]; exact hT.some.nd) (fun x mx => ?_) (Nat.le_trans hT.few (by decide)) fun x mx => ?_
  · obtain ⟨j, hj⟩ := List.mem_iff_getElem?.mp mx
    obtain ⟨r, hr, hx⟩ := h.row j x hj
    have := hT.some.kind r (List.mem_of_getElem? hr)
    rcases hx with rfl | rfl
    · exact this
    · exact this
  · obtain ⟨j, hj⟩ := List.mem_iff_getElem?.mp mx
    obtain ⟨r, hr, hx⟩ := h.row j x hj
    have := own_of (table_new hT hr)
    rcases hx with rfl | rfl
    · exact this
    · exact own11 this
theorem bad_early {nms : List Str} {rows Y X : List MR.Row} {a : Nat} {x : MR.Row} (hT : MR.Table nms rows) (hY : Keep rows Y) (ha : a < rows.length) (hp : X.take a = Y.take a) (hx : X[a]? = some x) (hf : newB (Y.take a) x = false) : Verd X (some a) := by
  refine Bad.one hx (fun j r hj hr => ?_) (by have := hT.some.len; omega) (.inr (by rw [hp]; exact hf))
  have e1 : Y[j]? = some r := by
    have : (X.take a)[j]? = some r := by rw [List.getElem?_take_of_lt hj]; exact hr
    rw [hp, List.getElem?_take_of_lt hj] at this
    exact this
  have e2 : X.take j = Y.take j := by
    have := congrArg (List.take j) hp
    rw [List.take_take, List.take_take, Nat.min_eq_left (Nat.le_of_lt hj)] at this
    exact this
  rw [e2]
  exact keep_new hT hY j r (by rw [hY.len]; omega) e1
theorem bad_late {nms : List Str} {rows X : List MR.Row} {a : Nat} {r : MR.Row} (hT : MR.Table nms rows) (hX : Keep rows X) (hx : X[a]? = some (way11 r)) (hp : X.take a = rows.take a) : Verd X (some a) := by
  have ek : MI.kindsOf X = MI.kindsOf rows := by unfold MI.kindsOf; rw [hX.maps.2]
  refine Bad.two (r := way11 r) (by rw [hX.len]; have := hT.some.len; omega) (keep_new hT hX) hx (fun j x hj hx => ?_) ?_
  · have e1 : rows[j]? = some x := by
      have : (X.take a)[j]? = some x := by rw [List.getElem?_take_of_lt hj]; exact hx
      rw [hp, List.getElem?_take_of_lt hj] at this
      exact this
    have := table_trees hT (List.mem_of_getElem? e1)
    rw [List.all_eq_true] at this ⊢
    intro p m
    have := this p m
    unfold treeOk at this ⊢
    rw [ek]
    exact this
  · show (treeOk X ⟨"a", q24, some 3⟩ && true) = false
    have : q24 ∉ MI.kindsOf X := fun m => by
      rw [ek] at m
      have := (hT.names.name _ (MI.kinds_sub hT m)).2
      have l : q24.length = 24 := by decide +kernel
      omega
    unfold treeOk
    rw [decide_eq_false this]
    decide +kernel
theorem take_set {α : Type} {l : List α} {a b : Nat} {x : α} (h : a ≤ b) : (l.set b x).take a = l.take a := by
  refine List.ext_getElem? fun j => ?_
  rw [List.getElem?_take, List.getElem?_take]
  by_cases e : j < a
  · rw [if_pos e, if_pos e, List.getElem?_set_ne (by omega)]
  · rw [if_neg e, if_neg e]
theorem set_at {α : Type} {l : List α} {a : Nat} {x : α} (h : a < l.length) : (l.set a x)[a]? = some x := by rw [List.getElem?_set_self h]
theorem verd_one {nms : List Str} {rows : List MR.Row} {a : Nat} {way : Int} {x : MR.Row} (hT : MR.Table nms rows) (ha : a < rows.length) (h : SpRow rows a way x) : Verd (rows.set a x) (some a) := by
  by_cases e : way = 11
  · obtain ⟨r, hr, rfl⟩ := h.2.2.2 e
    exact bad_late hT ((Keep.rfl' rows).set hr) (set_at ha) (take_set (Nat.le_refl _))
  · exact bad_early hT (Keep.rfl' rows) ha (take_set (Nat.le_refl _)) (set_at ha) (h.2.1 e)
theorem verd_two {nms : List Str} {rows : List MR.Row} {a b : Nat} {v w : Int} {x y : MR.Row} (hT : MR.Table nms rows) (ha : a < rows.length) (hb : b < rows.length) (h1 : SpRow rows a v x) (h2 : SpRow rows b w y) (e1 : v ≠ 11) (e2 : w ≠ 11) : Verd ((rows.set a x).set b y) (some (if b < a then b else a)) := by
  by_cases e : b < a
  · rw [if_pos e]
    exact bad_early hT (Keep.rfl' rows) hb (by rw [take_set (Nat.le_refl _), take_set (Nat.le_of_lt e)]) (set_at (by rw [List.length_set]; exact hb)) (h2.2.1 e2)
  · rw [if_neg e]
    have hp : ((rows.set a x).set b y).take a = rows.take a := by rw [take_set (by omega), take_set (Nat.le_refl _)]
    by_cases q : a = b
    · subst q
      exact bad_early hT (Keep.rfl' rows) ha hp (set_at (by rw [List.length_set]; exact ha)) (h2.2.1 e2)
    · exact bad_early hT (Keep.rfl' rows) ha hp (by rw [List.getElem?_set_ne (fun z => q z.symm)]; exact set_at ha) (h1.2.1 e1)
theorem verd_late {nms : List Str} {rows : List MR.Row} {a b : Nat} {x y : MR.Row} (hT : MR.Table nms rows) (ha : a < rows.length) (hb : b < rows.length) (h1 : SpRow rows a 11 x) (h2 : SpRow rows b 11 y) : Verd ((rows.set a x).set b y) (some (if b < a then b else a)) := by
  obtain ⟨r, hr, rfl⟩ := h1.2.2.2 rfl
  obtain ⟨r', hr', rfl⟩ := h2.2.2.2 rfl
  have hK := ((Keep.rfl' rows).set hr).set hr'
  by_cases e : b < a
  · rw [if_pos e]
    exact bad_late hT hK (set_at (by rw [List.length_set]; exact hb)) (by rw [take_set (Nat.le_refl _), take_set (Nat.le_of_lt e)])
  · rw [if_neg e]
    have hp : ((rows.set a (way11 r)).set b (way11 r')).take a = rows.take a := by rw [take_set (by omega), take_set (Nat.le_refl _)]
    by_cases q : a = b
    · subst q
      exact bad_late hT hK (set_at (by rw [List.length_set]; exact ha)) hp
    · exact bad_late hT hK (by rw [List.getElem?_set_ne (fun z => q z.symm)]; exact set_at ha) hp
theorem verd_mix {nms : List Str} {rows : List MR.Row} {a b : Nat} {w : Int} {x y : MR.Row} (hT : MR.Table nms rows) (ha : a < rows.length) (hb : b < rows.length) (h1 : SpRow rows a 11 x) (h2 : SpRow rows b w y) (e2 : w ≠ 11) (e3 : w ≠ 3) : Verd ((rows.set a x).set b y) (some b) := by
  obtain ⟨r, hr, rfl⟩ := h1.2.2.2 rfl
  exact bad_early hT ((Keep.rfl' rows).set hr) hb (take_set (Nat.le_refl _)) (set_at (by rw [List.length_set]; exact hb)) (h2.2.2.1 e2 e3 _)
theorem small_set {rows : List MR.Row} {a : Nat} {x : MR.Row} (h : Small rows) (hx : SmallR x) : Small (rows.set a x) := ⟨by rw [List.length_set]; exact h.len, fun r m => by
  rcases List.mem_or_eq_of_mem_set m with m | m
  · exact h.row r m
  · rw [m]; exact hx⟩
theorem table_smallT {nms : List Str} {rows : List MR.Row} (hT : MR.Table nms rows) : Small rows := ⟨by have := hT.some.len; omega, fun _ m => table_small hT m⟩
end MB
set_option pp.maxSteps 700
namespace G
open PySem PySem.Spec PyProof.Rows L2 DL DLS NdefX
local macro_rules | `(tactic| k_subL) => `(tactic| repeat (first
  | with_reducible refine s_seq ?_
  | with_reducible refine s_set ?_
  | with_reducible refine w_op ?_
  | ((with_reducible refine w_var (d := ?_) ?_ ?_); rotate_left; exact rfl)
  | with_reducible refine w_int ?_
  | with_reducible refine rv_i0 ?_
  | with_reducible refine rv_b0 ?_
  | with_reducible refine w_cb ?_
  | with_reducible refine w_cons ?_
  | with_reducible refine w_nil ?_
  | with_reducible refine rc_int ?_
  | with_reducible refine w_str ?_
  | with_reducible refine w_bl ?_
  | with_reducible refine w_non ?_
  | with_reducible refine g_name ?_
  | with_reducible refine s_ret ?_
  | with_reducible refine s_drop ?_
  | with_reducible refine s_if ?_
  | with_reducible refine w_test ?_
  | with_reducible refine w_tB ?_))
local macro_rules | `(tactic| k_clsL) => `(tactic| repeat (first
  | with_reducible refine s_seq ?_
  | with_reducible refine s_set ?_
  | with_reducible refine w_op ?_
  | ((with_reducible refine w_var (d := ?_) ?_ ?_); rotate_left; exact rfl)
  | with_reducible refine w_int ?_
  | with_reducible refine rv_i0 ?_
  | with_reducible refine rv_b0 ?_
  | with_reducible refine w_cb ?_
  | with_reducible refine w_cons ?_
  | with_reducible refine w_nil ?_
  | with_reducible refine rc_int ?_
  | with_reducible refine w_str ?_
  | with_reducible refine w_bl ?_
  | with_reducible refine w_non ?_
  | with_reducible refine g_name ?_
  | with_reducible refine s_ret ?_
  | with_reducible refine s_drop ?_
  | with_reducible refine s_if ?_
  | with_reducible refine w_test ?_
  | with_reducible refine w_tB ?_
  | with_reducible refine w_not ?_
  | with_reducible refine w_and ?_
  | with_reducible refine w_or ?_
  | with_reducible refine w_notV ?_
  | with_reducible refine w_andV ?_
  | with_reducible refine w_orV ?_
  | with_reducible refine w_if ?_
  | with_reducible refine w_chain ?_
  | with_reducible refine ex_bl ?_
  | with_reducible refine ex_int ?_
  | with_reducible refine ex_str ?_
  | with_reducible refine ex_lst ?_
  | with_reducible refine ex_tup ?_
  | with_reducible refine rc_lenM ?_
  | with_reducible refine rc_lenU ?_
  | with_reducible refine i_list ?_
  | with_reducible refine i_tup ?_
  | with_reducible refine i_range ?_
  | with_reducible refine i_str ?_
  | with_reducible refine s_for ?_
  | ((with_reducible refine rv_eq ?_ ?_); exact rfl)
  | ((with_reducible refine rv_ne ?_ ?_); exact rfl)
  | with_reducible refine MI.row0 _ ?_
  | with_reducible refine MI.row1 _ ?_
  | with_reducible refine MI.row2 _ ?_
  | with_reducible refine MI.par0 _ ?_
  | with_reducible refine MI.par1 _ ?_
  | ((with_reducible refine rv_ixT (d := ?_) ?_ ?_); rotate_left; exact rfl)))
structure Tx (P : Program) (w : World) (K : PySem.W.Frag) (mg : Str → Option Value) : Prop where
  ex : ∃ h : Heap, K.In h ∧ h.Ns mainGlobals mg
  cy : obsY fa fn xa sd wn ts K = valY fn sd wn ts w
  pf : PFile P
section
variable {P : Program} {w : World} {K : PySem.W.Frag} {mg : Str → Option Value} (Z : Tx P w K mg)
include Z
theorem Tx.c : obsX fa fn xa sd wn K = valX fn sd wn := obsY_x Z.cy
theorem Tx.says : He.SaysD fa fn K := obsX_says (Tx.c Z)
theorem Tx.glo (i : Nat) {x : Str} (h : fa[i]? = some (.glo x)) : mg x = some (.ref (He.ga K x)) := by
  obtain ⟨h0, X, G⟩ := Z.ex
  exact He.glo_ok X G (Z.says.fact i h)
theorem Tx.free (i : Nat) {x : Str} (h : fa[i]? = some (.free x)) : mg x = none := by
  obtain ⟨h0, X, G⟩ := Z.ex
  exact He.free_ok X G (Z.says.fact i h)
theorem Tx.int (i : Nat) {x : Str} {n : Int} (h : fa[i]? = some (.int x n)) : ∃ t, mg x = some (.int n t) := by
  obtain ⟨h0, X, G⟩ := Z.ex
  exact He.int_ok X G (Z.says.fact i h)
theorem Tx.str (i : Nat) {x z : Str} (h : fa[i]? = some (.str x z)) : ∃ t, mg x = some (.str z t) := by
  obtain ⟨h0, X, G⟩ := Z.ex
  exact He.str_ok X G (Z.says.fact i h)
theorem Tx.cls (i : Nat) {x : Str} (h : fa[i]? = some (.cls x)) : Cls K (He.ga K x) := He.cls_ok (Z.says.fact i h)
theorem Tx.noat (i : Nat) {x f : Str} (h : fa[i]? = some (.noat x f)) : NoAttr K (He.ga K x) f := He.noat_ok (Z.says.fact i h)
theorem Tx.meth (i : Nat) {x m : Str} (h : fa[i]? = some (.meth x m)) : Meth K (He.ga K x) m (He.ma K (He.ga K x) m) := He.meth_ok (Z.says.fact i h)
theorem Tx.mkr (i : Nat) {x : Str} (h : fa[i]? = some (.mkr x)) : Mk K (He.ga K x) (He.ma K (He.ga K x) "__init__") := He.mkr_ok (Z.says.fact i h)
theorem Tx.exc (i : Nat) {x : Str} (h : xa[i]? = some (.exc x)) : OexC K (He.ga K x) ∧ ExcC K (He.ga K x) ∧ XfC K (He.ga K x) := excB_ok (obsX_fact (Tx.c Z) i h)
theorem Tx.own (i : Nat) {x : Str} (h : xa[i]? = some (.own x)) : PySem.W.excIn K (He.ga K x) He.veBase "ValueError.__new__" = true := obsX_fact (Tx.c Z) i h
theorem Tx.sup (i : Nat) {x y : Str} (h : xa[i]? = some (.sup x y)) : SupC K (He.ga K x) (He.ga K y) := supCB_ok (obsX_fact (Tx.c Z) i h)
theorem Tx.kit (i : Nat) {x y : Str} {b : Bool} (h : xa[i]? = some (.kit x y b)) : PySem.W.kitOne K (.ref (He.ga K x)) (.ref (He.ga K y)) = some b := of_decide_eq_true (obsX_fact (Tx.c Z) i h)
theorem Tx.kitT (i : Nat) {x : Str} {n : String} {b : Bool} (h : xa[i]? = some (.kitT x n b)) : PySem.W.kitOne K (.ref (He.ga K x)) (.type n) = some b := of_decide_eq_true (obsX_fact (Tx.c Z) i h)
theorem Tx.exm (i : Nat) {x y : Str} {b : Bool} (h : xa[i]? = some (.exm x y b)) : PySem.W.exmOne K (.ref (He.ga K x)) (.ref (He.ga K y)) = some b := of_decide_eq_true (obsX_fact (Tx.c Z) i h)
theorem Tx.stat (i : Nat) {x m : Str} (h : xa[i]? = some (.stat x m)) : StatOf K (He.ga K x) m (He.ma K (He.ga K x) m) (He5.wf K (He.ga K x) "staticmethod" m) := statB_ok (obsX_fact (Tx.c Z) i h)
theorem Tx.smc (i : Nat) {x m : Str} (h : xa[i]? = some (.smc x m)) : SmC K (He.ga K x) m (He.ma K (He.ga K x) m) (He5.wf K (He.ga K x) "staticmethod" m) := smcB_ok (obsX_fact (Tx.c Z) i h)
theorem Tx.cm (i : Nat) {x m : Str} (h : xa[i]? = some (.cm x m)) : ClX.CRead K (He.ga K x) (.type "type") ∧ ClX.CMet K (He.ga K x) (.type "type") m (He.ma K (He.ga K x) m) (He5.wf K (He.ga K x) "classmethod" m) := cmB_ok (obsX_fact (Tx.c Z) i h)
theorem Tx.callo (i : Nat) {x : Str} (h : xa[i]? = some (.callo x)) : StX.CallO K (He.ga K x) (He.ma K (He.ga K x) "__call__") := calloB_ok (obsX_fact (Tx.c Z) i h)
theorem Tx.item (i : Nat) {x m : Str} (h : xa[i]? = some (.item x m)) : ItemOf K (He.ga K x) m (He.ma K (He.ga K x) m) ∧ PySem.W.fnIn K (He.ma K (He.ga K x) m) = true := itemB_ok (obsX_fact (Tx.c Z) i h)
theorem Tx.prop (i : Nat) {x m : Str} (h : xa[i]? = some (.prop x m)) : PropOf K (He.ga K x) m (He.ma K (He.ga K x) m) (He5.wf K (He.ga K x) "property" m) := propB_ok (obsX_fact (Tx.c Z) i h)
theorem Tx.bnd (i : Nat) {x m : Str} (h : xa[i]? = some (.bnd x m)) : BndM K (He.ga K x) m (He.ma K (He.ga K x) m) := bndB_ok (obsX_fact (Tx.c Z) i h)
theorem Tx.neq (i : Nat) {x : Str} (h : xa[i]? = some (.neq x)) : PySem.W.findIn K (.ref (He.ga K x)) "__ne__" = some (some (.builtin "object.__ne__")) ∧ PySem.W.subIn K (.ref (He.ga K x)) (.type "object") = some true := by
  have q := obsX_fact (Tx.c Z) i h
  simp only [Xa.ok, Bool.and_eq_true, decide_eq_true_eq] at q
  exact q
theorem Tx.bif (i : Nat) {x m : Str} {b : String} (h : xa[i]? = some (.bif x m b)) : PySem.W.findIn K (.ref (He.ga K x)) m = some (some (.builtin b)) := of_decide_eq_true (obsX_fact (Tx.c Z) i h)
theorem Tx.inh (i : Nat) {x y : Str} (h : xa[i]? = some (.inh x y)) : PySem.W.findIn K (.ref (He.ga K x)) "__init__" = some (some (.ref (He.ma K (He.ga K y) "__init__"))) := of_decide_eq_true (obsX_fact (Tx.c Z) i h)
theorem Tx.fun (i : Nat) {d : He.DefD} (h : fn[i]? = some d) : FunD K d.name d.qual d.params d.body d.scope (d.dvs K) (d.kws K) (He.fAd K d.at_) (fdAt K d.at_) := by
  obtain ⟨fd, F⟩ := Z.says.def_ i h
  have e : fdAt K d.at_ = fd := by
    obtain ⟨oc, od, dV, kV, doc, pm, an, cdv, ct, osl, _, e, _⟩ := F.ex
    unfold fdAt
    rw [e]
  rw [e]
  exact F
theorem Tx.kp (i : Nat) {d : He.DefD} (h : fn[i]? = some d) : PySem.W.keepIn K (.ref (He.fAd K d.at_)) = true := (Z.fun i h).kp
end
theorem na_Kinds_table {P : Program} {w : World} {K : PySem.W.Frag} {mg : Str → Option Value} (Z : Tx P w K mg) : Cls K (He.ga K "Kinds") ∧ NoAttr K (He.ga K "Kinds") "table" := ⟨Z.cls 16 rfl, Z.noat 30 rfl⟩
theorem na_Kinds_family {P : Program} {w : World} {K : PySem.W.Frag} {mg : Str → Option Value} (Z : Tx P w K mg) : Cls K (He.ga K "Kinds") ∧ NoAttr K (He.ga K "Kinds") "family" := ⟨Z.cls 16 rfl, Z.noat 31 rfl⟩
theorem na_Kinds_names {P : Program} {w : World} {K : PySem.W.Frag} {mg : Str → Option Value} (Z : Tx P w K mg) : Cls K (He.ga K "Kinds") ∧ NoAttr K (He.ga K "Kinds") "names" := ⟨Z.cls 16 rfl, Z.noat 38 rfl⟩
theorem na_Kinds_order {P : Program} {w : World} {K : PySem.W.Frag} {mg : Str → Option Value} (Z : Tx P w K mg) : Cls K (He.ga K "Kinds") ∧ NoAttr K (He.ga K "Kinds") "order" := ⟨Z.cls 16 rfl, Z.noat 39 rfl⟩
theorem na_Kinds_smallest {P : Program} {w : World} {K : PySem.W.Frag} {mg : Str → Option Value} (Z : Tx P w K mg) : Cls K (He.ga K "Kinds") ∧ NoAttr K (He.ga K "Kinds") "smallest" := ⟨Z.cls 16 rfl, Z.noat 40 rfl⟩
theorem F__law_pool {P : Program} {w : World} {K : PySem.W.Frag} {mg : Str → Option Value} (Z : Tx P w K mg) : FunD K "_law_pool" "_law_pool" (defArgs s__law_pool) (defBody s__law_pool) (defScope s__law_pool) [] [] (He.ga K "_law_pool") (fdAt K ("_law_pool", none)) := Z.fun 0 rfl
theorem b__law_pool {P : Program} {w : World} {K : PySem.W.Frag} {mg : Str → Option Value} (Z : Tx P w K mg) : Binds K (fdAt K ("_law_pool", none)) ["_law_script"] [] := FunD.bindsN (F__law_pool Z) fun _ _ _ _ _ _ us hl => match us, hl with | [_], _ => rfl
theorem F__law_rows {P : Program} {w : World} {K : PySem.W.Frag} {mg : Str → Option Value} (Z : Tx P w K mg) : FunD K "_law_rows" "_law_rows" (defArgs s__law_rows) (defBody s__law_rows) (defScope s__law_rows) [] [] (He.ga K "_law_rows") (fdAt K ("_law_rows", none)) := Z.fun 1 rfl
theorem b__law_rows {P : Program} {w : World} {K : PySem.W.Frag} {mg : Str → Option Value} (Z : Tx P w K mg) : Binds K (fdAt K ("_law_rows", none)) ["_law_pool_here"] [] := FunD.bindsN (F__law_rows Z) fun _ _ _ _ _ _ us hl => match us, hl with | [_], _ => rfl
theorem F__law_take {P : Program} {w : World} {K : PySem.W.Frag} {mg : Str → Option Value} (Z : Tx P w K mg) : FunD K "_law_take" "_law_take" (defArgs s__law_take) (defBody s__law_take) (defScope s__law_take) [] [] (He.ga K "_law_take") (fdAt K ("_law_take", none)) := Z.fun 2 rfl
theorem b__law_take {P : Program} {w : World} {K : PySem.W.Frag} {mg : Str → Option Value} (Z : Tx P w K mg) : Binds K (fdAt K ("_law_take", none)) ["_law_pool_here", "_law_many"] [] := FunD.bindsN (F__law_take Z) fun _ _ _ _ _ _ us hl => match us, hl with | [_, _], _ => rfl
theorem F__law_spoilt {P : Program} {w : World} {K : PySem.W.Frag} {mg : Str → Option Value} (Z : Tx P w K mg) : FunD K "_law_spoilt" "_law_spoilt" (defArgs s__law_spoilt) (defBody s__law_spoilt) (defScope s__law_spoilt) [] [] (He.ga K "_law_spoilt") (fdAt K ("_law_spoilt", none)) := Z.fun 3 rfl
theorem b__law_spoilt {P : Program} {w : World} {K : PySem.W.Frag} {mg : Str → Option Value} (Z : Tx P w K mg) : Binds K (fdAt K ("_law_spoilt", none)) ["_law_pool_here", "_law_rows_here", "_law_at", "_law_way"] [] := FunD.bindsN (F__law_spoilt Z) fun _ _ _ _ _ _ us hl => match us, hl with | [_, _, _, _], _ => rfl
theorem F__law_bad_row {P : Program} {w : World} {K : PySem.W.Frag} {mg : Str → Option Value} (Z : Tx P w K mg) : FunD K "_law_bad_row" "_law_bad_row" (defArgs s__law_bad_row) (defBody s__law_bad_row) (defScope s__law_bad_row) [] [] (He.ga K "_law_bad_row") (fdAt K ("_law_bad_row", none)) := Z.fun 4 rfl
theorem b__law_bad_row {P : Program} {w : World} {K : PySem.W.Frag} {mg : Str → Option Value} (Z : Tx P w K mg) : Binds K (fdAt K ("_law_bad_row", none)) ["_law_rows_here"] [] := FunD.bindsN (F__law_bad_row Z) fun _ _ _ _ _ _ us hl => match us, hl with | [_], _ => rfl
theorem F__law_tables {P : Program} {w : World} {K : PySem.W.Frag} {mg : Str → Option Value} (Z : Tx P w K mg) : FunD K "_law_tables" "_law_tables" (defArgs s__law_tables) (defBody s__law_tables) (defScope s__law_tables) [] [] (He.ga K "_law_tables") (fdAt K ("_law_tables", none)) := Z.fun 5 rfl
theorem b__law_tables {P : Program} {w : World} {K : PySem.W.Frag} {mg : Str → Option Value} (Z : Tx P w K mg) : Binds K (fdAt K ("_law_tables", none)) ["_law_pool_here", "_law_rows_here"] [] := FunD.bindsN (F__law_tables Z) fun _ _ _ _ _ _ us hl => match us, hl with | [_, _], _ => rfl
theorem F__law_name {P : Program} {w : World} {K : PySem.W.Frag} {mg : Str → Option Value} (Z : Tx P w K mg) : FunD K "_law_name" "_law_name" (defArgs s__law_name) (defBody s__law_name) (defScope s__law_name) [] [] (He.ga K "_law_name") (fdAt K ("_law_name", none)) := Z.fun 6 rfl
theorem b__law_name {P : Program} {w : World} {K : PySem.W.Frag} {mg : Str → Option Value} (Z : Tx P w K mg) : Binds K (fdAt K ("_law_name", none)) ["_law_seed", "_law_k", "_law_taken"] [] := FunD.bindsN (F__law_name Z) fun _ _ _ _ _ _ us hl => match us, hl with | [_, _, _], _ => rfl
theorem F__law_parts {P : Program} {w : World} {K : PySem.W.Frag} {mg : Str → Option Value} (Z : Tx P w K mg) : FunD K "_law_parts" "_law_parts" (defArgs s__law_parts) (defBody s__law_parts) (defScope s__law_parts) [] [] (He.ga K "_law_parts") (fdAt K ("_law_parts", none)) := Z.fun 7 rfl
theorem b__law_parts {P : Program} {w : World} {K : PySem.W.Frag} {mg : Str → Option Value} (Z : Tx P w K mg) : Binds K (fdAt K ("_law_parts", none)) ["_law_pool_here", "_law_seed", "_law_names", "_law_base"] [] := FunD.bindsN (F__law_parts Z) fun _ _ _ _ _ _ us hl => match us, hl with | [_, _, _, _], _ => rfl
theorem F_Kinds___init__ {P : Program} {w : World} {K : PySem.W.Frag} {mg : Str → Option Value} (Z : Tx P w K mg) : FunD K "__init__" "Kinds.__init__" (defArgs s_Kinds___init__) (defBody s_Kinds___init__) (defScope s_Kinds___init__) [] [] (He.ma K (He.ga K "Kinds") "__init__") (fdAt K ("Kinds", some "__init__")) := Z.fun 8 rfl
theorem b_Kinds___init__ {P : Program} {w : World} {K : PySem.W.Frag} {mg : Str → Option Value} (Z : Tx P w K mg) : Binds K (fdAt K ("Kinds", some "__init__")) ["self", "rows"] [] := FunD.bindsN (F_Kinds___init__ Z) fun _ _ _ _ _ _ us hl => match us, hl with | [_, _], _ => rfl
theorem F__law_int {P : Program} {w : World} {K : PySem.W.Frag} {mg : Str → Option Value} (Z : Tx P w K mg) : FunD K "_law_int" "_law_int" (defArgs s__law_int) (defBody s__law_int) (defScope s__law_int) [] [] (He.ga K "_law_int") (fdAt K ("_law_int", none)) := Z.fun 9 rfl
theorem b__law_int {P : Program} {w : World} {K : PySem.W.Frag} {mg : Str → Option Value} (Z : Tx P w K mg) : Binds K (fdAt K ("_law_int", none)) ["_law_value"] [] := FunD.bindsN (F__law_int Z) fun _ _ _ _ _ _ us hl => match us, hl with | [_], _ => rfl
theorem F_Kinds_is_new {P : Program} {w : World} {K : PySem.W.Frag} {mg : Str → Option Value} (Z : Tx P w K mg) : FunD K "is_new" "Kinds.is_new" (defArgs s_Kinds_is_new) (defBody s_Kinds_is_new) (defScope s_Kinds_is_new) [] [] (He.ma K (He.ga K "Kinds") "is_new") (fdAt K ("Kinds", some "is_new")) := Z.fun 10 rfl
theorem b_Kinds_is_new {P : Program} {w : World} {K : PySem.W.Frag} {mg : Str → Option Value} (Z : Tx P w K mg) : Binds K (fdAt K ("Kinds", some "is_new")) ["self", "row"] [] := FunD.bindsN (F_Kinds_is_new Z) fun _ _ _ _ _ _ us hl => match us, hl with | [_, _], _ => rfl
theorem F_Kinds_find_least {P : Program} {w : World} {K : PySem.W.Frag} {mg : Str → Option Value} (Z : Tx P w K mg) : FunD K "find_least" "Kinds.find_least" (defArgs s_Kinds_find_least) (defBody s_Kinds_find_least) (defScope s_Kinds_find_least) [] [] (He.ma K (He.ga K "Kinds") "find_least") (fdAt K ("Kinds", some "find_least")) := Z.fun 11 rfl
theorem b_Kinds_find_least {P : Program} {w : World} {K : PySem.W.Frag} {mg : Str → Option Value} (Z : Tx P w K mg) : Binds K (fdAt K ("Kinds", some "find_least")) ["self"] [] := FunD.bindsN (F_Kinds_find_least Z) fun _ _ _ _ _ _ us hl => match us, hl with | [_], _ => rfl
theorem F_is_name {P : Program} {w : World} {K : PySem.W.Frag} {mg : Str → Option Value} (Z : Tx P w K mg) : FunD K "is_name" "is_name" (defArgs s_is_name) (defBody s_is_name) (defScope s_is_name) [] [] (He.ga K "is_name") (fdAt K ("is_name", none)) := Z.fun 12 rfl
theorem b_is_name {P : Program} {w : World} {K : PySem.W.Frag} {mg : Str → Option Value} (Z : Tx P w K mg) : Binds K (fdAt K ("is_name", none)) ["text"] [] := FunD.bindsN (F_is_name Z) fun _ _ _ _ _ _ us hl => match us, hl with | [_], _ => rfl
theorem F_is_part {P : Program} {w : World} {K : PySem.W.Frag} {mg : Str → Option Value} (Z : Tx P w K mg) : FunD K "is_part" "is_part" (defArgs s_is_part) (defBody s_is_part) (defScope s_is_part) [] [] (He.ga K "is_part") (fdAt K ("is_part", none)) := Z.fun 13 rfl
theorem b_is_part {P : Program} {w : World} {K : PySem.W.Frag} {mg : Str → Option Value} (Z : Tx P w K mg) : Binds K (fdAt K ("is_part", none)) ["part"] [] := FunD.bindsN (F_is_part Z) fun _ _ _ _ _ _ us hl => match us, hl with | [_], _ => rfl
theorem F_law {P : Program} {w : World} {K : PySem.W.Frag} {mg : Str → Option Value} (Z : Tx P w K mg) : FunD K "law" "law" (defArgs s_law) (defBody s_law) (defScope s_law) [] [] (He.ga K "law") (fdAt K ("law", none)) := Z.fun 14 rfl
theorem ex_BadKinds {P : Program} {w : World} {K : PySem.W.Frag} {mg : Str → Option Value} (Z : Tx P w K mg) : OexC K (He.ga K "BadKinds") ∧ ExcC K (He.ga K "BadKinds") ∧ XfC K (He.ga K "BadKinds") := Z.exc 11 rfl
theorem kit_BadKinds_BadFunctions {P : Program} {w : World} {K : PySem.W.Frag} {mg : Str → Option Value} (Z : Tx P w K mg) : PySem.W.kitOne K (.ref (He.ga K "BadKinds")) (.ref (He.ga K "BadFunctions")) = some false := Z.kit 0 rfl
theorem kit_BadKinds_BadLayout {P : Program} {w : World} {K : PySem.W.Frag} {mg : Str → Option Value} (Z : Tx P w K mg) : PySem.W.kitOne K (.ref (He.ga K "BadKinds")) (.ref (He.ga K "BadLayout")) = some false := Z.kit 1 rfl
theorem kit_BadKinds_BadRow {P : Program} {w : World} {K : PySem.W.Frag} {mg : Str → Option Value} (Z : Tx P w K mg) : PySem.W.kitOne K (.ref (He.ga K "BadKinds")) (.ref (He.ga K "BadRow")) = some false := Z.kit 2 rfl
theorem kit_BadKinds_BadTree {P : Program} {w : World} {K : PySem.W.Frag} {mg : Str → Option Value} (Z : Tx P w K mg) : PySem.W.kitOne K (.ref (He.ga K "BadKinds")) (.ref (He.ga K "BadTree")) = some false := Z.kit 3 rfl
theorem kit_BadKinds_NoLayout {P : Program} {w : World} {K : PySem.W.Frag} {mg : Str → Option Value} (Z : Tx P w K mg) : PySem.W.kitOne K (.ref (He.ga K "BadKinds")) (.ref (He.ga K "NoLayout")) = some false := Z.kit 4 rfl
theorem kit_BadKinds_NotThere {P : Program} {w : World} {K : PySem.W.Frag} {mg : Str → Option Value} (Z : Tx P w K mg) : PySem.W.kitOne K (.ref (He.ga K "BadKinds")) (.ref (He.ga K "NotThere")) = some false := Z.kit 5 rfl
theorem kit_BadKinds_Stuck {P : Program} {w : World} {K : PySem.W.Frag} {mg : Str → Option Value} (Z : Tx P w K mg) : PySem.W.kitOne K (.ref (He.ga K "BadKinds")) (.ref (He.ga K "Stuck")) = some false := Z.kit 6 rfl
theorem kit_BadKinds_WrongLayout {P : Program} {w : World} {K : PySem.W.Frag} {mg : Str → Option Value} (Z : Tx P w K mg) : PySem.W.kitOne K (.ref (He.ga K "BadKinds")) (.ref (He.ga K "WrongLayout")) = some false := Z.kit 7 rfl
theorem kit_BadKinds_BadKinds {P : Program} {w : World} {K : PySem.W.Frag} {mg : Str → Option Value} (Z : Tx P w K mg) : PySem.W.kitOne K (.ref (He.ga K "BadKinds")) (.ref (He.ga K "BadKinds")) = some true := Z.kit 8 rfl
theorem kitT_BadKinds_ValueError {P : Program} {w : World} {K : PySem.W.Frag} {mg : Str → Option Value} (Z : Tx P w K mg) : PySem.W.kitOne K (.ref (He.ga K "BadKinds")) (.type "ValueError") = some true := Z.kitT 9 rfl
theorem exm_BadKinds_GroveError {P : Program} {w : World} {K : PySem.W.Frag} {mg : Str → Option Value} (Z : Tx P w K mg) : PySem.W.exmOne K (.ref (He.ga K "BadKinds")) (.ref (He.ga K "GroveError")) = some true := Z.exm 10 rfl
theorem I_BadKinds {P : Program} {w : World} {K : PySem.W.Frag} {mg : Str → Option Value} {base : Heap} (Z : Tx P w K mg) : ∃ fd, FnOk P w K mg base (L2.CX P w) 1 (He.ma K (He.ga K "BadKinds") "__init__") fd ["self", "row"] (spI K (He.ga K "BadKinds") ["row"] condI) ∧ Binds K fd ["self", "row"] [] ∧
    PySem.W.findIn K (.ref (He.ga K "BadKinds")) "__init__" = some (some (.ref (He.ma K (He.ga K "BadKinds") "__init__"))) ∧ PySem.W.typeIn K (.ref (He.ma K (He.ga K "BadKinds") "__init__")) = some (.type "function") := by
  obtain ⟨cc, cda, fd, dV, hdv, F, hfd, iC, tI⟩ := obsX_sup Z.pf (Tx.c Z) 0 (d := sd_BadKinds) rfl
  refine ⟨fd, ?_, binds_supN hdv hfd fun _ _ _ _ _ us hl => match us, hl with | [_, _], _ => rfl, iC, tI⟩
  refine fn_super (N := N_BadKinds) (k := 0) F sc_BadKinds ⟨_, rfl, rfl⟩ (by decide +kernel) (Z.free 32 rfl) (fun vs H Q E h => ?_) (fun _ => rfl) (fun _ => rfl) (fun _ => rfl) (fun _ => rfl) fun A outer s H vs Q E hr h => ⟨_, _, (pa_cons (pe_op op_add_str pe_str (pe_callTy call_str_int (by rfl) (Z.free 33 rfl) PyProof.Rows.boot_str (pa_cons (pv 1) pa_nil))) pa_nil), (pss_one (ps_ost (pv 0) (pv 1))), init1I h rfl⟩
  obtain ⟨a, C, ws, rfl, hl, _⟩ := h
  simpa using hl
theorem pr_BadKinds {X : Cx} {W : WX} {e : Expr} {es : List Expr} {ta : TA} {p pos pos' : Pos} (Z : Tx X.prog X.w X.K X.mg) (hc : X.calm = true) (hr : Room 2 X.A) (tk : Takes X W) (hg : Gl X "BadKinds") (ha : PA X (e :: es) ta)
    (he : starEach (e :: es) X.env = (false, eval e X.env) :: starEach es X.env := by rfl) (hpl : (backTo pos (starEach es X.env)).any (·.1) = false := by rfl) : PS X (.Raise (some (.Call (.Name "BadKinds" p) (e :: es) [] pos)) none pos') (fun _ σ H => tMkO (He.ga X.K "BadKinds") (spI X.K (He.ga X.K "BadKinds") ["row"] condI) [] ta σ H fun cls d H' => W cls d σ H') := by
  obtain ⟨fd, F, b, iC, tI⟩ := I_BadKinds (w := X.w) (base := X.base) Z
  exact ps_raise hc tk (pmk_oex (Z.exc 11 rfl).1 iC tI F hr b .nil passN hg (Z.glo 26 rfl) ha (by decide) he hpl)
theorem xo_BadKinds {P : Program} {w : World} {K : PySem.W.Frag} {mg : Str → Option Value} (Z : Tx P w K mg) : OexC K (He.ga K "BadKinds") ∧ SupC K (He.ga K "BadKinds") (He.ga K "BadKinds") ∧ ∀ f ∈ (["row"] : List Str), PySem.W.findIn K (.ref (He.ga K "BadKinds")) f = some none := by
  refine ⟨(Z.exc 11 rfl).1, Z.sup 12 rfl, fun f m => ?_⟩
  simp only [List.mem_cons, List.not_mem_nil, or_false] at m
  rcases m with rfl
  · exact Z.noat 29 rfl
def c__law_pool (K : PySem.W.Frag) : Ct := fun L as ds O k e => ∃ (d : D) (ns : List Int), as = [] ∧ ds = [d] ∧ O = [] ∧ lstR [] [] K d (ns.map D.int) ∧ ns.length ≤ 63 ∧
  ∀ (p : Addr) (ns' : List Int), k [p] (.adr p) [.lst (ns'.map D.int)]
theorem l__law_pool {K : PySem.W.Frag} : ∀ L as ds O k e, c__law_pool K L as ds O k e → ds.length = 1 := fun L as ds O k e h => by
  obtain ⟨a, ns, _, rfl, _⟩ := h
  rfl
theorem ok__law_pool {P : Program} {w : World} {K : PySem.W.Frag} {mg : Str → Option Value} {base : Heap} (Z : Tx P w K mg) : FnOk P w K mg base (L2.CX P w) 1 (He.ga K "_law_pool") (fdAt K ("_law_pool", none)) ["_law_script"] (spC (c__law_pool K)) := by
  refine FunD.ok (k := 0) (F__law_pool Z) sc__law_pool (sp_len (n := 1) l__law_pool) (fun cdv A outer s H vs Q E hr h => ⟨_, PSs.nox ((pss_cons (ps_set (i := 1) sc__law_pool.nd rfl (Or.inl rfl) (pe_lst pa_nil))
  (pss_cons (ps_for PassesOwn.never rfl (pi_list (pe_slice sl_list (pv 0) po_none (po_some pe_int))) (pg_name (i := 2) sc__law_pool.nd rfl (Or.inl rfl))
  (pss_cons (ps_set (i := 3) sc__law_pool.nd rfl (Or.inl rfl) (pe_callTy call_int1 (by rfl) (Z.free 8 rfl) PyProof.Rows.boot_int (pa_cons (pv 2) pa_nil)))
  (pss_one (ps_if (pt_cmpR op_ge (pv 3) (pe_op op_pow pe_int pe_int) (nomark _))
  (pss_one (ps_for PassesOwn.never rfl (pi_range1 (by rfl) (Z.free 4 rfl) (pa_cons pe_int pa_nil)) (pg_name (i := 4) sc__law_pool.nd rfl (Or.inl rfl))
  (pss_one (ps_if (pt_cmpR op_gt (pv 3) pe_int (nomark _))
  (pss_cons (ps_expr (pe_bm PySem.F.plainAttrs_list PySem.F.slot_list_append PySem.F.type_list_append mt_append (pv 1) (pa_cons (pe_op op_mod (pv 3) pe_int) pa_nil)))
  (pss_one (ps_set (i := 3) sc__law_pool.nd rfl (Or.inl rfl) (pe_op op_fdiv (pv 3) pe_int))))
  pss_nil))))
  (pss_cons (ps_set (i := 5) sc__law_pool.nd rfl (Or.inl rfl) (pe_op op_mod (pe_callTy call_int1 (by rfl) (Z.free 8 rfl) PyProof.Rows.boot_int (pa_cons (pe_op op_add (pe_op op_mul (pv 3) pe_int) pe_int) pa_nil)) pe_int))
  (pss_one (ps_for PassesOwn.never rfl (pi_range1 (by rfl) (Z.free 4 rfl) (pa_cons pe_int pa_nil)) (pg_name (i := 4) sc__law_pool.nd rfl (Or.inl rfl))
  (pss_cons (ps_set (i := 5) sc__law_pool.nd rfl (Or.inl rfl) (pe_op op_mod (pe_callTy call_int1 (by rfl) (Z.free 8 rfl) PyProof.Rows.boot_int (pa_cons (pe_op op_add (pe_op op_add (pe_op op_mul (pv 5) pe_int) (pe_op op_mul pe_int (pv 4))) pe_int) pa_nil)) pe_int))
  (pss_one (ps_expr (pe_bm PySem.F.plainAttrs_list PySem.F.slot_list_append PySem.F.type_list_append mt_append (pv 1) (pa_cons (pe_op op_mod (pe_callTy call_int1 (by rfl) (Z.free 8 rfl) PyProof.Rows.boot_int (pa_cons (pe_op op_fdiv (pe_op op_mul (pv 5) (pv 5)) pe_int) pa_nil)) pe_int) pa_nil))))))))))))
  (pss_one (ps_ret (pe_revL (pv 1))))))), enter h fun L as ds O k e c => ?_⟩)
  obtain ⟨d, ns, rfl, rfl, rfl, hR, hlen, hk⟩ := c
  refine s_seq (s_set (w_lst (w_nil ⟨Nat.zero_le _, fun p => ?_⟩)))
  refine s_seq (s_for (i_list (w_known (w_sl (w_var rfl (o_none (o_some (w_int ⟨_, rfl, rs_list (KK := K) (ds := ns.map D.int) hR.more fun q => ⟨q, _, _, _, rfl, rfl, rfl, _, rfl,
    fun i as ρ O => ∃ (ms : List Int) (x2 x3 x4 x5 : Option D), as = [p] ∧ ρ = [some d, some (.adr p), x2, x3, x4, x5] ∧ O = [.lst (ms.map D.int)] ∧ ms.length ≤ 60 * i, ⟨[], none, none, none, none, rfl, rfl, rfl, Nat.le_refl _⟩, ?_, ?_⟩⟩))))))))
  · rintro i as ρ O c hc ⟨ms, x2, x3, x4, x5, rfl, rfl, rfl, hl⟩
    obtain ⟨n, _, rfl⟩ := List.mem_map.mp (cut_mem hc)
    have hi : i < 63 := by
      have h1 := (List.getElem?_eq_some_iff.mp hc).1
      have h2 := cut_len (ns.map D.int) none (some 63)
      rw [List.length_map] at h2
      omega
    k_subL
    refine rv_i ⟨by decide, by decide, by decide⟩ ?_
    k_subL
    refine b_dec (fun h1 => ?_) fun h1 => ?_
    · refine s_for (i_range ?_)
      k_subL
      refine ⟨_, rfl, by decide, by decide, fun j as ρ O => ∃ (ms : List Int) (m : Int) (x4 : Option D), as = [p] ∧ ρ = [some d, some (.adr p), some (.int n), some (.int m), x4, x5] ∧ O = [.lst (ms.map D.int)] ∧ ms.length ≤ 60 * i + j, ⟨ms, n, x4, rfl, rfl, rfl, hl⟩, ?_, ?_⟩
      · rintro j as ρ O c hc ⟨ms, m, x4, rfl, rfl, rfl, hl⟩
        obtain ⟨hj, rfl⟩ := upto_at hc
        have hj : j < 60 := hj
        k_subL
        refine b_dec (fun h2 => ?_) fun h2 => ?_
        · refine s_seq (s_append 0 rfl rfl rfl ?_)
          k_subL
          refine rv_i (by decide) ⟨_, rfl, rfl, smallt (by rw [List.length_map]; omega), ?_⟩
          k_subL
          refine rv_i ⟨by decide, by decide⟩ ⟨ms ++ [m % 1000000], m / 1000000, _, rfl, rfl, ?_, ?_⟩
          · show [D.lst (ms.map D.int ++ [.int (m % 1000000)])] = _
            rw [List.map_append]
            rfl
          · rw [List.length_append]
            show ms.length + 1 ≤ _
            omega
        · exact s_next ⟨ms, m, _, rfl, rfl, rfl, by omega⟩
      · rintro as ρ O ⟨ms, m, x4, rfl, rfl, rfl, hl⟩
        exact ⟨ms, _, _, _, _, rfl, rfl, rfl, by rw [upto_len] at hl; show _ ≤ 60 * (i + 1); have : (60 : Int).toNat = 60 := rfl; omega⟩
    · k_subL
      refine rv_i (.inr ⟨by decide, by decide⟩) ?_
      k_subL
      refine rv_i (by decide) ?_
      have hx : 0 ≤ (n * 48271 + 12345) % 2147483647 ∧ (n * 48271 + 12345) % 2147483647 < 2147483647 := ⟨Int.emod_nonneg _ (by decide), Int.emod_lt_of_pos _ (by decide)⟩
      generalize (n * 48271 + 12345) % 2147483647 = x at hx
      refine s_for (i_range ?_)
      k_subL
      refine ⟨_, rfl, by decide, by decide, fun j as ρ O => ∃ (ms : List Int) (m : Int) (x4 : Option D), as = [p] ∧ ρ = [some d, some (.adr p), some (.int n), some (.int n), x4, some (.int m)] ∧ O = [.lst (ms.map D.int)] ∧ ms.length ≤ 60 * i + j ∧ 0 ≤ m ∧ m < 2147483647, ⟨ms, x, x4, rfl, rfl, rfl, hl, hx⟩, ?_, ?_⟩
      · rintro j as ρ O c hc ⟨ms, m, x4, rfl, rfl, rfl, hl, hm⟩
        obtain ⟨hj, rfl⟩ := upto_at hc
        have hj : j < 12 := hj
        k_subL
        refine rv_i (.inr ⟨by decide, by decide⟩) ?_
        k_subL
        refine rv_i (.inl ⟨by decide, by decide⟩) ?_
        k_subL
        refine rv_i (by decide) ?_
        have hy : 0 ≤ (m * 69621 + 7 * (j : Int) + 1) % 2147483629 ∧ (m * 69621 + 7 * (j : Int) + 1) % 2147483629 < 2147483629 := ⟨Int.emod_nonneg _ (by decide), Int.emod_lt_of_pos _ (by decide)⟩
        generalize (m * 69621 + 7 * (j : Int) + 1) % 2147483629 = y at hy
        refine s_append 0 rfl rfl rfl ?_
        k_subL
        refine rv_i (.inl ⟨by omega, by omega⟩) ?_
        k_subL
        refine rv_i ⟨by decide, by decide⟩ ?_
        k_subL
        refine rv_i (by decide) ⟨_, rfl, rfl, smallt (by rw [List.length_map]; omega), ms ++ [y * y / 4096 % 1000000], y, _, rfl, rfl, ?_, ?_, by omega, by omega⟩
        · show [D.lst (ms.map D.int ++ [.int (y * y / 4096 % 1000000)])] = _
          rw [List.map_append]
          rfl
        · rw [List.length_append]
          show ms.length + 1 ≤ _
          omega
      · rintro as ρ O ⟨ms, m, x4, rfl, rfl, rfl, hl, _⟩
        exact ⟨ms, _, _, _, _, rfl, rfl, rfl, by rw [upto_len] at hl; show _ ≤ 60 * (i + 1); have : (12 : Int).toNat = 12 := rfl; omega⟩
  · rintro as ρ O ⟨ms, x2, x3, x4, x5, rfl, rfl, rfl, hl⟩
    refine s_ret (w_let 0 (w_rev (w_var rfl ⟨_, .inl (lo_o 0 rfl rfl), fun q => ?_⟩)))
    show k [q] (.adr q) [.lst (ms.map D.int).reverse]
    rw [← List.map_reverse]
    exact hk q _
def c__law_take (K : PySem.W.Frag) : Ct := fun L as ds O k e => ∃ (a : Addr) (m : Int) (ns : List Int), as = [a] ∧ ds = [.adr a, .int m] ∧ O = [.lst (ns.map D.int)] ∧ 0 < m ∧
  ∀ (r : Int) (ns' : List Int), 0 ≤ r → r < m → k [a] (.int r) [.lst (ns'.map D.int)]
theorem l__law_take {K : PySem.W.Frag} : ∀ L as ds O k e, c__law_take K L as ds O k e → ds.length = 2 := fun L as ds O k e h => by
  obtain ⟨a, m, ns, _, rfl, _⟩ := h
  rfl
theorem ok__law_take {P : Program} {w : World} {K : PySem.W.Frag} {mg : Str → Option Value} {base : Heap} (Z : Tx P w K mg) : FnOk P w K mg base (L2.CX P w) 1 (He.ga K "_law_take") (fdAt K ("_law_take", none)) ["_law_pool_here", "_law_many"] (spC (c__law_take K)) := by
  refine FunD.ok (k := 0) (F__law_take Z) sc__law_take (sp_len (n := 2) l__law_take) (fun cdv A outer s H vs Q E hr h => ⟨_, PSs.nox ((pss_cons (ps_if (pt_cmpR (r := rEqD K) (op_eqD hr.units) (pv 0) (pe_lst pa_nil) (nomark _))
  (pss_one (ps_ret pe_int))
  pss_nil)
  (pss_one (ps_ret (pe_op op_mod (pe_callTy call_int1 (by rfl) (Z.free 8 rfl) PyProof.Rows.boot_int (pa_cons (pe_bm0 PySem.F.plainAttrs_list PySem.F.slot_list_pop PySem.F.type_list_pop mt_pop (pv 0)) pa_nil)) (pv 1)))))), enter h fun L as ds O k e c => ?_⟩)
  obtain ⟨a, m, ns, rfl, rfl, rfl, hm, hk⟩ := c
  refine s_seq (s_if (w_test (w_op (w_var rfl (w_lstF (w_nil ⟨Nat.zero_le _, rv_isNil 0 rfl rfl ⟨_, rfl, ?_⟩⟩))))))
  cases ns with
  | nil => exact s_ret (w_int (hk 0 [] (by omega) hm))
  | cons n r =>
    obtain ⟨v, hv⟩ : ∃ v, (((n :: r).map D.int))[((n :: r).map D.int).length - 1]? = some (.int v) := by
      rw [List.getElem?_map, List.length_map, List.getElem?_eq_getElem (by simp)]
      exact ⟨_, rfl⟩
    refine s_next (s_ret (w_op (w_cb (w_cons (w_bm0 a (w_var rfl ⟨rfl, ⟨0, _, rfl, rfl⟩, rfl, rc_pop 0 rfl rfl hv (w_nil (rc_int (w_var rfl (rv_i hm ?_))))⟩))))))
    have e : ((n :: r).map D.int).dropLast = (n :: r).dropLast.map D.int := (List.map_dropLast ..).symm
    show k [a] (.int (v % m)) [.lst ((n :: r).map D.int).dropLast]
    rw [e]
    exact hk _ _ (Int.emod_nonneg _ (by omega)) (Int.emod_lt_of_pos _ hm)
theorem call_take {K : PySem.W.Frag} {χ : Xk} {L as : List Addr} {ρ : DSt} {O : List D} {k : List Addr → D → List D → Prop} {j : Nat} {a : Addr} {ns : List Int} {m : Int} (ha : as[j]? = some a) (ho : O[j]? = some (.lst (ns.map D.int))) (hm : 0 < m)
    (hk : ∀ (r : Int) (ns' : List Int), 0 ≤ r → r < m → k as (.int r) (O.set j (.lst (ns'.map D.int)))) : cc (c__law_take K) χ ρ [j] L as [.adr a, .int m] O k := by
  obtain ⟨s1, s2, s3, s4, s5⟩ := sel1 ha ho
  refine ⟨s1, s2, ?_⟩
  rw [s3, s4]
  exact ⟨a, m, ns, rfl, rfl, rfl, hm, fun r ns' h1 h2 => by
    have := ck1 (O := O) s5 (hk r ns' h1 h2)
    rw [s3] at this
    exact this⟩
def c__law_name (K : PySem.W.Frag) : Ct := fun L as ds O k e => ∃ (s m : Int) (d : D) (zs : List Str), ds = [.int s, .int m, d] ∧ lstOf as O d (zs.map D.str) ∧ zs.length ≤ 100 ∧ -1000 ≤ m ∧ m ≤ 1000 ∧
  ∀ nm : Str, MN.nameL (MN.tl nm) = true → nm.length ≤ 4 + zs.length → nm ∉ zs → k as (.str nm) O
theorem l__law_name {K : PySem.W.Frag} : ∀ L as ds O k e, c__law_name K L as ds O k e → ds.length = 3 := fun L as ds O k e h => by
  obtain ⟨s, m, d, zs, rfl, _⟩ := h
  rfl
theorem ok__law_name {P : Program} {w : World} {K : PySem.W.Frag} {mg : Str → Option Value} {base : Heap} (Z : Tx P w K mg) : FnOk P w K mg base (L2.CX P w) 1 (He.ga K "_law_name") (fdAt K ("_law_name", none)) ["_law_seed", "_law_k", "_law_taken"] (spC (c__law_name K)) := by
  refine FunD.ok (k := 0) (F__law_name Z) sc__law_name (sp_len (n := 3) l__law_name) (fun cdv A outer s H vs Q E hr h => ⟨_, PSs.nox ((pss_cons (ps_set (i := 3) sc__law_name.nd rfl (Or.inl rfl) pe_str)
  (pss_cons (ps_set (i := 4) sc__law_name.nd rfl (Or.inl rfl) (pe_op op_mod (pe_callTy call_int1 (by rfl) (Z.free 8 rfl) PyProof.Rows.boot_int (pa_cons (pe_op op_mul (pe_op op_mul (pe_op op_add (pv 0) pe_int) (pe_op op_add (pv 1) pe_int)) pe_int) pa_nil)) pe_int))
  (pss_cons (ps_set (i := 5) sc__law_name.nd rfl (Or.inl rfl) (pe_ix (r := rIxS) ix_str (pv 3) (pe_op op_mod (pv 4) pe_int) (fun _ _ => rfl)))
  (pss_cons (ps_for PassesOwn.never rfl (pi_range1 (by rfl) (Z.free 4 rfl) (pa_cons (pe_op op_mod (pe_op op_fdiv (pv 4) pe_int) pe_int) pa_nil)) (pg_name (i := 6) sc__law_name.nd rfl (Or.inl rfl))
  (pss_cons (ps_set (i := 4) sc__law_name.nd rfl (Or.inl rfl) (pe_op op_mod (pe_callTy call_int1 (by rfl) (Z.free 8 rfl) PyProof.Rows.boot_int (pa_cons (pe_op op_add (pe_op op_mul (pv 4) pe_int) pe_int) pa_nil)) pe_int))
  (pss_one (ps_set (i := 5) sc__law_name.nd rfl (Or.inl rfl) (pe_op op_add_str (pv 5) (pe_ix (r := rIxS) ix_str (pv 3) (pe_op op_mod (pe_op op_fdiv (pv 4) pe_int) pe_int) (fun _ _ => rfl)))))))
  (pss_cons (ps_for PassesOwn.never rfl (pi_range1 (by rfl) (Z.free 4 rfl) (pa_cons (pe_callB (r := fun xs H Q => ∃ x n, xs = [x] ∧ LenV K x H n ∧ Q (.int n) H) call_len (by rfl) (Z.free 3 rfl) PySem.boot_len (pa_cons (pv 2) pa_nil)) pa_nil)) (pg_name (i := 6) sc__law_name.nd rfl (Or.inl rfl))
  (pss_one (ps_if (pt_cmpR (r := rIn K false) op_in_seq (pv 5) (pv 2) (by rfl))
  (pss_one (ps_set (i := 5) sc__law_name.nd rfl (Or.inl rfl) (pe_op op_add_str (pv 5) pe_str)))
  pss_nil)))
  (pss_one (ps_ret (pv 5))))))))), enter h fun L as ds O k e c => ?_⟩)
  obtain ⟨sd, m, d, zs, rfl, hR, hz, hm1, hm2, hk⟩ := c
  k_subL
  refine rv_i (.inr ⟨by omega, by omega⟩) ?_
  k_subL
  refine rv_i (.inr ⟨by decide, by decide⟩) ?_
  k_subL
  refine rv_i (by decide) ?_
  have hx : 0 ≤ ((sd + 1) * (m + 5) * 48271) % 2147483647 ∧ ((sd + 1) * (m + 5) * 48271) % 2147483647 < 2147483647 := ⟨Int.emod_nonneg _ (by decide), Int.emod_lt_of_pos _ (by decide)⟩
  generalize ((sd + 1) * (m + 5) * 48271) % 2147483647 = x at hx
  k_subL
  refine rv_i (by decide) ?_
  obtain ⟨c0, h0, h1, h2⟩ := MN.let_at (n := x)
  refine rv_ixS (z := MN.alnS) (by decide +kernel) h0 ?_
  refine s_seq (s_for (i_range ?_))
  k_subL
  refine rv_i ⟨by decide, by decide⟩ ?_
  k_subL
  refine rv_i (by decide) ?_
  k_subL
  have hr : 0 ≤ x / 52 % 4 ∧ x / 52 % 4 < 4 := ⟨Int.emod_nonneg _ (by decide), Int.emod_lt_of_pos _ (by decide)⟩
  refine ⟨_, rfl, by omega, by omega, fun i as' ρ O' => ∃ (y : Int) (nm : Str) (x6 : Option D), as' = as ∧ O' = O ∧ ρ = [some (.int sd), some (.int m), some d, some (.str MN.alnS), some (.int y), some (.str nm), x6] ∧
    MN.nameL (MN.tl nm) = true ∧ nm.length = i + 1 ∧ 0 ≤ y ∧ y < 2147483647, ⟨x, _, none, rfl, rfl, rfl, ?_, rfl, hx⟩, ?_, ?_⟩
  · show (decide (c0 ∈ MN.tl MN.letS) && true) = true
    rw [h1]
    rfl
  · rintro i as' ρ O' c hc ⟨y, nm, x6, rfl, rfl, rfl, hn, hl, hy⟩
    obtain ⟨hi, rfl⟩ := upto_at hc
    k_subL
    refine rv_i (.inr ⟨by decide, by decide⟩) ?_
    k_subL
    refine rv_i (by decide) ?_
    have hv : 0 ≤ (y * 69621 + 1) % 2147483629 ∧ (y * 69621 + 1) % 2147483629 < 2147483629 := ⟨Int.emod_nonneg _ (by decide), Int.emod_lt_of_pos _ (by decide)⟩
    generalize (y * 69621 + 1) % 2147483629 = v at hv
    k_subL
    refine rv_i ⟨by decide, by decide⟩ ?_
    k_subL
    refine rv_i (by decide) ?_
    obtain ⟨c1, h3, h4, h5⟩ := MN.aln_at (n := v / 64) (m := 62) (by decide) (by decide)
    have hlen : (nm ++ (⟨#[c1]⟩ : Str)).length = i + 1 + 1 := by
      rw [MN.len_tl, MN.tl_app, List.length_append, ← MN.len_tl, hl]
      rfl
    refine rv_ixS (z := MN.alnS) (by decide +kernel) h3 (rv_addS (small ?_) ⟨v, _, _, rfl, rfl, rfl, ?_, hlen, by omega, by omega⟩)
    · show nm.length + 1 ≤ _
      omega
    · rw [MN.tl_app]
      refine MN.nameL_app hn ?_
      show (MN.okc c1 && true) = true
      rw [h4]
      rfl
  · rintro as' ρ O' ⟨y, nm, x6, rfl, rfl, rfl, hn, hl, hy⟩
    rw [upto_len] at hl
    refine s_seq (s_for (i_range ?_))
    k_subL
    refine rc_len (n := zs.length) ?_ ?_
    · rcases hR with rfl | ⟨j, a, rfl, e1, e2⟩
      · exact (List.length_map ..).symm
      · exact ⟨j, _, e1, e2, (List.length_map ..).symm⟩
    k_subL
    refine ⟨_, rfl, by omega, by omega, fun i as2 ρ O2 => ∃ (n : Nat) (x6 : Option D), as2 = as' ∧ O2 = O' ∧ ρ = [some (.int sd), some (.int m), some d, some (.str MN.alnS), some (.int y), some (.str (nm ++ MN.exs n)), x6] ∧
      n ≤ i ∧ (nm ++ MN.exs n ∈ zs → n = i ∧ ∀ j, j ≤ i → nm ++ MN.exs j ∈ zs), ⟨0, x6, rfl, rfl, ?_, Nat.le_refl _, fun h => ⟨rfl, fun j hj => by rw [show j = 0 by omega]; exact h⟩⟩, ?_, ?_⟩
    · rw [MN.exs_zero]
    · rintro i as2 ρ O2 c hc ⟨n, x6, rfl, rfl, rfl, hni, hin⟩
      obtain ⟨hi, rfl⟩ := upto_at hc
      have hi : i < zs.length := by simpa using hi
      have len : ∀ q, (nm ++ MN.exs q).length = nm.length + q := fun q => by
        rw [MN.len_tl, MN.tl_app, List.length_append, ← MN.len_tl, MN.tl_exs, List.length_replicate]
      k_subL
      refine rv_inL (KK := K) (.inl hR) (b_dec (fun h => ?_) fun h => ?_)
      · obtain ⟨rfl, hall⟩ := hin h
        refine s_set (w_op (w_var rfl (w_str (rv_addS (small ?_) ?_))))
        · rw [len]
          show _ + 1 ≤ _
          omega
        rw [MN.exs_succ]
        refine ⟨n + 1, _, rfl, rfl, rfl, Nat.le_refl _, fun h' => ⟨rfl, fun j hj => ?_⟩⟩
        rcases Nat.lt_or_ge n j with z | z
        · rw [show j = n + 1 by omega]; exact h'
        · exact hall j z
      · exact s_next ⟨n, _, rfl, rfl, rfl, by omega, fun h' => absurd h' h⟩
    · rintro as2 ρ O2 ⟨n, x6, rfl, rfl, rfl, hni, hin⟩
      rw [upto_len] at hni hin
      have en : (zs.length : Int).toNat = zs.length := by omega
      rw [en] at hni hin
      refine s_ret (w_var rfl (hk _ ?_ ?_ fun h => ?_))
      · rw [MN.tl_app, MN.tl_exs]
        refine MN.nameL_app hn ?_
        rw [List.all_eq_true]
        intro c hc
        rw [(List.mem_replicate.mp hc).2]
        decide +kernel
      · rw [MN.len_tl, MN.tl_app, List.length_append, ← MN.len_tl, MN.tl_exs, List.length_replicate]
        omega
      · obtain ⟨_, hall⟩ := hin h
        have := MN.pigeon (f := fun j => nm ++ MN.exs j) (fun i j => MN.exs_inj nm) (zs.length + 1) zs fun j hj => hall j (by omega)
        omega
theorem call_name {K : PySem.W.Frag} {χ : Xk} {L as : List Addr} {ρ : DSt} {O : List D} {k : List Addr → D → List D → Prop} {s m : Int} {d : D} {zs : List Str} (hR : lstOf as O d (zs.map D.str)) (hz : zs.length ≤ 100) (h1 : -1000 ≤ m) (h2 : m ≤ 1000)
    (hk : ∀ nm : Str, MN.nameL (MN.tl nm) = true → nm.length ≤ 4 + zs.length → nm ∉ zs → k as (.str nm) O) : ∃ js, cc (c__law_name K) χ ρ js L as [.int s, .int m, d] O k := by
  rcases hR with rfl | ⟨j, a, rfl, ha, ho⟩
  · exact ⟨[], (no_js (as := as)).1, (no_js (as := as)).2, s, m, _, zs, rfl, .inl rfl, hz, h1, h2, fun nm g1 g2 g3 => ck0 (hk nm g1 g2 g3)⟩
  · obtain ⟨s1, s2, s3, s4, s5⟩ := sel1 ha ho
    refine ⟨[j], s1, s2, s, m, _, zs, rfl, ?_, hz, h1, h2, fun nm g1 g2 g3 => ?_⟩
    · rw [s3, s4]
      exact lo_o 0 rfl rfl
    · have e : O.set j (.lst (zs.map D.str)) = O := by
        apply List.ext_getElem?
        intro i
        by_cases z : j = i
        · subst z
          rw [List.getElem?_set_self (List.getElem?_eq_some_iff.mp ho).1, ho]
        · rw [List.getElem?_set_ne z]
      have := ck1 (O := O) s5 (c := .lst (zs.map D.str)) (by rw [e]; exact hk nm g1 g2 g3)
      rw [s3, s4]
      rw [s3] at this
      exact this
def c__law_parts (K : PySem.W.Frag) : Ct := fun L as ds O k e => ∃ (a : Addr) (s : Int) (nms : List Str) (b : Bool) (ns : List Int), as = [a] ∧ ds = [.adr a, .int s, .lst (nms.map D.str), .bl b] ∧ O = [.lst (ns.map D.int)] ∧ nms.length ≤ 50 ∧
  ∀ (ps : List MR.Part) (ns' : List Int), MR.Drawn nms b ps → k [a] (.tup (ps.map MR.dPart)) [.lst (ns'.map D.int)]
theorem l__law_parts {K : PySem.W.Frag} : ∀ L as ds O k e, c__law_parts K L as ds O k e → ds.length = 4 := fun L as ds O k e h => by
  obtain ⟨a, s, nms, b, ns, _, rfl, _⟩ := h
  rfl
theorem ok__law_parts {P : Program} {w : World} {K : PySem.W.Frag} {mg : Str → Option Value} {base : Heap} (Z : Tx P w K mg) : FnOk P w K mg base (L2.CX P w) 2 (He.ga K "_law_parts") (fdAt K ("_law_parts", none)) ["_law_pool_here", "_law_seed", "_law_names", "_law_base"] (spC (c__law_parts K)) := by
  refine FunD.ok (k := 1) (F__law_parts Z) sc__law_parts (sp_len (n := 4) l__law_parts) (fun cdv A outer s H vs Q E hr h => ⟨_, PSs.nox ((pss_cons (ps_set (i := 4) sc__law_parts.nd rfl (Or.inl rfl) (pe_lst pa_nil))
  (pss_cons (ps_set (i := 5) sc__law_parts.nd rfl (Or.inl rfl) (pe_lst pa_nil))
  (pss_cons (ps_set (i := 6) sc__law_parts.nd rfl (Or.inl rfl) pe_int)
  (pss_cons (ps_for PassesOwn.never rfl (pi_range1 (by rfl) (Z.free 4 rfl) (pa_cons (pe_op op_mod (pe_callTy call_int1 (by rfl) (Z.free 8 rfl) PyProof.Rows.boot_int (pa_cons (pe_op op_add pe_int (pe_call (ok__law_take Z) (hr.mono (by decide)) (by rfl) (Z.glo 2 rfl) (Z.kp 2 rfl) (b__law_take Z) .nil passN (pa_cons (pv 0) (pa_cons pe_int pa_nil)))) pa_nil)) pe_int) pa_nil)) (pg_name (i := 7) sc__law_parts.nd rfl (Or.inl rfl))
  (pss_cons (ps_expr (pe_bm PySem.F.plainAttrs_list PySem.F.slot_list_append PySem.F.type_list_append mt_append (pv 5) (pa_cons (pe_call (ok__law_name Z) (hr.mono (by decide)) (by rfl) (Z.glo 10 rfl) (Z.kp 6 rfl) (b__law_name Z) .nil passN (pa_cons (pv 1) (pa_cons (pv 7) (pa_cons (pv 5) pa_nil)))) pa_nil)))
  (pss_cons (ps_set (i := 8) sc__law_parts.nd rfl (Or.inl rfl) (pe_call (ok__law_take Z) (hr.mono (by decide)) (by rfl) (Z.glo 2 rfl) (Z.kp 2 rfl) (b__law_take Z) .nil passN (pa_cons (pv 0) (pa_cons (pe_op op_add (pe_callB (r := fun xs H Q => ∃ x n, xs = [x] ∧ LenV K x H n ∧ Q (.int n) H) call_len (by rfl) (Z.free 3 rfl) PySem.boot_len (pa_cons (pv 2) pa_nil)) pe_int) pa_nil))))
  (pss_cons (ps_set (i := 9) sc__law_parts.nd rfl (Or.inl rfl) (pe_op op_add pe_int (pe_call (ok__law_take Z) (hr.mono (by decide)) (by rfl) (Z.glo 2 rfl) (Z.kp 2 rfl) (b__law_take Z) .nil passN (pa_cons (pv 0) (pa_cons (pe_ix (r := rIxL K) ix_list (pe_lst (pa_cons pe_int (pa_cons pe_int pa_nil))) (pe_call (ok__law_take Z) (hr.mono (by decide)) (by rfl) (Z.glo 2 rfl) (Z.kp 2 rfl) (b__law_take Z) .nil passN (pa_cons (pv 0) (pa_cons pe_int pa_nil))) (fun _ _ => rfl)) pa_nil)))))
  (pss_one (ps_if (PW.pt (pw_or (pt_cmpR op_eq (pv 8) (pe_callB (r := fun xs H Q => ∃ x n, xs = [x] ∧ LenV K x H n ∧ Q (.int n) H) call_len (by rfl) (Z.free 3 rfl) PySem.boot_len (pa_cons (pv 2) pa_nil)) (nomark _)) (pw_or1 (PW.pt (pw_and (pt_val (pv 3)) (pw_and1 (pt_cmpR op_eq (pv 6) pe_int (nomark _))))))))
  (pss_one (ps_expr (pe_bm PySem.F.plainAttrs_list PySem.F.slot_list_append PySem.F.type_list_append mt_append (pv 4) (pa_cons (pe_tup (pa_cons (pe_ix (r := rIxL K) ix_list (pv 5) (pv 7) (fun _ _ => rfl)) (pa_cons pe_str pa_nil))) pa_nil))))
  (pss_cons (ps_set (i := 6) sc__law_parts.nd rfl (Or.inl rfl) (pe_op op_add (pv 6) pe_int))
  (pss_one (ps_expr (pe_bm PySem.F.plainAttrs_list PySem.F.slot_list_append PySem.F.type_list_append mt_append (pv 4) (pa_cons (pe_tup (pa_cons (pe_ix (r := rIxL K) ix_list (pv 5) (pv 7) (fun _ _ => rfl)) (pa_cons (pe_ix (r := rIxL K) ix_list (pv 2) (pv 8) (fun _ _ => rfl)) (pa_cons (pv 9) pa_nil)))) pa_nil)))))))))))
  (pss_one (ps_ret (pe_callTy call_tuple_of (by rfl) (Z.free 12 rfl) PyProof.Rows.boot_tuple (pa_cons (pv 4) pa_nil))))))))), enter h fun L as ds O k e c => ?_⟩)
  obtain ⟨a, sd, nms, b, ns, rfl, rfl, rfl, hn, hk⟩ := c
  refine s_seq (s_set (w_lst (w_nil ⟨Nat.zero_le _, fun pp => ?_⟩)))
  refine s_seq (s_set (w_lst (w_nil ⟨Nat.zero_le _, fun tt => ?_⟩)))
  k_subL
  refine s_for (i_range ?_)
  k_subL
  refine d_call [0] ?_
  k_subL
  refine call_take rfl rfl (by decide) fun r ns1 h1 h2 => ?_
  k_subL
  refine rv_i (by decide) ?_
  k_subL
  have hr : 0 ≤ (2 + r) % 5 ∧ (2 + r) % 5 < 5 := ⟨Int.emod_nonneg _ (by decide), Int.emod_lt_of_pos _ (by decide)⟩
  refine ⟨_, rfl, by omega, by omega, fun i as ρ O => ∃ (ns : List Int) (ps : List MR.Part) (x7 x8 x9 : Option D), as = [a, pp, tt] ∧
    ρ = [some (.adr a), some (.int sd), some (.lst (nms.map D.str)), some (.bl b), some (.adr pp), some (.adr tt), some (.int (MR.trees ps : Nat)), x7, x8, x9] ∧
    O = [.lst (ns.map D.int), .lst (ps.map MR.dPart), .lst ((ps.map (·.nm)).map D.str)] ∧ ps.length = i ∧ MR.Drawn nms b ps, ⟨ns1, [], none, none, none, rfl, rfl, rfl, rfl, MR.Drawn.nil⟩, ?_, ?_⟩
  · rintro i as ρ O c hc ⟨ns, ps, x7, x8, x9, rfl, rfl, rfl, hl, hd⟩
    obtain ⟨hi, rfl⟩ := upto_at hc
    have hi : i < 4 := by omega
    k_subL
    refine w_append 2 rfl rfl rfl ?_
    refine d_callE ?_
    k_subL
    refine call_name (zs := ps.map (·.nm)) (lo_o 2 rfl rfl) (by rw [List.length_map]; omega) (by omega) (by omega) fun nm g1 g2 g3 => ?_
    refine ⟨_, rfl, rfl, smallt (by simp; omega), ?_⟩
    k_subL
    refine d_call [0] ?_
    k_subL
    refine rc_len (n := nms.length) (List.length_map ..).symm ?_
    k_subL
    refine call_take rfl rfl (by omega) fun pick ns2 p1 p2 => ?_
    k_subL
    refine d_call [0] ?_
    k_subL
    refine w_lstF ?_
    k_subL
    refine ⟨by decide, ?_⟩
    refine d_call [0] ?_
    k_subL
    refine call_take rfl rfl (by decide) fun q ns3 q1 q2 => ?_
    have hq : ∃ m : Int, atI [D.int 4, D.int 1000] q = some (.int m) ∧ 0 < m ∧ m ≤ 1000 := by
      have : q = 0 ∨ q = 1 := by omega
      rcases this with rfl | rfl
      · exact ⟨4, rfl, by decide, by decide⟩
      · exact ⟨1000, rfl, by decide, by decide⟩
    obtain ⟨mm, em, m1, m2⟩ := hq
    refine rv_ixL em ?_
    k_subL
    refine call_take rfl rfl m1 fun pr ns4 r1 r2 => ?_
    k_subL
    have hnm : nm.length ≤ 8 := by have := g2; rw [List.length_map] at this; omega
    have hat : ((ps.map (·.nm)).map D.str ++ [D.str nm])[i]? = some (D.str nm) := by
      rw [List.getElem?_append_right (by simp; omega)]
      simp [hl]
    have hat' : atI ((ps.map (·.nm)).map D.str ++ [D.str nm]) (i : Nat) = some (D.str nm) := atI_nat hat
    refine dW.imp (k := fun as' b' O' => as' = [a, pp, tt] ∧ O' = [D.lst (ns4.map D.int), D.lst (ps.map MR.dPart), D.lst ((ps.map (·.nm)).map D.str ++ [D.str nm])] ∧ b' = (decide (pick = nms.length) || (b && decide (MR.trees ps = 2)))) ?_ ?_
    · refine w_or ?_
      k_subL
      refine rc_len (n := nms.length) (List.length_map ..).symm ?_
      refine rv_eq rfl ?_
      refine ⟨_, rfl, ?_⟩
      show if (pick == (nms.length : Int)) = true then _ else _
      rw [show (pick == (nms.length : Int)) = decide (pick = nms.length) from rfl]
      refine i_dec (fun e => ⟨rfl, rfl, by rw [decide_eq_true e]; rfl⟩) fun e => ?_
      refine w_and ?_
      k_subL
      refine ⟨_, rfl, ?_⟩
      cases b with
      | false => exact ⟨rfl, rfl, by rw [decide_eq_false e]; rfl⟩
      | true =>
        rw [if_pos rfl]
        k_subL
        refine rv_eq rfl ?_
        refine ⟨_, rfl, rfl, rfl, ?_⟩
        rw [decide_eq_false e]
        show ((MR.trees ps : Int) == 2) = decide (MR.trees ps = 2)
        rw [Bool.eq_iff_iff, beq_iff_eq, decide_eq_true_eq]
        omega
    · rintro _ c _ ⟨rfl, rfl, rfl⟩
      refine i_bl (fun hb => ?_) fun hb => ?_
      · k_subL
        refine w_append 1 rfl rfl rfl ?_
        refine w_tup ?_
        k_subL
        refine rv_ixO 2 rfl rfl hat' ?_
        k_subL
        refine ⟨small (n := 2) (by decide), _, rfl, rfl, smallt (by rw [List.length_map]; omega), ?_⟩
        refine ⟨ns4, ps ++ [⟨nm, MR.byteS, none⟩], _, _, _, rfl, by rw [MR.trees_app]; rfl, by simp [MR.dPart]; rfl, by simp [hl], hd.snoc (by omega) g1 hnm g3 (.inl ⟨rfl, rfl⟩) fun _ z => by cases z⟩
      · simp only [Bool.or_eq_false_iff, decide_eq_false_iff_not, Bool.and_eq_false_iff] at hb
        obtain ⟨n, en⟩ : ∃ n : Nat, pick = n := ⟨pick.toNat, by omega⟩
        subst en
        have hlt : n < nms.length := by have := hb.1; omega
        have hin : atI (nms.map D.str) (n : Int) = some (.str nms[n]) := atI_nat (by rw [List.getElem?_map, List.getElem?_eq_getElem hlt]; rfl)
        k_subL
        refine w_append 1 rfl rfl rfl ?_
        refine w_tup ?_
        k_subL
        refine rv_ixO 2 rfl rfl hat' ?_
        k_subL
        refine rv_ixL hin ?_
        k_subL
        refine ⟨small (n := 3) (by decide), _, rfl, rfl, smallt (by rw [List.length_map]; omega), ?_⟩
        have few : b = true → (some (1 + pr)).isSome = true → MR.trees ps < 2 := fun e _ => by
          have h2 := hd.few e
          rcases hb.2 with z | z
          · rw [e] at z; cases z
          · omega
        refine ⟨ns4, ps ++ [⟨nm, nms[n], some (1 + pr)⟩], _, _, _, rfl, by rw [MR.trees_app]; rfl, by simp [MR.dPart], by simp [hl], hd.snoc (by omega) g1 hnm g3 (.inr ⟨List.getElem_mem hlt, _, rfl, by omega, by omega⟩) few⟩
  · rintro as ρ O ⟨ns, ps, x7, x8, x9, rfl, rfl, rfl, hl, hd⟩
    refine s_ret (w_let 1 (w_let 1 ?_))
    k_subL
    refine rc_tupL (ds := ps.map MR.dPart) (.inl (lo_o 1 rfl rfl)) ?_
    exact hk ps ns hd
theorem call_parts {K : PySem.W.Frag} {χ : Xk} {L as : List Addr} {ρ : DSt} {O : List D} {k : List Addr → D → List D → Prop} {j : Nat} {a : Addr} {ns : List Int} {s : Int} {nms : List Str} {b : Bool} (ha : as[j]? = some a) (ho : O[j]? = some (.lst (ns.map D.int))) (hn : nms.length ≤ 50)
    (hk : ∀ (ps : List MR.Part) (ns' : List Int), MR.Drawn nms b ps → k as (.tup (ps.map MR.dPart)) (O.set j (.lst (ns'.map D.int)))) : cc (c__law_parts K) χ ρ [j] L as [.adr a, .int s, .lst (nms.map D.str), .bl b] O k := by
  obtain ⟨s1, s2, s3, s4, s5⟩ := sel1 ha ho
  refine ⟨s1, s2, ?_⟩
  rw [s3, s4]
  exact ⟨a, s, nms, b, ns, rfl, rfl, rfl, hn, fun ps ns' h => by
    have := ck1 (O := O) s5 (hk ps ns' h)
    rw [s3] at this
    exact this⟩
def c__law_rows (K : PySem.W.Frag) : Ct := fun L as ds O k e => ∃ (a : Addr) (ns : List Int), as = [a] ∧ ds = [.adr a] ∧ O = [.lst (ns.map D.int)] ∧
  ∀ (nms : List Str) (rows : List MR.Row) (ns' : List Int), MR.Table nms rows → (rows.length ≤ 9 ∧ ∀ r ∈ rows, r.maker.length ≤ 14) → k [a] (.lst (rows.map MR.dRow)) [.lst (ns'.map D.int)]
theorem l__law_rows {K : PySem.W.Frag} : ∀ L as ds O k e, c__law_rows K L as ds O k e → ds.length = 1 := fun L as ds O k e h => by
  obtain ⟨a, ns, _, rfl, _⟩ := h
  rfl
theorem ok__law_rows {P : Program} {w : World} {K : PySem.W.Frag} {mg : Str → Option Value} {base : Heap} (Z : Tx P w K mg) : FnOk P w K mg base (L2.CX P w) 3 (He.ga K "_law_rows") (fdAt K ("_law_rows", none)) ["_law_pool_here"] (spC (c__law_rows K)) := by
  refine FunD.ok (k := 2) (F__law_rows Z) sc__law_rows (sp_len (n := 1) l__law_rows) (fun cdv A outer s H vs Q E hr h => ⟨_, PSs.nox ((pss_cons (ps_set (i := 1) sc__law_rows.nd rfl (Or.inl rfl) (pe_call (ok__law_take Z) (hr.mono (by decide)) (by rfl) (Z.glo 2 rfl) (Z.kp 2 rfl) (b__law_take Z) .nil passN (pa_cons (pv 0) (pa_cons pe_int pa_nil))))
  (pss_cons (ps_set (i := 2) sc__law_rows.nd rfl (Or.inl rfl) (pe_lst pa_nil))
  (pss_cons (ps_for PassesOwn.never rfl (pi_range1 (by rfl) (Z.free 4 rfl) (pa_cons (pe_op op_add pe_int (pe_call (ok__law_take Z) (hr.mono (by decide)) (by rfl) (Z.glo 2 rfl) (Z.kp 2 rfl) (b__law_take Z) .nil passN (pa_cons (pv 0) (pa_cons pe_int pa_nil)))) pa_nil)) (pg_name (i := 3) sc__law_rows.nd rfl (Or.inl rfl))
  (pss_one (ps_expr (pe_bm PySem.F.plainAttrs_list PySem.F.slot_list_append PySem.F.type_list_append mt_append (pv 2) (pa_cons (pe_call (ok__law_name Z) (hr.mono (by decide)) (by rfl) (Z.glo 10 rfl) (Z.kp 6 rfl) (b__law_name Z) .nil passN (pa_cons (pv 1) (pa_cons (pv 3) (pa_cons (pe_op op_cat (pe_lst (pa_cons pe_str pa_nil)) (pv 2)) pa_nil)))) pa_nil)))))
  (pss_cons (ps_set (i := 4) sc__law_rows.nd rfl (Or.inl rfl) (pe_lst pa_nil))
  (pss_cons (ps_for PassesOwn.never rfl (pi_range1 (by rfl) (Z.free 4 rfl) (pa_cons (pe_callB (r := fun xs H Q => ∃ x n, xs = [x] ∧ LenV K x H n ∧ Q (.int n) H) call_len (by rfl) (Z.free 3 rfl) PySem.boot_len (pa_cons (pv 2) pa_nil)) pa_nil)) (pg_name (i := 3) sc__law_rows.nd rfl (Or.inl rfl))
  (pss_cons (ps_set (i := 6) sc__law_rows.nd rfl (Or.inl rfl) (pe_op op_add pe_int (pe_op op_mod (pe_callTy call_int1 (by rfl) (Z.free 8 rfl) PyProof.Rows.boot_int (pa_cons (pe_op op_add pe_int (pe_call (ok__law_take Z) (hr.mono (by decide)) (by rfl) (Z.glo 2 rfl) (Z.kp 2 rfl) (b__law_take Z) .nil passN (pa_cons (pv 0) (pa_cons pe_int pa_nil)))) pa_nil)) pe_int)))
  (pss_cons (ps_set (i := 7) sc__law_rows.nd rfl (Or.inl rfl) (pe_call (ok__law_take Z) (hr.mono (by decide)) (by rfl) (Z.glo 2 rfl) (Z.kp 2 rfl) (b__law_take Z) .nil passN (pa_cons (pv 0) (pa_cons (pv 6) pa_nil))))
  (pss_one (ps_for PassesOwn.never rfl (pi_range1 (by rfl) (Z.free 4 rfl) (pa_cons (pv 6) pa_nil)) (pg_name (i := 8) sc__law_rows.nd rfl (Or.inl rfl))
  (pss_cons (ps_set (i := 9) sc__law_rows.nd rfl (Or.inl rfl) (pe_call (ok__law_name Z) (hr.mono (by decide)) (by rfl) (Z.glo 10 rfl) (Z.kp 6 rfl) (b__law_name Z) .nil passN (pa_cons (pe_op op_fdiv (pv 1) pe_int) (pa_cons (pe_callB (r := fun xs H Q => ∃ x n, xs = [x] ∧ LenV K x H n ∧ Q (.int n) H) call_len (by rfl) (Z.free 3 rfl) PySem.boot_len (pa_cons (pv 4) pa_nil)) (pa_cons (pe_lc rfl sc__law_rows.nd (pi_list (pv 4)) (blkOk_by (own := [("_law_row", 11)]) (N := N__law_rows) (sc := defScope s__law_rows) (by decide +kernel)) (fun _ _ _ _ _ => (pg_name (i := 11) sc__law_rows.nd rfl (by first | exact Or.inl rfl | exact Or.inr rfl))) (fun _ _ _ _ _ => pts_nil) (fun _ _ _ _ _ => (pe_ix (r := rIxT K) ix_tup (pv 11) pe_int (fun _ _ => rfl)))) pa_nil)))))
  (pss_cons (ps_set (i := 10) sc__law_rows.nd rfl (Or.inl rfl) (pv 2))
  (pss_cons (ps_if (pt_cmpR op_eq (pv 8) (pv 7) (nomark _))
  (pss_one (ps_set (i := 10) sc__law_rows.nd rfl (Or.inl rfl) (pe_slice sl_list (pv 2) (po_some (pe_op op_add (pv 3) pe_int)) po_none)))
  pss_nil)
  (pss_one (ps_expr (pe_bm PySem.F.plainAttrs_list PySem.F.slot_list_append PySem.F.type_list_append mt_append (pv 4) (pa_cons (pe_tup (pa_cons (pe_ix (r := rIxL K) ix_list (pv 2) (pv 3) (fun _ _ => rfl)) (pa_cons (pv 9) (pa_cons (pe_call (ok__law_parts Z) (hr.mono (by decide)) (by rfl) (Z.glo 11 rfl) (Z.kp 7 rfl) (b__law_parts Z) .nil passN (pa_cons (pv 0) (pa_cons (pe_op op_add (pe_op op_fdiv (pv 1) pe_int) (pe_op op_fdiv (pe_callB (r := fun xs H Q => ∃ x n, xs = [x] ∧ LenV K x H n ∧ Q (.int n) H) call_len (by rfl) (Z.free 3 rfl) PySem.boot_len (pa_cons (pv 4) pa_nil)) pe_int)) (pa_cons (pv 10) (pa_cons (pe_cmpR op_eq (pv 8) (pv 7) (nomark _)) pa_nil))))) pa_nil)))) pa_nil))))))))))))
  (pss_cons (ps_set (i := 5) sc__law_rows.nd rfl (Or.inl rfl) (pe_call (ok__law_take Z) (hr.mono (by decide)) (by rfl) (Z.glo 2 rfl) (Z.kp 2 rfl) (b__law_take Z) .nil passN (pa_cons (pv 0) (pa_cons (pe_callB (r := fun xs H Q => ∃ x n, xs = [x] ∧ LenV K x H n ∧ Q (.int n) H) call_len (by rfl) (Z.free 3 rfl) PySem.boot_len (pa_cons (pv 4) pa_nil)) pa_nil))))
  (pss_one (ps_ret (pe_op op_cat (pe_slice sl_list (pv 4) (po_some (pv 5)) po_none) (pe_slice sl_list (pv 4) po_none (po_some (pv 5))))))))))))), enter h fun L as ds O k e c => ?_⟩)
  obtain ⟨a, ns, rfl, rfl, rfl, hk⟩ := c
  k_subL
  refine d_call [0] ?_
  k_subL
  refine call_take rfl rfl (by decide) fun sd ns1 s1 s2 => ?_
  refine s_seq (s_set (w_lst (w_nil ⟨Nat.zero_le _, fun nn => ?_⟩)))
  k_subL
  refine s_for (i_range ?_)
  k_subL
  refine d_call [0] ?_
  k_subL
  refine call_take rfl rfl (by decide) fun r ns2 r1 r2 => ?_
  k_subL
  refine ⟨_, rfl, by omega, by omega, fun i as ρ O => ∃ (ns : List Int) (nms : List Str) (x3 : Option D), as = [a, nn] ∧
    ρ = [some (.adr a), some (.int sd), some (.adr nn), x3, none, none, none, none, none, none, none, none] ∧
    O = [.lst (ns.map D.int), .lst (nms.map D.str)] ∧ nms.length = i ∧ MR.Names nms, ⟨ns2, [], none, rfl, rfl, rfl, rfl, ⟨by simp, by simp, by simp⟩⟩, ?_, ?_⟩
  · rintro i as ρ O c hc ⟨ns, nms, x3, rfl, rfl, rfl, hl, hN⟩
    obtain ⟨hi, rfl⟩ := upto_at hc
    have hi : i < 3 := by omega
    k_subL
    refine w_let 2 (w_append 1 rfl rfl rfl ?_)
    refine d_callE ?_
    k_subL
    refine w_lstF ?_
    k_subL
    refine ⟨small (n := 1) (by decide), ?_⟩
    k_subL
    refine rv_cat (ds := [.str MR.byteS]) (es := nms.map D.str) lo_f (lo_o 1 rfl rfl) (small (by simp; omega)) fun p => ?_
    k_subL
    refine call_name (zs := MR.byteS :: nms) (lo_o 2 rfl rfl) (by simp; omega) (by omega) (by omega) fun nm g1 g2 g3 => ?_
    refine ⟨_, rfl, rfl, smallt (by simp; omega), ?_⟩
    have g2 : nm.length ≤ 4 + (nms.length + 1) := g2
    refine ⟨ns, nms ++ [nm], _, rfl, rfl, by simp, by simp [hl], ?_, ?_, ?_⟩
    · rw [List.nodup_append]
      refine ⟨hN.nd, by simp, fun x m y m' z => ?_⟩
      simp at m'
      subst m'; subst z
      exact g3 (List.mem_cons_of_mem _ m)
    · intro z m
      rcases List.mem_append.mp m with m | m
      · exact hN.name z m
      · simp at m; subst m; exact ⟨g1, by omega⟩
    · intro m
      rcases List.mem_append.mp m with m | m
      · exact hN.byte m
      · simp at m; exact g3 (m ▸ List.mem_cons_self)
  · rintro as ρ O ⟨ns, nms, x3, rfl, rfl, rfl, hl, hN⟩
    rw [upto_len] at hl
    have hl1 : 1 ≤ nms.length := by omega
    have hl3 : nms.length ≤ 3 := by omega
    refine s_freeze 1 nn (.lst (nms.map D.str)) 2 rfl rfl rfl ?_
    refine s_seq (s_set (w_lst (w_nil ⟨Nat.zero_le _, fun rr => ?_⟩)))
    k_subL
    refine s_for (i_range ?_)
    k_subL
    refine rc_len (n := nms.length) (List.length_map ..).symm ?_
    k_subL
    refine ⟨_, rfl, by omega, by omega, fun i as ρ O => ∃ (ns : List Int) (rows : List MR.Row) (x3 x6 x7 x8 x9 x10 x11 : Option D), as = [a, rr] ∧
      ρ = [some (.adr a), some (.int sd), some (.lst (nms.map D.str)), x3, some (.adr rr), none, x6, x7, x8, x9, x10, x11] ∧
      O = [.lst (ns.map D.int), .lst (rows.map MR.dRow)] ∧ MR.Some_ nms (3 * i) rows ∧ (∀ k, k < i → MR.Base nms rows k) ∧ (1 ≤ i → rows ≠ []), ⟨ns, [], x3, none, none, none, none, none, none, rfl, rfl, rfl, MR.Some_.nil, fun k z => by omega, fun z => by omega⟩, ?_, ?_⟩
    · rintro i as ρ O c hc ⟨ns, rows, x3, x6, x7, x8, x9, x10, x11, rfl, rfl, rfl, hS, hB, hne⟩
      obtain ⟨hi, rfl⟩ := upto_at hc
      have hi : i < nms.length := by omega
      k_subL
      refine d_call [0] ?_
      k_subL
      refine call_take rfl rfl (by decide) fun r ns1 r1 r2 => ?_
      k_subL
      refine rv_i (by decide) ?_
      have hc : 1 ≤ 1 + (1 + r) % 3 ∧ 1 + (1 + r) % 3 ≤ 3 := by
        have := Int.emod_nonneg (1 + r) (show (3 : Int) ≠ 0 by decide)
        have := Int.emod_lt_of_pos (1 + r) (show (0 : Int) < 3 by decide)
        omega
      generalize hcc : 1 + (1 + r) % 3 = cnt at hc
      k_subL
      rw [hcc]
      refine d_call [0] ?_
      k_subL
      refine call_take rfl rfl (by omega) fun bs ns2 b1 b2 => ?_
      k_subL
      refine s_for (i_range ?_)
      k_subL
      refine ⟨_, rfl, by omega, by omega, fun j as ρ O => ∃ (ns : List Int) (rows : List MR.Row) (x8 x9 x10 x11 : Option D), as = [a, rr] ∧
        ρ = [some (.adr a), some (.int sd), some (.lst (nms.map D.str)), some (.int (i : Nat)), some (.adr rr), none, some (.int cnt), some (.int bs), x8, x9, x10, x11] ∧
        O = [.lst (ns.map D.int), .lst (rows.map MR.dRow)] ∧ MR.Some_ nms (3 * i + j) rows ∧ (∀ k, k < i → MR.Base nms rows k) ∧ (bs < (j : Nat) → MR.Base nms rows i) ∧ (1 ≤ j → rows ≠ []), ⟨ns2, rows, x8, x9, x10, x11, rfl, rfl, rfl, hS, hB, fun z => by omega, fun z => by omega⟩, ?_, ?_⟩
      · rintro j as ρ O c hc' ⟨ns, rows, x8, x9, x10, x11, rfl, rfl, rfl, hS, hB, hb, hne⟩
        obtain ⟨hj, rfl⟩ := upto_at hc'
        have hj : j < cnt.toNat := by simpa using hj
        have hr9 : rows.length ≤ 8 := by have := hS.len; omega
        k_subL
        refine d_callE ?_
        k_subL
        refine rv_i ⟨by decide, by decide⟩ ?_
        k_subL
        refine rc_len (n := rows.length) ⟨1, _, rfl, rfl, (List.length_map ..).symm⟩ ?_
        k_subL
        refine w_lend 1 4 rr (rows.map MR.dRow) rfl rfl rfl (w_known (w_map (wg_name (by decide)) (i_listF (w_var rfl ⟨_, .inr (.inl rfl), rows, MR.dRow, fun r => .str r.maker, rfl, smallt (by omega), fun r m => ?_, fun q => ?_⟩))))
        · exact g_name ⟨rfl, rfl, w_op (w_var rfl (w_int (rv_ixT rfl ⟨rfl, rfl, rfl⟩)))⟩
        refine ⟨q, _, _, _, rfl, rfl, rfl, .lst (czs_of fun d m => ?_), fun c m => ?_, ?_⟩
        · obtain ⟨r, _, rfl⟩ := List.mem_map.mp m
          exact .str _
        · simp at m
          subst m
          exact .lst (czs_of fun d m => by obtain ⟨r, _, rfl⟩ := List.mem_map.mp m; exact .int _)
        k_subL
        refine call_name (zs := rows.map (·.maker)) (.inl (by rw [List.map_map]; rfl)) (by rw [List.length_map]; omega) (by omega) (by omega) fun mk g1 g2 g3 => ?_
        rw [List.length_map] at g2
        refine s_seq (s_set (w_var rfl ?_))
        refine s_mid (N := fun as ρ O => ∃ inn : List Str, as = [a, rr] ∧ ρ = [some (.adr a), some (.int sd), some (.lst (nms.map D.str)), some (.int (i : Nat)), some (.adr rr), none, some (.int cnt), some (.int bs), some (.int (j : Nat)), some (.str mk), some (.lst (inn.map D.str)), x11] ∧
          O = [.lst (ns.map D.int), .lst (rows.map MR.dRow)] ∧ inn.length ≤ 50 ∧ (∀ x ∈ inn, x ∈ nms) ∧ ((j : Int) = bs → inn = nms.drop (i + 1))) ?_ ?_
        · k_subL
          refine rv_eq rfl ?_
          refine ⟨_, rfl, ?_⟩
          show if ((j : Int) == bs) = true then _ else _
          rw [show ((j : Int) == bs) = decide ((j : Int) = bs) from rfl]
          refine i_dec (fun e => ?_) fun e => ?_
          · refine s_set (w_known (w_sl ?_))
            k_subL
            refine o_some ?_
            k_subL
            refine ⟨_, rfl, ?_⟩
            refine o_none (rs_list (ds := nms.map D.str) (.inl lo_f) fun q => ?_)
            refine ⟨q, [a, rr], _, _, rfl, rfl, rfl, ?_⟩
            have ec : DL.cutD (nms.map D.str) (some ((i : Nat) + 1)) none = (nms.drop (i + 1)).map D.str := by
              have e1 : HT.sIx (nms.map D.str).length 0 (some (((i : Nat) : Int) + 1)) = i + 1 := by
                rw [show (((i : Nat) : Int) + 1) = ((i + 1 : Nat) : Int) by omega, HT.sIx_nat, List.length_map]
                omega
              unfold DL.cutD
              rw [e1, HT.sIx_none, ← List.map_drop, List.take_of_length_le (by rw [List.length_map, List.length_drop, List.length_map]; omega)]
            refine ⟨nms.drop (i + 1), rfl, by rw [ec]; rfl, rfl, by rw [List.length_drop]; omega, fun x m => List.mem_of_mem_drop m, fun _ => rfl⟩
          · exact s_next ⟨nms, rfl, rfl, rfl, by omega, fun x m => m, fun z => absurd z e⟩
        · rintro as ρ O ⟨inn, rfl, rfl, rfl, hin, hsub, hbs⟩
          k_subL
          refine w_append 1 rfl rfl rfl ?_
          refine w_tup ?_
          k_subL
          refine rv_ixL (d := .str nms[i]) (atI_nat (by rw [List.getElem?_map, List.getElem?_eq_getElem hi]; rfl)) ?_
          k_subL
          refine d_call [0] ?_
          k_subL
          refine rv_i ⟨by decide, by decide⟩ ?_
          k_subL
          refine rc_len (n := rows.length) ⟨1, _, rfl, rfl, (List.length_map ..).symm⟩ ?_
          k_subL
          refine rv_i ⟨by decide, by decide⟩ ?_
          k_subL
          refine rv_eq rfl ?_
          k_subL
          refine call_parts rfl rfl hin fun ps ns3 hd => ?_
          k_subL
          refine ⟨small (n := 3) (by decide), _, rfl, rfl, smallt (by rw [List.length_map]; omega), ?_⟩
          have nw : MR.Some_ nms (3 * i + j + 1) (rows ++ [⟨nms[i], mk, ps⟩]) := hS.snoc ⟨g1, by show mk.length ≤ 14; omega⟩ g3 (List.getElem_mem hi) ⟨_, hd.wide hsub⟩
          refine ⟨ns3, rows ++ [⟨nms[i], mk, ps⟩], _, _, _, _, rfl, rfl, by simp [MR.dRow], nw, fun k hk => (hB k hk).more _, fun z => ?_, fun _ => by simp⟩
          by_cases e : bs < (j : Nat)
          · exact (hb e).more _
          · refine ⟨_, List.mem_append_right _ (List.mem_singleton_self _), List.getElem?_eq_getElem hi, fun p m => ?_⟩
            rcases hd.ok p m with ⟨e1, _⟩ | ⟨e1, _⟩
            · exact .inl e1
            · exact .inr (hbs (by omega) ▸ e1)
      · rintro as ρ O ⟨ns, rows, x8, x9, x10, x11, rfl, rfl, rfl, hS, hB, hb, hne⟩
        rw [upto_len] at hS hb hne
        refine ⟨ns, rows, _, _, _, _, _, _, _, rfl, rfl, rfl, hS.le (by omega), fun k hk => ?_, fun _ => hne (by omega)⟩
        by_cases e : k < i
        · exact hB k e
        · have : k = i := by omega
          subst this
          exact hb (by omega)
    · rintro as ρ O ⟨ns, rows, x3, x6, x7, x8, x9, x10, x11, rfl, rfl, rfl, hS, hB, hne⟩
      rw [upto_len] at hS hB hne
      have en : ((nms.length : Nat) : Int).toNat = nms.length := by omega
      rw [en] at hS hB hne
      have hr : 1 ≤ rows.length := by
        have := hne hl1
        cases rows with
        | nil => exact absurd rfl this
        | cons x y => show 1 ≤ y.length + 1; omega
      have hr9 : rows.length ≤ 9 := by have := hS.len; omega
      refine s_freeze 1 rr (.lst (rows.map MR.dRow)) 4 rfl rfl rfl ?_
      k_subL
      refine d_call [0] ?_
      k_subL
      refine rc_len (n := rows.length) (List.length_map ..).symm ?_
      k_subL
      refine call_take rfl rfl (by omega) fun tn ns1 t1 t2 => ?_
      obtain ⟨n, en⟩ : ∃ n : Nat, tn = n := ⟨tn.toNat, by omega⟩
      subst en
      refine s_ret (w_let 1 (w_let 1 (w_known (w_op (w_sl ?_)))))
      refine w_var rfl (o_some (w_var rfl ⟨_, rfl, o_none ?_⟩))
      refine rs_list (ds := rows.map MR.dRow) (.inl lo_f) fun p => w_sl ?_
      refine w_var rfl (o_none (o_some (w_var rfl ⟨_, rfl, ?_⟩)))
      refine rs_list (ds := rows.map MR.dRow) (.inl lo_f) fun q => ?_
      refine rv_cat (lo_o 1 rfl rfl) (lo_o 2 rfl rfl) (small ?_) fun s => ⟨s, [a, p, q], _, _, rfl, rfl, rfl, ?_⟩
      · have := cut_len (rows.map MR.dRow) (some ((n : Nat) : Int)) none
        have := cut_len (rows.map MR.dRow) none (some ((n : Nat) : Int))
        simp at *
        omega
      have e1 : DL.cutD (rows.map MR.dRow) (some ((n : Nat) : Int)) none ++ DL.cutD (rows.map MR.dRow) none (some ((n : Nat) : Int)) = (rows.drop n ++ rows.take n).map MR.dRow := by
        have hn : n ≤ rows.length := by omega
        unfold DL.cutD
        rw [HT.sIx_nat, HT.sIx_nat, HT.sIx_none, HT.sIx_none, List.length_map, Nat.min_eq_left hn, List.map_append, ← List.map_drop, List.take_of_length_le (by rw [List.length_map, List.length_drop]; omega), List.drop_zero, Nat.sub_zero, ← List.map_take]
      rw [e1]
      have hpm : (rows.drop n ++ rows.take n).Perm rows := (List.perm_append_comm).trans (by rw [List.take_append_drop])
      exact hk nms _ ns1 (MR.Table.perm (rows := rows) ⟨hN, hl3, hne hl1, hS.x (by omega), hB⟩ hpm) ⟨by rw [hpm.length_eq]; omega, fun r m => (hS.maker r (hpm.mem_iff.mp m)).2⟩
def c__law_spoilt (K : PySem.W.Frag) : Ct := fun L as ds O k e => ∃ (a : Addr) (ns : List Int) (nms : List Str) (rows : List MR.Row) (i : Nat) (way : Int), L = [] ∧ as = [a] ∧ ds = [.adr a, .lst (rows.map MR.dRow), .int (i : Nat), .int way] ∧ O = [.lst (ns.map D.int)] ∧ MR.Table nms rows ∧ i < rows.length ∧ 0 ≤ way ∧ way < 12 ∧
  ∀ (x : MR.Row) (ns' : List Int), MB.SpRow rows i way x → k [a] (MR.dRow x) [.lst (ns'.map D.int)]
theorem l__law_spoilt {K : PySem.W.Frag} : ∀ L as ds O k e, c__law_spoilt K L as ds O k e → ds.length = 4 := fun L as ds O k e h => by
  obtain ⟨a, ns, nms, rows, i, way, _, _, rfl, _⟩ := h
  rfl
theorem small_of {kind maker : Str} {ps : List MR.Part} (h1 : kind.length ≤ 100) (h2 : maker.length ≤ 100) (h3 : ps.length ≤ 5) (h : ∀ p ∈ ps, p.nm.length ≤ 100 ∧ p.inn.length ≤ 100) : MB.SmallR ⟨kind, maker, ps⟩ := ⟨h1, h2, h3, h⟩
theorem inn1 {p : MR.Part} (h : p.nm.length ≤ 100 ∧ p.inn.length ≤ 100) : ∀ q ∈ [p], q.nm.length ≤ 100 ∧ q.inn.length ≤ 100 := fun q m => by rw [List.mem_singleton.mp m]; exact h
theorem inn2 {p : MR.Part} {ps : List MR.Part} (h : p.nm.length ≤ 100 ∧ p.inn.length ≤ 100) (h2 : ∀ q ∈ ps, q.nm.length ≤ 100 ∧ q.inn.length ≤ 100) : ∀ q ∈ p :: ps, q.nm.length ≤ 100 ∧ q.inn.length ≤ 100 := fun q m => by
  rcases List.mem_cons.mp m with m | m
  · rw [m]; exact h
  · exact h2 q m
theorem ok__law_spoilt {P : Program} {w : World} {K : PySem.W.Frag} {mg : Str → Option Value} {base : Heap} (Z : Tx P w K mg) : FnOk P w K mg base (L2.CX P w) 2 (He.ga K "_law_spoilt") (fdAt K ("_law_spoilt", none)) ["_law_pool_here", "_law_rows_here", "_law_at", "_law_way"] (spC (c__law_spoilt K)) := by
  refine FunD.ok (k := 1) (F__law_spoilt Z) sc__law_spoilt (sp_len (n := 4) l__law_spoilt) (fun cdv A outer s H vs Q E hr h => ⟨_, PSs.nox ((pss_cons (ps_set (i := 4) sc__law_spoilt.nd rfl (Or.inl rfl) (pe_ix (r := rIxT K) ix_tup (pe_ix (r := rIxL K) ix_list (pv 1) (pv 2) (fun _ _ => rfl)) pe_int (fun _ _ => rfl)))
  (pss_cons (ps_set (i := 5) sc__law_spoilt.nd rfl (Or.inl rfl) (pe_ix (r := rIxT K) ix_tup (pe_ix (r := rIxL K) ix_list (pv 1) (pv 2) (fun _ _ => rfl)) pe_int (fun _ _ => rfl)))
  (pss_cons (ps_set (i := 6) sc__law_spoilt.nd rfl (Or.inl rfl) (pe_ix (r := rIxL K) ix_list (pe_lst (pa_cons pe_str (pa_cons pe_str (pa_cons pe_str (pa_cons pe_str (pa_cons pe_str (pa_cons pe_str (pa_cons (pe_op op_repS pe_str pe_int) (pa_cons pe_str pa_nil))))))))) (pe_call (ok__law_take Z) (hr.mono (by decide)) (by rfl) (Z.glo 2 rfl) (Z.kp 2 rfl) (b__law_take Z) .nil passN (pa_cons (pv 0) (pa_cons pe_int pa_nil))) (fun _ _ => rfl)))
  (pss_cons (ps_set (i := 7) sc__law_spoilt.nd rfl (Or.inl rfl) (pe_ix (r := rIxL K) ix_list (pe_lst (pa_cons pe_int (pa_cons pe_int (pa_cons (pe_op op_sub (pe_un un_neg pe_int) (pe_call (ok__law_take Z) (hr.mono (by decide)) (by rfl) (Z.glo 2 rfl) (Z.kp 2 rfl) (b__law_take Z) .nil passN (pa_cons (pv 0) (pa_cons pe_int pa_nil)))) pa_nil)))) (pe_call (ok__law_take Z) (hr.mono (by decide)) (by rfl) (Z.glo 2 rfl) (Z.kp 2 rfl) (b__law_take Z) .nil passN (pa_cons (pv 0) (pa_cons pe_int pa_nil))) (fun _ _ => rfl)))
  (pss_cons (ps_if (pt_cmpR op_eq (pv 3) pe_int (nomark _))
  (pss_one (ps_ret (pe_tup (pa_cons (pv 6) (pa_cons (pv 5) (pa_cons (pe_tup pa_nil) pa_nil))))))
  pss_nil)
  (pss_cons (ps_if (pt_cmpR op_eq (pv 3) pe_int (nomark _))
  (pss_one (ps_ret (pe_tup (pa_cons pe_str (pa_cons (pv 5) (pa_cons (pe_ix (r := rIxT K) ix_tup (pe_ix (r := rIxL K) ix_list (pv 1) (pv 2) (fun _ _ => rfl)) pe_int (fun _ _ => rfl)) pa_nil))))))
  pss_nil)
  (pss_cons (ps_if (PW.pt (pw_or (pt_cmpR op_eq (pv 3) pe_int (nomark _)) (pw_or1 (PW.pt (pw_and (pt_cmpR op_eq (pv 3) pe_int (nomark _)) (pw_and1 (pt_cmpR op_eq (pv 2) pe_int (nomark _))))))))
  (pss_one (ps_ret (pe_tup (pa_cons (pv 4) (pa_cons (pv 6) (pa_cons (pe_ix (r := rIxT K) ix_tup (pe_ix (r := rIxL K) ix_list (pv 1) (pv 2) (fun _ _ => rfl)) pe_int (fun _ _ => rfl)) pa_nil))))))
  pss_nil)
  (pss_cons (ps_if (pt_cmpR op_eq (pv 3) pe_int (nomark _))
  (pss_one (ps_ret (pe_tup (pa_cons (pv 4) (pa_cons (pe_ix (r := rIxT K) ix_tup (pe_ix (r := rIxL K) ix_list (pv 1) (pe_call (ok__law_take Z) (hr.mono (by decide)) (by rfl) (Z.glo 2 rfl) (Z.kp 2 rfl) (b__law_take Z) .nil passN (pa_cons (pv 0) (pa_cons (pv 2) pa_nil))) (fun _ _ => rfl)) pe_int (fun _ _ => rfl)) (pa_cons (pe_tup pa_nil) pa_nil))))))
  pss_nil)
  (pss_cons (ps_if (pt_cmpR op_eq (pv 3) pe_int (nomark _))
  (pss_one (ps_ret (pe_tup (pa_cons (pv 4) (pa_cons (pv 5) (pa_cons (pe_tup (pa_cons (pe_tup (pa_cons pe_str (pa_cons pe_str pa_nil))) (pa_cons (pe_tup (pa_cons pe_str (pa_cons pe_str pa_nil))) (pa_cons (pe_tup (pa_cons pe_str (pa_cons pe_str pa_nil))) (pa_cons (pe_tup (pa_cons pe_str (pa_cons pe_str pa_nil))) (pa_cons (pe_tup (pa_cons pe_str (pa_cons pe_str pa_nil))) pa_nil)))))) pa_nil))))))
  pss_nil)
  (pss_cons (ps_if (pt_cmpR op_eq (pv 3) pe_int (nomark _))
  (pss_one (ps_ret (pe_tup (pa_cons (pv 4) (pa_cons (pv 5) (pa_cons (pe_tup (pa_cons (pe_tup (pa_cons pe_str (pa_cons pe_str pa_nil))) (pa_cons (pe_tup (pa_cons pe_str (pa_cons (pv 4) (pa_cons pe_int pa_nil)))) (pa_cons (pe_tup (pa_cons pe_str (pa_cons (pv 4) (pa_cons pe_int pa_nil)))) pa_nil)))) pa_nil))))))
  pss_nil)
  (pss_cons (ps_if (pt_cmpR op_eq (pv 3) pe_int (nomark _))
  (pss_one (ps_ret (pe_tup (pa_cons (pv 4) (pa_cons (pv 5) (pa_cons (pe_tup (pa_cons (pe_tup (pa_cons pe_str (pa_cons pe_str pa_nil))) (pa_cons (pe_tup (pa_cons (pv 6) (pa_cons pe_str pa_nil))) pa_nil))) pa_nil))))))
  pss_nil)
  (pss_cons (ps_if (pt_cmpR op_eq (pv 3) pe_int (nomark _))
  (pss_one (ps_ret (pe_tup (pa_cons (pv 4) (pa_cons (pv 5) (pa_cons (pe_tup (pa_cons (pe_tup (pa_cons pe_str (pa_cons pe_str (pa_cons pe_int pa_nil)))) pa_nil)) pa_nil))))))
  pss_nil)
  (pss_cons (ps_if (pt_cmpR op_eq (pv 3) pe_int (nomark _))
  (pss_one (ps_ret (pe_tup (pa_cons (pv 4) (pa_cons (pv 5) (pa_cons (pe_tup (pa_cons (pe_tup (pa_cons pe_str (pa_cons (pv 4) pa_nil))) pa_nil)) pa_nil))))))
  pss_nil)
  (pss_cons (ps_if (pt_cmpR op_eq (pv 3) pe_int (nomark _))
  (pss_one (ps_ret (pe_tup (pa_cons (pv 4) (pa_cons (pv 5) (pa_cons (pe_tup (pa_cons (pe_tup (pa_cons pe_str (pa_cons pe_str pa_nil))) (pa_cons (pe_tup (pa_cons pe_str (pa_cons (pv 4) (pa_cons (pv 7) pa_nil)))) pa_nil))) pa_nil))))))
  pss_nil)
  (pss_cons (ps_if (pt_cmpR op_eq (pv 3) pe_int (nomark _))
  (pss_one (ps_ret (pe_tup (pa_cons (pv 4) (pa_cons (pv 5) (pa_cons (pe_tup (pa_cons (pe_tup (pa_cons pe_str (pa_cons (pv 6) (pa_cons pe_int pa_nil)))) pa_nil)) pa_nil))))))
  pss_nil)
  (pss_one (ps_ret (pe_tup (pa_cons (pv 4) (pa_cons (pv 5) (pa_cons (pe_tup (pa_cons (pe_tup (pa_cons pe_str (pa_cons (pe_op op_repS pe_str pe_int) (pa_cons pe_int pa_nil)))) pa_nil)) pa_nil)))))))))))))))))))))), enter h fun L as ds O k e c => ?_⟩)
  obtain ⟨a, ns, nms, rows, i, way, rfl, rfl, rfl, rfl, hT, hi, hw0, hw12, hk⟩ := c
  obtain ⟨r, hr⟩ : ∃ r, rows[i]? = some r := ⟨_, List.getElem?_eq_getElem hi⟩
  have mr : r ∈ rows := List.mem_of_getElem? hr
  have hat : ∀ {j : Nat} {q : MR.Row}, rows[j]? = some q → atI (rows.map MR.dRow) (j : Nat) = some (MR.dRow q) := fun h => atI_nat (by rw [List.getElem?_map, h]; rfl)
  obtain ⟨s1, s2, s3, s4⟩ := MB.table_small hT mr
  have hbk : r.kind ≠ MR.byteS := fun e => hT.names.byte (e ▸ hT.some.kind r mr)
  refine s_seq (s_set (w_op (w_op (w_var rfl (w_var rfl (rv_ixL (hat hr) (w_int (rv_ixT (d := .str r.kind) rfl ?_))))))))
  refine s_seq (s_set (w_op (w_op (w_var rfl (w_var rfl (rv_ixL (hat hr) (w_int (rv_ixT (d := .str r.maker) rfl ?_))))))))
  refine s_seq (s_set (w_op (w_lstF (w_cons (w_str (w_cons (w_str (w_cons (w_str (w_cons (w_str (w_cons (w_str (w_cons (w_str (w_cons (w_op (w_str (w_int (rv_repS (c := 98) (n := 25) (by decide) (by decide) (w_cons (w_str (w_nil ⟨show 8 ≤ sizeLine by decide, d_call [0] (w_cons (w_var rfl (w_cons (w_int (w_nil (call_take rfl rfl (by decide) fun v ns1 v0 v8 => ?_))))))⟩)))))))))))))))))))))))
  obtain ⟨bad, hv, hbn, hbl⟩ := MB.bad_nm v0 v8
  refine rv_ixL (show atI [D.str "", .str "1a", .str "a b", .str "a.b", .str "a_b", .str "+a", .str MB.b25, .str "a\n"] v = some (.str bad) from hv) ?_
  refine s_seq (s_set (w_op (w_lstF (w_cons (w_int (w_cons (w_int (w_cons (w_op (w_un (w_int (ru_negO (d_call [0] (w_cons (w_var rfl (w_cons (w_int (w_nil (call_take rfl rfl (by decide) fun t ns2 t0 t1 => rv_i0 ?_)))))))))))))))))))
  refine w_nil ⟨show 3 ≤ sizeLine by decide, d_call [0] (w_cons (w_var rfl (w_cons (w_int (w_nil (call_take rfl rfl (by decide) fun u ns3 u0 u3 => ?_))))))⟩
  obtain ⟨pr, hpr, hpo⟩ : ∃ pr : Int, atI [D.int 0, .int 1001, .int (-1 - t)] u = some (.int pr) ∧ (decide (1 ≤ pr) && decide (pr ≤ 1000)) = false := by
    have hu : u = 0 ∨ u = 1 ∨ u = 2 := by omega
    rcases hu with rfl | rfl | rfl
    · exact ⟨0, rfl, rfl⟩
    · exact ⟨1001, rfl, rfl⟩
    · exact ⟨-1 - t, rfl, by rw [decide_eq_false (show ¬ (1 : Int) ≤ -1 - t by omega), Bool.false_and]⟩
  refine rv_ixL hpr ?_
  have l100 : bad.length ≤ 100 := by omega
  refine s_eq (as' := [a]) (ρ' := [some (.adr a), some (.lst (rows.map MR.dRow)), some (.int (i : Nat)), some (.int way), some (.str r.kind), some (.str r.maker), some (.str bad), some (.int pr)]) (O' := [.lst (ns3.map D.int)]) rfl rfl rfl ?_
  have hlen : rows.length ≤ 10 := hT.some.len
  refine s_seq (s_if (w_test (w_op (w_var rfl (w_int (rv_eq rfl ⟨_, rfl, i_bl (fun h => ?_) fun h0 => s_next ?_⟩))))))
  · have h : (way == 0) = true := h
    rw [beq_iff_eq] at h
    subst h
    exact s_ret (w_tup (w_cons (w_var rfl (w_cons (w_var rfl (w_cons (w_tup (w_nil ⟨show 0 ≤ sizeLine by decide, w_nil ⟨show 3 ≤ sizeLine by decide, hk ⟨bad, r.maker, []⟩ ns3 (MB.sp_any (small_of l100 s2 (by decide) fun p m => by cases m) (MB.new_kind hbn) (by decide))⟩⟩))))))))
  refine s_seq (s_if (w_test (w_op (w_var rfl (w_int (rv_eq rfl ⟨_, rfl, i_bl (fun h => ?_) fun h1 => s_next ?_⟩))))))
  · have h : (way == 1) = true := h
    rw [beq_iff_eq] at h
    subst h
    exact s_ret (w_tup (w_cons (w_str (w_cons (w_var rfl (w_cons (w_op (w_op (w_var rfl (w_var rfl (rv_ixL (hat hr) (w_int (rv_ixT (d := .tup (r.parts.map MR.dPart)) rfl (w_nil ⟨show 3 ≤ sizeLine by decide, hk ⟨MR.byteS, r.maker, r.parts⟩ ns3 (MB.sp_any (small_of (by decide) s2 s3 s4) (MB.new_byte) (by decide))⟩))))))))))))))
  refine s_seq (s_if (w_or (w_test (w_op (w_var rfl (w_int (rv_eq rfl ⟨_, rfl, i_bl (fun h => ?_) fun h2 => ?_⟩)))))))
  · have h : (way == 2) = true := h
    rw [beq_iff_eq] at h
    subst h
    exact s_ret (w_tup (w_cons (w_var rfl (w_cons (w_var rfl (w_cons (w_op (w_op (w_var rfl (w_var rfl (rv_ixL (hat hr) (w_int (rv_ixT (d := .tup (r.parts.map MR.dPart)) rfl (w_nil ⟨show 3 ≤ sizeLine by decide, hk ⟨r.kind, bad, r.parts⟩ ns3 (MB.sp_any (small_of s1 l100 s3 s4) (MB.new_maker hbn) (by decide))⟩))))))))))))))
  by_cases h33 : way = 3
  · subst h33
    refine w_and (w_test (w_op (w_var rfl (w_int (rv_eq rfl ⟨_, rfl, i_T rfl ?_⟩)))))
    refine w_test (w_op (w_var rfl (w_int (rv_eq rfl ⟨_, rfl, ?_⟩))))
    show if (((i : Nat) : Int) == 0) = true then _ else _
    refine i_bl (fun h => ?_) fun h => ?_
    · exact s_ret (w_tup (w_cons (w_var rfl (w_cons (w_var rfl (w_cons (w_op (w_op (w_var rfl (w_var rfl (rv_ixL (hat hr) (w_int (rv_ixT (d := .tup (r.parts.map MR.dPart)) rfl (w_nil ⟨show 3 ≤ sizeLine by decide, hk ⟨r.kind, bad, r.parts⟩ ns3 (⟨small_of s1 l100 s3 s4, fun _ => MB.new_maker hbn _, fun _ e => absurd rfl e, fun e => by cases e⟩)⟩))))))))))))))
    · have h : i ≠ 0 := fun e => by rw [e] at h; cases h
      refine s_next (s_seq (s_if (w_test (w_op (w_var rfl (w_int (rv_eq rfl ⟨_, rfl, i_T rfl ?_⟩)))))))
      refine s_ret (w_tup (w_cons (w_var rfl (w_cons (w_op (w_op (w_var rfl (d_call [0] (w_cons (w_var rfl (w_cons (w_var rfl (w_nil (call_take rfl rfl (by omega) fun y ns4 y0 y1 => ?_))))))))))))))
      obtain ⟨q, hq⟩ : ∃ q, rows[y.toNat]? = some q := ⟨_, List.getElem?_eq_getElem (by omega)⟩
      have hy := hat hq
      rw [Int.toNat_of_nonneg y0] at hy
      refine rv_ixL hy (w_int (rv_ixT (d := .str q.maker) rfl (w_cons (w_tup (w_nil ⟨Nat.zero_le _, w_nil ⟨show 3 ≤ sizeLine by decide, hk ⟨r.kind, q.maker, []⟩ ns4 ⟨small_of s1 (MB.table_small hT (List.mem_of_getElem? hq)).2.1 (by decide) (fun p m => by cases m), fun _ => MB.new_taken ?_, fun _ e => absurd rfl e, fun e => by cases e⟩⟩⟩)))))
      refine List.mem_map.mpr ⟨q, List.mem_of_getElem? (i := y.toNat) ?_, rfl⟩
      rw [List.getElem?_take_of_lt (by omega), hq]
  have f3 : (way == 3) = false := beq_eq_false_iff_ne.mpr h33
  refine w_and (w_test (w_op (w_var rfl (w_int (rv_eq rfl ⟨_, rfl, i_F f3 (s_next ?_)⟩)))))
  refine s_seq (s_if (w_test (w_op (w_var rfl (w_int (rv_eq rfl ⟨_, rfl, i_F f3 (s_next ?_)⟩))))))
  refine s_seq (s_if (w_test (w_op (w_var rfl (w_int (rv_eq rfl ⟨_, rfl, i_bl (fun h => ?_) fun h4 => s_next ?_⟩))))))
  · have h : (way == 4) = true := h
    rw [beq_iff_eq] at h
    subst h
    exact s_ret (w_tup (w_cons (w_var rfl (w_cons (w_var rfl (w_cons (w_tup (w_cons (w_tup (w_cons (w_str (w_cons (w_str (w_nil ⟨show 2 ≤ sizeLine by decide, w_cons (w_tup (w_cons (w_str (w_cons (w_str (w_nil ⟨show 2 ≤ sizeLine by decide, w_cons (w_tup (w_cons (w_str (w_cons (w_str (w_nil ⟨show 2 ≤ sizeLine by decide, w_cons (w_tup (w_cons (w_str (w_cons (w_str (w_nil ⟨show 2 ≤ sizeLine by decide, w_cons (w_tup (w_cons (w_str (w_cons (w_str (w_nil ⟨show 2 ≤ sizeLine by decide, w_nil ⟨show 5 ≤ sizeLine by decide, w_nil ⟨show 3 ≤ sizeLine by decide, hk ⟨r.kind, r.maker, [⟨"a", MR.byteS, none⟩, ⟨"b", MR.byteS, none⟩, ⟨"c", MR.byteS, none⟩, ⟨"d", MR.byteS, none⟩, ⟨"e", MR.byteS, none⟩]⟩ ns3 (MB.sp_any (small_of s1 s2 (show 5 ≤ 5 by decide) (inn2 ⟨(show ("a" : Str).length ≤ 100 by decide), (show MR.byteS.length ≤ 100 by decide)⟩ (inn2 ⟨(show ("a" : Str).length ≤ 100 by decide), (show MR.byteS.length ≤ 100 by decide)⟩ (inn2 ⟨(show ("a" : Str).length ≤ 100 by decide), (show MR.byteS.length ≤ 100 by decide)⟩ (inn2 ⟨(show ("a" : Str).length ≤ 100 by decide), (show MR.byteS.length ≤ 100 by decide)⟩ (inn1 ⟨(show ("a" : Str).length ≤ 100 by decide), (show MR.byteS.length ≤ 100 by decide)⟩)))))) (MB.new_parts5 (by show 4 < 5; decide)) (by decide))⟩⟩⟩))))))⟩))))))⟩))))))⟩))))))⟩))))))))))))))
  refine s_seq (s_if (w_test (w_op (w_var rfl (w_int (rv_eq rfl ⟨_, rfl, i_bl (fun h => ?_) fun h5 => s_next ?_⟩))))))
  · have h : (way == 5) = true := h
    rw [beq_iff_eq] at h
    subst h
    exact s_ret (w_tup (w_cons (w_var rfl (w_cons (w_var rfl (w_cons (w_tup (w_cons (w_tup (w_cons (w_str (w_cons (w_str (w_nil ⟨show 2 ≤ sizeLine by decide, w_cons (w_tup (w_cons (w_str (w_cons (w_var rfl (w_cons (w_int (w_nil ⟨show 3 ≤ sizeLine by decide, w_cons (w_tup (w_cons (w_str (w_cons (w_var rfl (w_cons (w_int (w_nil ⟨show 3 ≤ sizeLine by decide, w_nil ⟨show 3 ≤ sizeLine by decide, w_nil ⟨show 3 ≤ sizeLine by decide, hk ⟨r.kind, r.maker, [⟨"a", MR.byteS, none⟩, ⟨"b", r.kind, some 2⟩, ⟨"a", r.kind, some 1⟩]⟩ ns3 (MB.sp_any (small_of s1 s2 (show 3 ≤ 5 by decide) (inn2 ⟨(show ("a" : Str).length ≤ 100 by decide), (show MR.byteS.length ≤ 100 by decide)⟩ (inn2 ⟨(show ("a" : Str).length ≤ 100 by decide), s1⟩ (inn1 ⟨(show ("a" : Str).length ≤ 100 by decide), s1⟩)))) (MB.new_dup (by show ¬ (["a", "b", "a"] : List Str).Nodup; decide +kernel)) (by decide))⟩⟩⟩))))))))⟩))))))))⟩))))))))))))))
  refine s_seq (s_if (w_test (w_op (w_var rfl (w_int (rv_eq rfl ⟨_, rfl, i_bl (fun h => ?_) fun h6 => s_next ?_⟩))))))
  · have h : (way == 6) = true := h
    rw [beq_iff_eq] at h
    subst h
    exact s_ret (w_tup (w_cons (w_var rfl (w_cons (w_var rfl (w_cons (w_tup (w_cons (w_tup (w_cons (w_str (w_cons (w_str (w_nil ⟨show 2 ≤ sizeLine by decide, w_cons (w_tup (w_cons (w_var rfl (w_cons (w_str (w_nil ⟨show 2 ≤ sizeLine by decide, w_nil ⟨show 2 ≤ sizeLine by decide, w_nil ⟨show 3 ≤ sizeLine by decide, hk ⟨r.kind, r.maker, [⟨"a", MR.byteS, none⟩, ⟨bad, MR.byteS, none⟩]⟩ ns3 (MB.sp_any (small_of s1 s2 (show 2 ≤ 5 by decide) (inn2 ⟨(show ("a" : Str).length ≤ 100 by decide), (show MR.byteS.length ≤ 100 by decide)⟩ (inn1 ⟨l100, (show MR.byteS.length ≤ 100 by decide)⟩))) (MB.new_partF (p := ⟨bad, MR.byteS, none⟩) (List.mem_cons_of_mem _ List.mem_cons_self) (by unfold MB.partB; rw [hbn, Bool.false_and])) (by decide))⟩⟩⟩))))))⟩))))))))))))))
  refine s_seq (s_if (w_test (w_op (w_var rfl (w_int (rv_eq rfl ⟨_, rfl, i_bl (fun h => ?_) fun h7 => s_next ?_⟩))))))
  · have h : (way == 7) = true := h
    rw [beq_iff_eq] at h
    subst h
    exact s_ret (w_tup (w_cons (w_var rfl (w_cons (w_var rfl (w_cons (w_tup (w_cons (w_tup (w_cons (w_str (w_cons (w_str (w_cons (w_int (w_nil ⟨show 3 ≤ sizeLine by decide, w_nil ⟨show 1 ≤ sizeLine by decide, w_nil ⟨show 3 ≤ sizeLine by decide, hk ⟨r.kind, r.maker, [⟨"a", MR.byteS, some 3⟩]⟩ ns3 (MB.sp_any (small_of s1 s2 (show 1 ≤ 5 by decide) (inn1 ⟨(show ("a" : Str).length ≤ 100 by decide), (show MR.byteS.length ≤ 100 by decide)⟩)) (MB.new_partF (p := ⟨"a", MR.byteS, some 3⟩) List.mem_cons_self (by decide +kernel)) (by decide))⟩⟩⟩))))))))))))))))
  refine s_seq (s_if (w_test (w_op (w_var rfl (w_int (rv_eq rfl ⟨_, rfl, i_bl (fun h => ?_) fun h8 => s_next ?_⟩))))))
  · have h : (way == 8) = true := h
    rw [beq_iff_eq] at h
    subst h
    exact s_ret (w_tup (w_cons (w_var rfl (w_cons (w_var rfl (w_cons (w_tup (w_cons (w_tup (w_cons (w_str (w_cons (w_var rfl (w_nil ⟨show 2 ≤ sizeLine by decide, w_nil ⟨show 1 ≤ sizeLine by decide, w_nil ⟨show 3 ≤ sizeLine by decide, hk ⟨r.kind, r.maker, [⟨"a", r.kind, none⟩]⟩ ns3 (MB.sp_any (small_of s1 s2 (show 1 ≤ 5 by decide) (inn1 ⟨(show ("a" : Str).length ≤ 100 by decide), s1⟩)) (MB.new_partF (p := ⟨"a", r.kind, none⟩) List.mem_cons_self (by show (MN.isName "a" && (r.kind == MR.byteS)) = false; rw [beq_eq_false_iff_ne.mpr hbk, Bool.and_false])) (by decide))⟩⟩⟩))))))))))))))
  refine s_seq (s_if (w_test (w_op (w_var rfl (w_int (rv_eq rfl ⟨_, rfl, i_bl (fun h => ?_) fun h9 => s_next ?_⟩))))))
  · have h : (way == 9) = true := h
    rw [beq_iff_eq] at h
    subst h
    exact s_ret (w_tup (w_cons (w_var rfl (w_cons (w_var rfl (w_cons (w_tup (w_cons (w_tup (w_cons (w_str (w_cons (w_str (w_nil ⟨show 2 ≤ sizeLine by decide, w_cons (w_tup (w_cons (w_str (w_cons (w_var rfl (w_cons (w_var rfl (w_nil ⟨show 3 ≤ sizeLine by decide, w_nil ⟨show 2 ≤ sizeLine by decide, w_nil ⟨show 3 ≤ sizeLine by decide, hk ⟨r.kind, r.maker, [⟨"a", MR.byteS, none⟩, ⟨"b", r.kind, some pr⟩]⟩ ns3 (MB.sp_any (small_of s1 s2 (show 2 ≤ 5 by decide) (inn2 ⟨(show ("a" : Str).length ≤ 100 by decide), (show MR.byteS.length ≤ 100 by decide)⟩ (inn1 ⟨(show ("a" : Str).length ≤ 100 by decide), s1⟩))) (MB.new_partF (p := ⟨"b", r.kind, some pr⟩) (List.mem_cons_of_mem _ List.mem_cons_self) (by show (MN.isName "b" && (MN.isName r.kind && (!(r.kind == MR.byteS) && (decide (1 ≤ pr) && decide (pr ≤ 1000))))) = false; rw [hpo, Bool.and_false, Bool.and_false, Bool.and_false])) (by decide))⟩⟩⟩))))))))⟩))))))))))))))
  refine s_seq (s_if (w_test (w_op (w_var rfl (w_int (rv_eq rfl ⟨_, rfl, i_bl (fun h => ?_) fun h10 => s_next ?_⟩))))))
  · have h : (way == 10) = true := h
    rw [beq_iff_eq] at h
    subst h
    exact s_ret (w_tup (w_cons (w_var rfl (w_cons (w_var rfl (w_cons (w_tup (w_cons (w_tup (w_cons (w_str (w_cons (w_var rfl (w_cons (w_int (w_nil ⟨show 3 ≤ sizeLine by decide, w_nil ⟨show 1 ≤ sizeLine by decide, w_nil ⟨show 3 ≤ sizeLine by decide, hk ⟨r.kind, r.maker, [⟨"a", bad, some 3⟩]⟩ ns3 (MB.sp_any (small_of s1 s2 (show 1 ≤ 5 by decide) (inn1 ⟨(show ("a" : Str).length ≤ 100 by decide), l100⟩)) (MB.new_partF (p := ⟨"a", bad, some 3⟩) List.mem_cons_self (by show (MN.isName "a" && (MN.isName bad && _)) = false; rw [hbn, Bool.false_and, Bool.and_false])) (by decide))⟩⟩⟩))))))))))))))))
  have g : ∀ n : Int, (way == n) = false → way ≠ n := fun n e z => by rw [z, beq_self_eq_true] at e; cases e
  have e11 : way = 11 := by
    have := g 0 h0
    have := g 1 h1
    have := g 2 h2
    have := g 4 h4
    have := g 5 h5
    have := g 6 h6
    have := g 7 h7
    have := g 8 h8
    have := g 9 h9
    have := g 10 h10
    omega
  exact s_ret (w_tup (w_cons (w_var rfl (w_cons (w_var rfl (w_cons (w_tup (w_cons (w_tup (w_cons (w_str (w_cons (w_op (w_str (w_int (rv_repS (c := 113) (n := 24) (by decide) (by decide) (w_cons (w_int (w_nil ⟨show 3 ≤ sizeLine by decide, w_nil ⟨show 1 ≤ sizeLine by decide, w_nil ⟨show 3 ≤ sizeLine by decide, hk (MB.way11 r) ns3 ⟨small_of s1 s2 (show 1 ≤ 5 by decide) (inn1 ⟨show (1 : Nat) ≤ 100 by decide, show (24 : Nat) ≤ 100 by decide⟩), fun e => absurd e11 e, fun e => absurd e11 e, fun _ => ⟨r, hr, rfl⟩⟩⟩⟩⟩)))))))))))))))))))
theorem call_spoilt {K : PySem.W.Frag} {χ : Xk} {as : List Addr} {ρ : DSt} {O : List D} {k : List Addr → D → List D → Prop} {j : Nat} {a : Addr} {ns : List Int} {nms : List Str} {rows : List MR.Row} {i : Nat} {way : Int} (ha : as[j]? = some a) (ho : O[j]? = some (.lst (ns.map D.int))) (hT : MR.Table nms rows) (hi : i < rows.length) (h0 : 0 ≤ way) (h12 : way < 12)
    (hk : ∀ (x : MR.Row) (ns' : List Int), MB.SpRow rows i way x → k as (MR.dRow x) (O.set j (.lst (ns'.map D.int)))) : cc (c__law_spoilt K) χ ρ [j] [] as [.adr a, .lst (rows.map MR.dRow), .int (i : Nat), .int way] O k := by
  obtain ⟨s1, s2, s3, s4, s5⟩ := sel1 ha ho
  refine ⟨s1, s2, ?_⟩
  rw [s3, s4]
  exact ⟨a, ns, nms, rows, i, way, rfl, rfl, rfl, rfl, hT, hi, h0, h12, fun x ns' h => by
    have := ck1 (O := O) s5 (hk x ns' h)
    rw [s3] at this
    exact this⟩
def c_is_name (K : PySem.W.Frag) : Ct := fun L as ds O k e => ∃ (z : Str), as = [] ∧ ds = [.str z] ∧ O = [] ∧ z.length ≤ 10000 ∧ k [] (.bl (MN.isName z)) []
theorem l_is_name {K : PySem.W.Frag} : ∀ L as ds O k e, c_is_name K L as ds O k e → ds.length = 1 := fun L as ds O k e h => by
  obtain ⟨i, _, rfl, _⟩ := h
  rfl
theorem ok_is_name {P : Program} {w : World} {K : PySem.W.Frag} {mg : Str → Option Value} {base : Heap} (Z : Tx P w K mg) : FnOk P w K mg base (L2.CX P w) 1 (He.ga K "is_name") (fdAt K ("is_name", none)) ["text"] (spC (c_is_name K)) := by
  refine FunD.ok (k := 0) (F_is_name Z) sc_is_name (sp_len (n := 1) l_is_name) (fun cdv A outer s H vs Q E hr h => ⟨_, PSs.nox ((pss_cons (ps_if (PW.pt (pw_or (pt_cmpR op_eq (pv 0) pe_str (nomark _)) (pw_or (pt_cmpR op_gt (pe_callB (r := fun xs H Q => ∃ x n, xs = [x] ∧ LenV K x H n ∧ Q (.int n) H) call_len (by rfl) (Z.free 3 rfl) PySem.boot_len (pa_cons (pv 0) pa_nil)) (pe_gi (by rfl) (Z.int 47 rfl)) (nomark _)) (pw_or1 (pt_cmpR op_notIn_sign (pe_ix (r := rIxS) ix_str (pv 0) pe_int (fun _ _ => rfl)) (pe_gs (by rfl) (Z.str 48 rfl)) (by rfl))))))
  (pss_one (ps_ret pe_bl))
  pss_nil)
  (pss_one (ps_ret (pe_callB (r := rAll K) (cr_all rfl) (by rfl) (Z.free 45 rfl) (by decide +kernel) (pa_cons (pe_lc rfl sc_is_name.nd (pi_str (pv 0)) (blkOk_by (own := [("char", 1)]) (N := N_is_name) (sc := defScope s_is_name) (by decide +kernel)) (fun _ _ _ _ _ => (pg_name (i := 1) sc_is_name.nd rfl (by first | exact Or.inl rfl | exact Or.inr rfl))) (fun _ _ _ _ _ => pts_nil) (fun _ _ _ _ _ => (pe_or (pe_cmpR op_in_sign (pv 1) (pe_gs (by rfl) (Z.str 48 rfl)) (by rfl)) (pe_one (pe_cmpR op_in_sign (pv 1) (pe_gs (by rfl) (Z.str 49 rfl)) (by rfl)))))) pa_nil)))))), enter h fun L as ds O k e c => ?_⟩)
  obtain ⟨z, rfl, rfl, rfl, hz, hk⟩ := c
  refine s_seq (s_if (w_or ?_))
  k_subL
  refine rv_eq rfl ⟨_, rfl, ?_⟩
  show if (z == ("" : Str)) = true then _ else _
  refine i_bl (fun e => ?_) fun e => ?_
  · have : z = "" := eq_of_beq e
    subst this
    exact s_ret (w_bl hk)
  have ne : MN.tl z ≠ [] := fun y => by
    have : z = "" := TL.ext_tl y
    subst this
    cases e
  refine w_or ?_
  k_subL
  refine rc_len (n := z.length) ⟨small (by omega), rfl⟩ ?_
  k_subL
  refine ⟨_, rfl, ?_⟩
  refine i_dec (fun h => ?_) fun h => ?_
  · have : MN.isName z = false := by
      unfold MN.isName
      rw [decide_eq_false (by omega), Bool.and_false]
    rw [this] at hk
    exact s_ret (w_bl hk)
  obtain ⟨c, r, ez⟩ : ∃ c r, MN.tl z = c :: r := by
    cases y : MN.tl z with
    | nil => exact absurd y ne
    | cons c r => exact ⟨c, r, rfl⟩
  k_subL
  refine rv_ixS (c := c) (small (by omega)) (by show atI (MN.tl z) 0 = _; rw [ez]; exact atI_nat (xs := c :: r) (j := 0) rfl) ?_
  k_subL
  refine rv_ninS ?_
  refine ⟨_, rfl, ?_⟩
  have en : MN.isName z = (decide (c ∈ MN.tl MN.letS) && r.all MN.okc) := by
    unfold MN.isName
    rw [ez, decide_eq_true (by omega), Bool.and_true]
    rfl
  refine i_bl (fun h => ?_) fun h => ?_
  · have h' : decide (c ∈ MN.tl MN.letS) = false := by rwa [Bool.not_eq_true'] at h
    rw [en, h'] at hk
    exact s_ret (w_bl hk)
  have h' : decide (c ∈ MN.tl MN.letS) = true := by rwa [Bool.not_eq_false'] at h
  refine s_next ?_
  refine s_ret (w_cb (w_cons (w_known (w_map (wg_name (by decide)) (i_str (w_var rfl ⟨z, rfl, MN.tl z, fun c => .str ⟨#[c]⟩, fun c => .bl (MN.okc c), rfl, smallt (by rw [← MN.len_tl]; omega), fun d m => ?_, fun q => ⟨q, _, _, _, rfl, rfl, rfl, w_nil ?_⟩⟩))))))
  · refine g_name ⟨rfl, rfl, w_orV (w_op (w_var rfl (w_str (rv_inS ⟨_, rfl, ?_⟩))))⟩
    refine i_bl (fun h => ⟨rfl, rfl, ?_⟩) fun h => ?_
    · show D.bl true = D.bl (MN.okc d)
      rw [MN.let_okc h]
    · refine w_op (w_var rfl (w_str (rv_inS ⟨rfl, rfl, ?_⟩)))
      show D.bl (decide (d ∈ MN.tl MN.digS)) = D.bl (decide (d ∈ MN.tl MN.letS) || decide (d ∈ MN.tl MN.digS))
      rw [show decide (d ∈ MN.tl MN.letS) = false from h, Bool.false_or]
  · refine rc_all (bs := (MN.tl z).map MN.okc) (.inl (by rw [List.map_map]; rfl)) ?_
    have : ((MN.tl z).map MN.okc).all id = MN.isName z := by
      rw [en, ez, h', List.map_cons, List.all_cons, List.all_map]
      show (MN.okc c && _) = _
      rw [MN.let_okc h', Bool.true_and, Bool.true_and]
      rfl
    rw [this]
    exact hk
theorem call_is_name {K : PySem.W.Frag} {χ : Xk} {L as : List Addr} {ρ : DSt} {O : List D} {k : List Addr → D → List D → Prop} {z : Str} (hz : z.length ≤ 10000) (hk : k as (.bl (MN.isName z)) O) : cc (c_is_name K) χ ρ [] L as [.str z] O k :=
  ⟨(no_js (as := as)).1, (no_js (as := as)).2, z, rfl, rfl, rfl, hz, ck0 hk⟩
def c_is_part (K : PySem.W.Frag) : Ct := fun L as ds O k e => ∃ (p : MR.Part), as = [] ∧ ds = [MR.dPart p] ∧ O = [] ∧ p.nm.length ≤ 100 ∧ p.inn.length ≤ 100 ∧ k [] (.bl (MB.partB p)) []
theorem l_is_part {K : PySem.W.Frag} : ∀ L as ds O k e, c_is_part K L as ds O k e → ds.length = 1 := fun L as ds O k e h => by
  obtain ⟨i, _, rfl, _⟩ := h
  rfl
theorem ok_is_part {P : Program} {w : World} {K : PySem.W.Frag} {mg : Str → Option Value} {base : Heap} (Z : Tx P w K mg) : FnOk P w K mg base (L2.CX P w) 2 (He.ga K "is_part") (fdAt K ("is_part", none)) ["part"] (spC (c_is_part K)) := by
  refine FunD.ok (k := 1) (F_is_part Z) sc_is_part (sp_len (n := 1) l_is_part) (fun cdv A outer s H vs Q E hr h => ⟨_, PSs.nox ((pss_cons (ps_if (pt_not (pt_val (pe_call (ok_is_name Z) (hr.mono (by decide)) (by rfl) (Z.glo 42 rfl) (Z.kp 12 rfl) (b_is_name Z) .nil passN (pa_cons (pe_ix (r := rIxT K) ix_tup (pv 0) pe_int (fun _ _ => rfl)) pa_nil))))
  (pss_one (ps_ret pe_bl))
  pss_nil)
  (pss_cons (ps_if (pt_cmpR op_eq (pe_callB (r := fun xs H Q => ∃ x n, xs = [x] ∧ LenV K x H n ∧ Q (.int n) H) call_len (by rfl) (Z.free 3 rfl) PySem.boot_len (pa_cons (pv 0) pa_nil)) pe_int (nomark _))
  (pss_one (ps_ret (pe_cmpR op_eq (pe_ix (r := rIxT K) ix_tup (pv 0) pe_int (fun _ _ => rfl)) (pe_gs (by rfl) (Z.str 37 rfl)) (nomark _))))
  pss_nil)
  (pss_one (ps_ret (pe_and (pe_cmpR op_eq (pe_callB (r := fun xs H Q => ∃ x n, xs = [x] ∧ LenV K x H n ∧ Q (.int n) H) call_len (by rfl) (Z.free 3 rfl) PySem.boot_len (pa_cons (pv 0) pa_nil)) pe_int (nomark _)) (pe_and (pe_call (ok_is_name Z) (hr.mono (by decide)) (by rfl) (Z.glo 42 rfl) (Z.kp 12 rfl) (b_is_name Z) .nil passN (pa_cons (pe_ix (r := rIxT K) ix_tup (pv 0) pe_int (fun _ _ => rfl)) pa_nil)) (pe_and (pe_cmpR op_ne (pe_ix (r := rIxT K) ix_tup (pv 0) pe_int (fun _ _ => rfl)) (pe_gs (by rfl) (Z.str 37 rfl)) (nomark _)) (pe_one (pe_chain op_le op_le pe_int (pe_ix (r := rIxT K) ix_tup (pv 0) pe_int (fun _ _ => rfl)) (pe_gi (by rfl) (Z.int 50 rfl)))))))))))), enter h fun L as ds O k e c => ?_⟩)
  obtain ⟨⟨nm, inn, pr⟩, rfl, rfl, rfl, h1, h2, hk⟩ := c
  unfold MB.partB at hk
  simp only at h1 h2 hk
  refine s_seq (s_if (w_not (w_test ?_)))
  refine d_call [] ?_
  k_subL
  refine rv_ixT (d := .str nm) (by cases pr <;> rfl) ?_
  k_subL
  refine call_is_name (by omega) ?_
  cases hn : MN.isName nm with
  | false =>
    rw [hn, Bool.false_and] at hk
    exact ⟨_, rfl, s_ret (w_bl hk)⟩
  | true =>
    rw [hn, Bool.true_and] at hk
    refine ⟨_, rfl, ?_⟩
    refine s_next ?_
    cases pr with
    | none =>
      k_subL
      refine rc_len (n := 2) rfl ?_
      k_subL
      refine rv_eq rfl ⟨_, rfl, ?_⟩
      refine s_ret ?_
      k_subL
      refine rv_ixT (d := .str inn) rfl ?_
      k_subL
      exact rv_eq rfl hk
    | some i =>
      k_subL
      refine rc_len (n := 3) rfl ?_
      k_subL
      refine rv_eq rfl ⟨_, rfl, ?_⟩
      refine s_next ?_
      refine s_ret (w_andV ?_)
      k_subL
      refine rc_len (n := 3) rfl ?_
      k_subL
      refine rv_eq rfl ⟨_, rfl, ?_⟩
      refine w_andV ?_
      refine d_call [] ?_
      k_subL
      refine rv_ixT (d := .str inn) rfl ?_
      k_subL
      refine call_is_name (by omega) ?_
      simp only at hk
      cases h3 : MN.isName inn with
      | false =>
        rw [h3, Bool.false_and] at hk
        exact ⟨_, rfl, hk⟩
      | true =>
        rw [h3, Bool.true_and] at hk
        refine ⟨_, rfl, ?_⟩
        refine w_andV ?_
        k_subL
        refine rv_ixT (d := .str inn) rfl ?_
        k_subL
        refine rv_ne rfl ⟨_, rfl, ?_⟩
        rw [show eqD (.str inn) (.str "byte") = (inn == MR.byteS) from rfl]
        cases h4 : (inn == MR.byteS) with
        | true =>
          rw [h4] at hk
          exact hk
        | false =>
          rw [h4] at hk
          show dE _ _ _ _ _ _ _
          refine w_chain ?_
          k_subL
          refine rv_ixT (d := .int i) rfl ?_
          refine rv_b0 ⟨_, rfl, ?_⟩
          by_cases h5 : (1 : Int) ≤ i
          · rw [show decide ((1 : Int) ≤ i) = true from decide_eq_true h5] at hk ⊢
            exact w_int (rv_b0 hk)
          · rw [show decide ((1 : Int) ≤ i) = false from decide_eq_false h5] at hk ⊢
            exact hk
theorem call_is_part {K : PySem.W.Frag} {χ : Xk} {L as : List Addr} {ρ : DSt} {O : List D} {k : List Addr → D → List D → Prop} {p : MR.Part} (h1 : p.nm.length ≤ 100) (h2 : p.inn.length ≤ 100) (hk : k as (.bl (MB.partB p)) O) : cc (c_is_part K) χ ρ [] L as [MR.dPart p] O k :=
  ⟨(no_js (as := as)).1, (no_js (as := as)).2, p, rfl, rfl, rfl, h1, h2, ck0 hk⟩
def c_Kinds_is_new (K : PySem.W.Frag) : Ct := fun L as ds O k e => ∃ (s t f : Addr) (fl : List (Str × D)) (tds fds : List (Key × D)) (r : MR.Row), L = [] ∧ as = [s, t, f] ∧ ds = [.adr s, MR.dRow r] ∧ O = [.ins (He.ga K "Kinds") fl, .dk tds, .dk fds] ∧
  fl.lookup ("table" : Str) = some (.adr t) ∧ fl.lookup ("family" : Str) = some (.adr f) ∧ (r.kind.length ≤ 100 ∧ r.maker.length ≤ 100 ∧ r.parts.length ≤ 5 ∧ ∀ p ∈ r.parts, p.nm.length ≤ 100 ∧ p.inn.length ≤ 100) ∧ k [s, t, f] (.bl (MB.newV r tds fds)) [.ins (He.ga K "Kinds") fl, .dk tds, .dk fds]
theorem l_Kinds_is_new {K : PySem.W.Frag} : ∀ L as ds O k e, c_Kinds_is_new K L as ds O k e → ds.length = 2 := fun L as ds O k e h => by
  obtain ⟨s, t, f, fl, tds, fds, r, _, _, rfl, _⟩ := h
  rfl
theorem ok_Kinds_is_new {P : Program} {w : World} {K : PySem.W.Frag} {mg : Str → Option Value} {base : Heap} (Z : Tx P w K mg) : FnOk P w K mg base (L2.CX P w) 3 (He.ma K (He.ga K "Kinds") "is_new") (fdAt K ("Kinds", some "is_new")) ["self", "row"] (spC (c_Kinds_is_new K)) := by
  refine FunD.ok (k := 2) (F_Kinds_is_new Z) sc_Kinds_is_new (sp_len (n := 2) l_Kinds_is_new) (fun cdv A outer s H vs Q E hr h => ⟨_, PSs.nox ((pss_cons (ps_asg (pv 1) (pg_tup rfl (pgs_cons (pg_name (i := 2) sc_Kinds_is_new.nd rfl (Or.inl rfl)) (pgs_cons (pg_name (i := 3) sc_Kinds_is_new.nd rfl (Or.inl rfl)) (pgs_cons (pg_name (i := 4) sc_Kinds_is_new.nd rfl (Or.inl rfl)) pgs_nil)))))
  (pss_cons (ps_if (PW.pt (pw_or (pt_not (pt_val (pe_call (ok_is_name Z) (hr.mono (by decide)) (by rfl) (Z.glo 42 rfl) (Z.kp 12 rfl) (b_is_name Z) .nil passN (pa_cons (pv 2) pa_nil)))) (pw_or (pt_cmpR op_eq (pv 2) (pe_gs (by rfl) (Z.str 37 rfl)) (nomark _)) (pw_or (pt_not (pt_val (pe_call (ok_is_name Z) (hr.mono (by decide)) (by rfl) (Z.glo 42 rfl) (Z.kp 12 rfl) (b_is_name Z) .nil passN (pa_cons (pv 3) pa_nil)))) (pw_or1 (pt_cmp (pc_din (hu_of hr) (pv 3) (show PE _ _ (tFld K _ _) from pe_fld (pv 0) rfl))))))))
  (pss_one (ps_ret pe_bl))
  pss_nil)
  (pss_cons (ps_if (PW.pt (pw_and (pt_cmp (pc_dnotin (hu_of hr) (pv 2) (show PE _ _ (tFld K _ _) from pe_fld (pv 0) rfl))) (pw_and1 (pt_cmpR op_eq (pe_callB call_lenD (by rfl) (Z.free 3 rfl) PySem.boot_len (pa_cons (show PE _ _ (tFld K _ _) from pe_fld (pv 0) rfl) pa_nil)) (pe_gi (by rfl) (Z.int 43 rfl)) (nomark _)))))
  (pss_one (ps_ret pe_bl))
  pss_nil)
  (pss_cons (ps_if (PW.pt (pw_or (pt_cmpR op_gt (pe_callB (r := fun xs H Q => ∃ x n, xs = [x] ∧ LenV K x H n ∧ Q (.int n) H) call_len (by rfl) (Z.free 3 rfl) PySem.boot_len (pa_cons (pv 4) pa_nil)) (pe_gi (by rfl) (Z.int 44 rfl)) (nomark _)) (pw_or1 (pt_not (pt_val (pe_callB (r := rAll K) (cr_all rfl) (by rfl) (Z.free 45 rfl) (by decide +kernel) (pa_cons (pe_lc rfl sc_Kinds_is_new.nd (pi_tup (pv 4)) (blkOk_by (own := [("part", 5)]) (N := N_Kinds_is_new) (sc := defScope s_Kinds_is_new) (by decide +kernel)) (fun _ _ _ _ _ => (pg_name (i := 5) sc_Kinds_is_new.nd rfl (by first | exact Or.inl rfl | exact Or.inr rfl))) (fun _ _ _ _ _ => pts_nil) (fun _ _ _ _ _ => (pe_call (ok_is_part Z) (hr.mono (by decide)) (by rfl) (Z.glo 46 rfl) (Z.kp 13 rfl) (b_is_part Z) .nil passN (pa_cons (pv 5) pa_nil)))) pa_nil)))))))
  (pss_one (ps_ret pe_bl))
  pss_nil)
  (pss_one (ps_ret (pe_cmpR op_eq (pe_callB call_lenK (by rfl) (Z.free 3 rfl) PySem.boot_len (pa_cons (pe_scK rfl sc_Kinds_is_new.nd (pi_tup (pv 4)) (blkOk_by (own := [("part", 5)]) (N := N_Kinds_is_new) (sc := defScope s_Kinds_is_new) (by decide +kernel)) (fun _ _ _ _ _ => (pg_name (i := 5) sc_Kinds_is_new.nd rfl (by first | exact Or.inl rfl | exact Or.inr rfl))) (fun _ _ _ _ _ => (pe_ix (r := rIxT K) ix_tup (pv 5) pe_int (fun _ _ => rfl)))) pa_nil)) (pe_callB (r := fun xs H Q => ∃ x n, xs = [x] ∧ LenV K x H n ∧ Q (.int n) H) call_len (by rfl) (Z.free 3 rfl) PySem.boot_len (pa_cons (pv 4) pa_nil)) (nomark _))))))))), enter h fun L as ds O k e c => ?_⟩)
  obtain ⟨s, t, f, fl, tds, fds, ⟨kind, maker, parts⟩, rfl, rfl, rfl, rfl, ht, hf, nw, hk⟩ := c
  obtain ⟨b1, b2, b3, b4⟩ := nw
  unfold MB.newV at hk
  simp only at b1 b2 b3 b4 hk
  refine s_seq (s_asg (w_var rfl (g_tup rfl (gs_cons (g_name (gs_cons (g_name (gs_cons (g_name (gs_nil ?_))))))))))
  refine s_seq (s_if (w_or (w_not (w_test (d_call [] ?_)))))
  k_subL
  refine call_is_name (z := kind) (by omega) ?_
  cases h1 : MN.isName kind with
  | false =>
    rw [h1, Bool.false_and] at hk
    exact ⟨_, rfl, s_ret (w_bl hk)⟩
  | true =>
  rw [h1, Bool.true_and] at hk
  refine ⟨_, rfl, ?_⟩
  refine w_or ?_
  k_subL
  refine rv_eq rfl ⟨_, rfl, ?_⟩
  rw [show eqD (.str kind) (.str "byte") = (kind == MR.byteS) from rfl]
  cases h2 : (kind == MR.byteS) with
  | true =>
    rw [h2, Bool.not_true, Bool.false_and] at hk
    exact s_ret (w_bl hk)
  | false =>
  rw [h2, Bool.not_false, Bool.true_and] at hk
  refine w_or (w_not (w_test (d_call [] ?_)))
  k_subL
  refine call_is_name (z := maker) (by omega) ?_
  cases h3 : MN.isName maker with
  | false =>
    rw [h3, Bool.false_and] at hk
    exact ⟨_, rfl, s_ret (w_bl hk)⟩
  | true =>
  rw [h3, Bool.true_and] at hk
  refine ⟨_, rfl, ?_⟩
  show dT _ _ _ _ _ _ _
  refine w_test (w_din ?_)
  k_subL
  refine w_fld (w_var rfl ⟨_, fl, .adr t, .inr ⟨0, s, rfl, rfl, rfl⟩, (na_Kinds_table Z).1, (na_Kinds_table Z).2, ht, .inr maker, tds, rfl, .inr ⟨1, t, rfl, rfl, rfl⟩, ?_⟩)
  cases h4 : (valD tds (.inr maker)).isSome with
  | true =>
    rw [h4, Bool.not_true, Bool.false_and] at hk
    exact ⟨_, rfl, s_ret (w_bl hk)⟩
  | false =>
  rw [h4, Bool.not_false, Bool.true_and] at hk
  refine ⟨_, rfl, ?_⟩
  refine s_next ?_
  refine s_mid (N := fun as ρ O => as = [s, t, f] ∧ ρ = [some (.adr s), some (MR.dRow ⟨kind, maker, parts⟩), some (.str kind), some (.str maker), some (.tup (parts.map MR.dPart)), none] ∧ O = [.ins (He.ga K "Kinds") fl, .dk tds, .dk fds] ∧ ((valD fds (.inr kind)).isSome || !decide (fds.length = 4)) = true) ?_ ?_
  · refine s_if (w_and (w_test (w_dnin ?_)))
    k_subL
    refine w_fld (w_var rfl ⟨_, fl, .adr f, .inr ⟨0, s, rfl, rfl, rfl⟩, (na_Kinds_family Z).1, (na_Kinds_family Z).2, hf, .inr kind, fds, rfl, .inr ⟨2, f, rfl, rfl, rfl⟩, ?_⟩)
    refine ⟨_, rfl, ?_⟩
    cases e : (valD fds (.inr kind)).isSome with
    | true => exact s_next ⟨rfl, rfl, rfl, rfl⟩
    | false =>
      show dT _ _ _ _ _ _ _
      k_subL
      refine w_fld (w_var rfl ⟨_, fl, .adr f, .inr ⟨0, s, rfl, rfl, rfl⟩, (na_Kinds_family Z).1, (na_Kinds_family Z).2, hf, ?_⟩)
      k_subL
      refine rc_lenD (.inr ⟨2, f, rfl, rfl, rfl⟩) ?_
      k_subL
      refine rv_eq rfl ⟨_, rfl, ?_⟩
      by_cases h4 : fds.length = 4
      · rw [show eqD (.int fds.length) (.int 4) = true from by show ((fds.length : Int) == 4) = true; rw [beq_iff_eq]; omega]
        rw [e, decide_eq_true h4, Bool.not_true, Bool.or_false, Bool.false_and] at hk
        exact s_ret (w_bl hk)
      · rw [show eqD (.int fds.length) (.int 4) = false from by show ((fds.length : Int) == 4) = false; rw [beq_eq_false_iff_ne]; omega]
        exact s_next ⟨rfl, rfl, rfl, by rw [decide_eq_false h4]; rfl⟩
  · rintro as ρ O ⟨rfl, rfl, rfl, h5⟩
    rw [h5, Bool.true_and] at hk
    refine s_seq (s_if (w_or ?_))
    k_subL
    refine rc_len (n := parts.length) (List.length_map ..).symm ?_
    k_subL
    refine ⟨_, rfl, ?_⟩
    refine i_dec (fun h => ?_) fun h => ?_
    · rw [decide_eq_false (show ¬ parts.length ≤ 4 by omega), Bool.false_and] at hk
      exact s_ret (w_bl hk)
    rw [decide_eq_true (show parts.length ≤ 4 by omega), Bool.true_and] at hk
    refine w_not (w_test (w_cb (w_cons (w_known (w_map (wg_name (by decide)) (i_tup (w_var rfl ⟨_, rfl, parts, MR.dPart, fun p => .bl (MB.partB p), rfl, smallt (by omega), fun p m => ?_, fun q => ⟨q, _, _, _, rfl, rfl, rfl, w_nil ?_⟩⟩)))))))
    · refine g_name ⟨rfl, rfl, d_call [] (w_cons (w_var rfl (w_nil ?_)))⟩
      exact call_is_part (b4 p m).1 (b4 p m).2 ⟨rfl, rfl, rfl⟩
    refine rc_all (bs := parts.map MB.partB) (.inl (by rw [List.map_map]; rfl)) ?_
    rw [show (parts.map MB.partB).all id = parts.all MB.partB from by rw [List.all_map]; rfl]
    cases h7 : parts.all MB.partB with
    | false =>
      rw [h7, Bool.false_and] at hk
      exact ⟨_, rfl, s_ret (w_bl hk)⟩
    | true =>
    rw [h7, Bool.true_and] at hk
    refine ⟨_, rfl, ?_⟩
    refine s_next (s_ret (w_op ?_))
    refine w_lenset (wg_name (by decide)) (i_tup (w_var rfl ⟨_, rfl, parts, MR.dPart, fun p => p.nm, rfl, by omega, fun p m => ?_, ?_⟩))
    · exact g_name ⟨rfl, rfl, w_op (w_var rfl (w_int (rv_ixT (d := .str p.nm) (by cases p.pr <;> rfl) ⟨rfl, rfl, rfl⟩)))⟩
    k_subL
    refine rc_len (n := parts.length) (List.length_map ..).symm ?_
    refine rv_eq rfl ?_
    have e9 := MB.dist_eq (parts.map (·.nm))
    rw [List.length_map] at e9
    rw [show eqD (.int ((dist (parts.map fun p => p.nm)).length : Nat)) (.int (parts.length : Nat)) = decide ((parts.map (·.nm)).Nodup) from e9]
    exact hk
theorem call_is_new {K : PySem.W.Frag} {χ : Xk} {as : List Addr} {ρ : DSt} {O : List D} {k : List Addr → D → List D → Prop} {s t f : Addr} {fl : List (Str × D)} {tds fds : List (Key × D)} {r : MR.Row} (ea : selA as [0, 1, 2] = [s, t, f]) (eO : selO O [0, 1, 2] = [.ins (He.ga K "Kinds") fl, .dk tds, .dk fds])
    (la : 3 ≤ as.length) (hO : putAll O [0, 1, 2] [.ins (He.ga K "Kinds") fl, .dk tds, .dk fds] = O) (ht : fl.lookup ("table" : Str) = some (.adr t)) (hf : fl.lookup ("family" : Str) = some (.adr f)) (nw : r.kind.length ≤ 100 ∧ r.maker.length ≤ 100 ∧ r.parts.length ≤ 5 ∧ ∀ p ∈ r.parts, p.nm.length ≤ 100 ∧ p.inn.length ≤ 100) (hk : k as (.bl (MB.newV r tds fds)) O) : cc (c_Kinds_is_new K) χ ρ [0, 1, 2] [] as [.adr s, MR.dRow r] O k := by
  refine ⟨by decide, fun j m => by simp at m; omega, ?_⟩
  rw [ea, eO]
  refine ⟨s, t, f, fl, tds, fds, r, rfl, rfl, rfl, rfl, ht, hf, nw, [], [], [.ins (He.ga K "Kinds") fl, .dk tds, .dk fds], ?_, ?_, rfl, ?_⟩
  · rfl
  · rfl
  · rw [hO, List.append_nil, List.append_nil]
    exact hk
abbrev Ent := ML3.Ent
abbrev EntOk := ML3.EntOk
abbrev entD := ML3.entD
def c_Kinds_find_least (K : PySem.W.Frag) : Ct := fun L as ds O k e => ∃ (s t sm : Addr) (fl : List (Str × D)) (es : List Ent) (nms : List Str), L = [] ∧ as = [s, sm] ∧ ds = [.adr s] ∧ O = [.ins (He.ga K "Kinds") fl, .dk []] ∧
  fl.lookup ("table" : Str) = some (.ldk t (es.map entD)) ∧ fl.lookup ("smallest" : Str) = some (.adr sm) ∧ nms.Nodup ∧ nms.length ≤ 4 ∧ (∀ e ∈ es, EntOk nms e) ∧
  ∀ lr lds sds, (∀ kv ∈ sds, Cz kv.2) → (∀ kv ∈ lds, Cz kv.2) → (∃ g, ML3.Done nms es g sds) → k [s, sm, lr] .non [.ins (He.ga K "Kinds") fl, .dk sds, .dk lds]
theorem l_Kinds_find_least {K : PySem.W.Frag} : ∀ L as ds O k e, c_Kinds_find_least K L as ds O k e → ds.length = 1 := fun L as ds O k e h => by
  obtain ⟨s, t, sm, fl, es, nms, _, _, rfl, _⟩ := h
  rfl
theorem ok_Kinds_find_least {P : Program} {w : World} {K : PySem.W.Frag} {mg : Str → Option Value} {base : Heap} (Z : Tx P w K mg) : FnOk P w K mg base (L2.CX P w) 1 (He.ma K (He.ga K "Kinds") "find_least") (fdAt K ("Kinds", some "find_least")) ["self"] (spC (c_Kinds_find_least K)) := by
  refine FunD.ok (k := 0) (F_Kinds_find_least Z) sc_Kinds_find_least (sp_len (n := 1) l_Kinds_find_least) (fun cdv A outer s H vs Q E hr h => ⟨_, PSs.nox ((pss_cons (ps_set (i := 1) sc_Kinds_find_least.nd rfl (Or.inr rfl) pe_dnewK)
  (pss_cons (ps_set (i := 2) sc_Kinds_find_least.nd rfl (Or.inl rfl) pe_bl)
  (pss_one (ps_while PassesOwn.never (pt_val (pv 2))
  (pss_cons (ps_set (i := 2) sc_Kinds_find_least.nd rfl (Or.inl rfl) pe_bl)
  (pss_one (ps_lock (ps_for PassesOwn.never rfl (pi_items (show PE _ _ (tFld K _ _) from pe_fld (pv 0) rfl)) (pg_tup rfl (pgs_cons (pg_name (i := 3) sc_Kinds_find_least.nd rfl (Or.inl rfl)) (pgs_cons (pg_tup rfl (pgs_cons (pg_name (i := 7) sc_Kinds_find_least.nd rfl (Or.inl rfl)) (pgs_cons (pg_name (i := 8) sc_Kinds_find_least.nd rfl (Or.inl rfl)) (pgs_cons (pg_name (i := 9) sc_Kinds_find_least.nd rfl (Or.inl rfl)) pgs_nil)))) pgs_nil)))
  (pss_cons (ps_if (pt_not (pt_val (pe_callB (r := rAll K) (cr_all rfl) (by rfl) (Z.free 45 rfl) (by decide +kernel) (pa_cons (pe_lc rfl sc_Kinds_find_least.nd (pi_tup (pv 9)) (blkOk_by (own := [("part", 6)]) (N := N_Kinds_find_least) (sc := defScope s_Kinds_find_least) (by decide +kernel)) (fun _ _ _ _ _ => (pg_name (i := 6) sc_Kinds_find_least.nd rfl (by first | exact Or.inl rfl | exact Or.inr rfl))) (fun _ _ _ _ _ => pts_nil) (fun _ _ _ _ _ => (pe_or (pe_cmpR op_eq (pe_ix (r := rIxT K) ix_tup (pv 6) pe_int (fun _ _ => rfl)) (pe_gs (by rfl) (Z.str 37 rfl)) (nomark _)) (pe_one (pe_cmp (pc_din (hu_of hr) (pe_ix (r := rIxT K) ix_tup (pv 6) pe_int (fun _ _ => rfl)) (pv 1))))))) pa_nil))))
  (pss_one ps_continue)
  pss_nil)
  (pss_cons (ps_set (i := 4) sc_Kinds_find_least.nd rfl (Or.inl rfl) (pe_lst (pa_cons (pv 8) pa_nil)))
  (pss_cons (ps_set (i := 5) sc_Kinds_find_least.nd rfl (Or.inl rfl) (pe_lst (pa_cons (pv 3) pa_nil)))
  (pss_cons (ps_for PassesOwn.never rfl (pi_tup (pv 9)) (pg_name (i := 6) sc_Kinds_find_least.nd rfl (Or.inl rfl))
  (pss_cons (ps_expr (pe_bm PySem.F.plainAttrs_list PySem.F.slot_list_extend PySem.F.type_list_extend mt_extend (pv 4) (pa_cons (pe_ifExp (pt_cmpR op_eq (pe_ix (r := rIxT K) ix_tup (pv 6) pe_int (fun _ _ => rfl)) (pe_gs (by rfl) (Z.str 37 rfl)) (nomark _)) (pe_lst (pa_cons pe_int pa_nil)) (pe_dget (hu_of hr) (pv 1) (pe_ix (r := rIxT K) ix_tup (pv 6) pe_int (fun _ _ => rfl)) (fun _ _ => rfl))) pa_nil)))
  (pss_one (ps_expr (pe_bm PySem.F.plainAttrs_list PySem.F.slot_list_append PySem.F.type_list_append mt_append (pv 5) (pa_cons (pe_ifExp (pt_cmpR op_eq (pe_ix (r := rIxT K) ix_tup (pv 6) pe_int (fun _ _ => rfl)) (pe_gs (by rfl) (Z.str 37 rfl)) (nomark _)) pe_int (pe_dget (hu_of hr) (show PE _ _ (tFld K _ _) from pe_fld (pv 0) rfl) (pe_ix (r := rIxT K) ix_tup (pv 6) pe_int (fun _ _ => rfl)) (fun _ _ => rfl))) pa_nil))))))
  (pss_one (ps_if (PW.pt (pw_or (pt_cmp (pc_dnotin (hu_of hr) (pv 7) (pv 1))) (pw_or1 (pt_cmpR (op_ltD hr.units) (pe_tup (pa_cons (pe_callB (r := fun xs H Q => ∃ x n, xs = [x] ∧ LenV K x H n ∧ Q (.int n) H) call_len (by rfl) (Z.free 3 rfl) PySem.boot_len (pa_cons (pv 4) pa_nil)) (pa_cons (pv 4) pa_nil))) (pe_tup (pa_cons (pe_callB (r := fun xs H Q => ∃ x n, xs = [x] ∧ LenV K x H n ∧ Q (.int n) H) call_len (by rfl) (Z.free 3 rfl) PySem.boot_len (pa_cons (pe_dget (hu_of hr) (pv 1) (pv 7) (fun _ _ => rfl)) pa_nil)) (pa_cons (pe_dget (hu_of hr) (pv 1) (pv 7) (fun _ _ => rfl)) pa_nil))) (nomark _)))))
  (pss_cons (ps_dput (hu_of hr) (pv 1) (pv 7) (pv 4) rfl)
  (pss_cons (ps_dput (hu_of hr) (show PE _ _ (tFld K _ _) from pe_fld (pv 0) rfl) (pv 7) (pe_callTy call_tuple_of (by rfl) (Z.free 12 rfl) PyProof.Rows.boot_tuple (pa_cons (pv 5) pa_nil)) rfl)
  (pss_one (ps_set (i := 2) sc_Kinds_find_least.nd rfl (Or.inl rfl) pe_bl))))
  pss_nil))))))))))))))), enter h fun L as ds O k e c => ?_⟩)
  obtain ⟨s, t, sm, fl, es, nms, rfl, rfl, rfl, rfl, ht, hs, nd, n3, hes, hk⟩ := c
  refine s_seq (s_set (w_dnew fun lr => ?_))
  refine s_seq (s_set (w_bl ?_))
  refine s_while (fun m as ρ O => ∃ (g : ML3.Fnd) (lds sds : List (Key × D)) (ch : Bool) (x3 x4 x5 x6 x7 x8 x9 : Option D), as = [s, sm, lr] ∧ ρ = [some (.adr s), some (.adr lr), some (.bl ch), x3, x4, x5, x6, x7, x8, x9] ∧ O = [.ins (He.ga K "Kinds") fl, .dk sds, .dk lds] ∧
    ML3.St nms g lds sds ∧ ML3.Fin nms es g sds ∧ (∀ kv ∈ lds, Cz kv.2) ∧ (ch = true → m = ML3.rank nms g + 1) ∧ (ch = false → ML3.Closed es g)) (ML3.rank nms (fun _ => none) + 1)
    ⟨fun _ => none, [], [], true, none, none, none, none, none, none, none, rfl, rfl, rfl, ML3.St.nil, ML3.Fin.nil, (fun _ m => by cases m), fun _ => rfl, fun z => by cases z⟩ ?_
  rintro m as ρ O ⟨g0, lds0, sds0, ch, x3, x4, x5, x6, x7, x8, x9, rfl, rfl, rfl, hst0, hfi0, hcz0, hm, hcl⟩
  refine w_tB (w_var rfl ⟨ch, rfl, ?_⟩)
  cases ch with
  | false =>
    exact hk lr lds0 sds0 hst0.cz hcz0 ⟨g0, hfi0, hcl rfl, hst0.small, fun k ns e => ⟨(hst0.dig k ns e).1, Nat.le_trans (hst0.dig k ns e).2 (ML3.B_three (Nat.le_trans (ML3.cnt_le nms g0) n3))⟩⟩
  | true =>
    have hm := hm rfl
    rw [if_pos rfl]
    refine s_seq (s_set (w_bl ?_))
    refine s_lock t (He.ga K "Kinds") (es.map entD) 0 "table" fl (by simp) rfl ht ?_
    refine s_for (i_items (w_fld (w_var rfl ⟨_, fl, _, .inr ⟨0, s, rfl, rfl, rfl⟩, (na_Kinds_table Z).1, (na_Kinds_table Z).2, ht, t, _, rfl, List.mem_cons_self, ?_⟩)))
    refine ⟨fun i as ρ O => ∃ (g : ML3.Fnd) (lds sds : List (Key × D)) (ch : Bool) (x3 x4 x5 x6 x7 x8 x9 : Option D), as = [s, sm, lr] ∧ ρ = [some (.adr s), some (.adr lr), some (.bl ch), x3, x4, x5, x6, x7, x8, x9] ∧ O = [.ins (He.ga K "Kinds") fl, .dk sds, .dk lds] ∧
      ML3.St nms g lds sds ∧ ML3.Fin nms es g sds ∧ (∀ kv ∈ lds, Cz kv.2) ∧ (ch = true → ML3.rank nms g < ML3.rank nms g0) ∧ (ch = false → g = g0 ∧ ∀ j e, j < i → es[j]? = some e → (∀ p ∈ e.ps, ML3.okP g p = true) → ∃ old, g e.kind = some old ∧ ML3.lessL (ML3.made g e) old = false),
      ⟨g0, lds0, sds0, false, x3, x4, x5, x6, x7, x8, x9, rfl, rfl, rfl, hst0, hfi0, hcz0, (fun z => by cases z), fun _ => ⟨rfl, fun j e z => by omega⟩⟩, ?_, ?_⟩
    · rintro i as ρ O c hc ⟨g, lds, sds, ch, x3, x4, x5, x6, x7, x8, x9, rfl, rfl, rfl, hst, hfi, hcz, hlt, hno⟩
      obtain ⟨ent, he, rfl⟩ : ∃ ent, es[i]? = some ent ∧ c = .tup [.str ent.maker, MT.dEnt ent.kind ent.tag ent.ps] := by
        unfold pairsD at hc
        rw [List.map_map, List.getElem?_map] at hc
        cases e : es[i]? with
        | none => rw [e] at hc; cases hc
        | some ent => rw [e] at hc; cases hc; exact ⟨ent, rfl, rfl⟩
      obtain ⟨maker, kind, tag, ps⟩ := ent
      obtain ⟨e1, e2, e3⟩ := hes _ (List.mem_of_getElem? he)
      simp only at e1 e2 e3
      refine g_tup rfl (gs_cons (g_name (gs_cons (g_tup rfl (gs_cons (g_name (gs_cons (g_name (gs_cons (g_name (gs_nil (gs_nil ?_))))))))))))
      refine s_seq (s_if (w_not (w_test (w_cb (w_cons (w_known (w_map (α := MR.Part) (wg_name (by decide)) (i_tup (w_var rfl ⟨_, rfl, ps, MR.dPart, fun p => .bl (ML3.okP g p), rfl, smallt (by omega), fun p mp => ?_, fun q => ⟨q, _, _, _, rfl, rfl, rfl, w_nil ?_⟩⟩)))))))))
      · refine g_name ⟨rfl, rfl, w_orV (w_op (w_op (w_var rfl (w_int ?_))))⟩
        refine rv_ixT (d := .str p.inn) (by cases p.pr <;> rfl) ?_
        refine w_str ?_
        refine rv_eq rfl ⟨_, rfl, ?_⟩
        show if (p.inn == MR.byteS) = true then _ else _
        refine i_bl (fun h => ⟨rfl, rfl, ?_⟩) fun h => ?_
        · show D.bl true = D.bl ((p.inn == MR.byteS) || (g p.inn).isSome)
          rw [h]; rfl
        · refine w_din (w_op (w_var rfl (w_int ?_)))
          refine rv_ixT (d := .str p.inn) (by cases p.pr <;> rfl) ?_
          refine w_var rfl ⟨.inr p.inn, lds, rfl, .inr ⟨2, lr, rfl, rfl, rfl⟩, rfl, rfl, ?_⟩
          show _ = D.bl ((p.inn == MR.byteS) || (g p.inn).isSome)
          rw [h, hst.look, Option.isSome_map, Bool.false_or]
      refine rc_all (bs := ps.map (ML3.okP g)) (.inl (by rw [List.map_map]; rfl)) ?_
      refine ⟨_, rfl, ?_⟩
      cases hal : (ps.map (ML3.okP g)).all id with
      | false =>
        refine s_cont ⟨g, lds, sds, ch, _, _, _, _, _, _, _, rfl, rfl, rfl, hst, hfi, hcz, hlt, fun z => ⟨(hno z).1, fun j e hj ej hp => ?_⟩⟩
        rcases Nat.lt_or_ge j i with z' | z'
        · exact (hno z).2 j e z' ej hp
        · have : j = i := by omega
          subst this
          rw [he] at ej
          cases ej
          have : (ps.map (ML3.okP g)).all id = true := by rw [List.all_map, List.all_eq_true]; exact hp
          rw [hal] at this
          cases this
      | true =>
        have hall : ∀ p ∈ ps, ML3.okP g p = true := by rw [List.all_map, List.all_eq_true] at hal; exact hal
        refine s_next ?_
        have hb : ML3.B (ML3.cnt nms g) ≥ 1 := by cases ML3.cnt nms g with
          | zero => exact Nat.le_refl _
          | succ n => show 1 + 4 * ML3.B n ≥ 1; omega
        have hb3 := ML3.B_three (Nat.le_trans (ML3.cnt_le nms g) n3)
        refine s_seq (s_set (w_lst (w_cons (w_var rfl (w_nil ⟨small (n := 1) (by decide), fun rw_ => ?_⟩)))))
        refine s_seq (s_set (w_lst (w_cons (w_var rfl (w_nil ⟨small (n := 1) (by decide), fun tr => ?_⟩)))))
        refine s_seq (s_for (i_tup (w_var rfl ⟨_, rfl, fun j as ρ O => ∃ (ns : List Int) (trs : List D) (x6 : Option D), as = [s, sm, lr, rw_, tr] ∧ ρ = [some (.adr s), some (.adr lr), some (.bl ch), some (.str maker), some (.adr rw_), some (.adr tr), x6, some (.str kind), some (.int (tag : Nat)), some (.tup (ps.map MR.dPart))] ∧
          O = [.ins (He.ga K "Kinds") fl, .dk sds, .dk lds, .lst (ns.map D.int), .lst trs] ∧ ML3.Dig ns ∧ ns.length ≤ 1 + j * ML3.B (ML3.cnt nms g) ∧ trs.length ≤ 1 + j ∧ (∀ d ∈ trs, Cz d) ∧ ns = ((tag : Nat) : Int) :: (ps.take j).flatMap (ML3.rowP g) ∧ trs = .str maker :: (ps.take j).map (ML3.valP sds), ⟨[(tag : Nat)], [.str maker], x6, rfl, rfl, rfl, ?_, ?_, ?_, ?_, rfl, rfl⟩, ?_, ?_⟩)))
        · intro e m
          simp at m
          subst m
          omega
        · show 1 ≤ _
          omega
        · show 1 ≤ _
          omega
        · intro d m
          simp at m
          subst m
          exact .str _
        · rintro j as ρ O c hc ⟨ns, trs, x6, rfl, rfl, rfl, hdg, hln, hlt', hct, hns, htrs⟩
          rw [List.getElem?_map] at hc
          cases ej : ps[j]? with
          | none => rw [ej] at hc; cases hc
          | some p =>
            rw [ej] at hc
            cases hc
            have hj : j < ps.length := (List.getElem?_eq_some_iff.mp ej).1
            have etk : ps.take (j + 1) = ps.take j ++ [p] := by rw [List.take_succ, ej]; rfl
            have hj4 : j < 4 := by omega
            have hjb : j * ML3.B (ML3.cnt nms g) ≤ 3 * 341 := Nat.le_trans (Nat.mul_le_mul_left j hb3) (by have := Nat.mul_le_mul_right 341 (show j ≤ 3 by omega); exact this)
            have hp := hall p (List.mem_of_getElem? ej)
            have mulS : (j + 1) * ML3.B (ML3.cnt nms g) = j * ML3.B (ML3.cnt nms g) + ML3.B (ML3.cnt nms g) := by rw [Nat.add_mul, Nat.one_mul]
            refine g_name ?_
            refine s_seq (s_drop (w_extend 3 rfl rfl rfl (w_if (w_test (w_op (w_op (w_var rfl (w_int ?_))))))))
            refine rv_ixT (d := .str p.inn) (by cases p.pr <;> rfl) ?_
            refine w_str ?_
            refine rv_eq rfl ⟨_, rfl, ?_⟩
            show if (p.inn == MR.byteS) = true then _ else _
            refine i_bl (fun h => ?_) fun h => ?_
            · refine w_lstF (w_cons (w_int (w_nil ⟨small (n := 1) (by decide), _, _, rfl, rfl, lo_f, small (by rw [List.length_map]; show _ + 1 ≤ _; omega), ?_⟩)))
              refine s_drop (w_append 4 rfl rfl rfl (w_if (w_test (w_op (w_op (w_var rfl (w_int ?_)))))))
              refine rv_ixT (d := .str p.inn) (by cases p.pr <;> rfl) ?_
              refine w_str ?_
              refine rv_eq rfl ⟨_, rfl, ?_⟩
              show if (p.inn == MR.byteS) = true then _ else _
              rw [if_pos h]
              refine w_int ⟨_, rfl, rfl, smallt (by omega), ns ++ [0], trs ++ [.int 0], _, rfl, rfl, ?_, ?_, ?_, ?_, ?_, ?_, ?_⟩
              · rw [List.map_append]; rfl
              · intro e m
                rcases List.mem_append.mp m with m | m
                · exact hdg e m
                · simp at m; subst m; omega
              · rw [List.length_append, mulS]; show ns.length + 1 ≤ _; omega
              · rw [List.length_append]; show trs.length + 1 ≤ _; omega
              · intro d m
                rcases List.mem_append.mp m with m | m
                · exact hct d m
                · simp at m; subst m; exact .int _
              · rw [hns, etk, List.flatMap_append, List.cons_append]; congr 2; show [0] = ML3.rowP g p ++ []; unfold ML3.rowP; rw [if_pos (beq_iff_eq.mp h)]; rfl
              · rw [htrs, etk, List.map_append, List.cons_append]; congr 2; show [D.int 0] = [ML3.valP sds p]; unfold ML3.valP; rw [if_pos (beq_iff_eq.mp h)]
            · have hg : (g p.inn).isSome = true := by unfold ML3.okP at hp; rw [h, Bool.false_or] at hp; exact hp
              obtain ⟨ms, hms⟩ := Option.isSome_iff_exists.mp hg
              obtain ⟨dm, lm⟩ := hst.dig _ _ hms
              obtain ⟨td, htd⟩ := Option.isSome_iff_exists.mp ((hst.small p.inn).trans hg)
              have ctd : Cz td := by
                unfold valD at htd
                obtain ⟨kv, hkv, rfl⟩ := Option.map_eq_some_iff.mp htd
                exact hst.cz kv (List.mem_of_find?_eq_some hkv)
              refine w_dget (w_var rfl (w_op (w_var rfl (w_int ?_))))
              refine rv_ixT (d := .str p.inn) (by cases p.pr <;> rfl) ?_
              refine ⟨rfl, rfl, .inr p.inn, lds, .lst (ms.map D.int), rfl, .inr ⟨2, lr, rfl, rfl, rfl⟩, by rw [hst.look, hms]; rfl, _, _, rfl, rfl, lo_f, small (by rw [List.length_map, List.length_map]; omega), ?_⟩
              refine s_drop (w_append 4 rfl rfl rfl (w_if (w_test (w_op (w_op (w_var rfl (w_int ?_)))))))
              refine rv_ixT (d := .str p.inn) (by cases p.pr <;> rfl) ?_
              refine w_str ?_
              refine rv_eq rfl ⟨_, rfl, ?_⟩
              show if (p.inn == MR.byteS) = true then _ else _
              rw [if_neg (by rw [h]; exact Bool.false_ne_true)]
              refine w_dget (w_fld (w_var rfl ⟨_, fl, .adr sm, .inr ⟨0, s, rfl, rfl, rfl⟩, (na_Kinds_smallest Z).1, (na_Kinds_smallest Z).2, hs, ?_⟩))
              refine w_op (w_var rfl (w_int ?_))
              refine rv_ixT (d := .str p.inn) (by cases p.pr <;> rfl) ?_
              refine ⟨rfl, rfl, .inr p.inn, sds, td, rfl, .inr ⟨1, sm, rfl, rfl, rfl⟩, htd, ?_⟩
              refine ⟨_, rfl, rfl, smallt (by omega), ns ++ ms, trs ++ [td], _, rfl, rfl, ?_, ?_, ?_, ?_, ?_, ?_, ?_⟩
              · rw [List.map_append]; rfl
              · intro e m
                rcases List.mem_append.mp m with m | m
                · exact hdg e m
                · exact dm e m
              · rw [List.length_append, mulS]; omega
              · rw [List.length_append]; show trs.length + 1 ≤ _; omega
              · intro d m
                rcases List.mem_append.mp m with m | m
                · exact hct d m
                · simp at m; subst m; exact ctd
              · rw [hns, etk, List.flatMap_append, List.cons_append]; congr 2; show ms = ML3.rowP g p ++ []; unfold ML3.rowP; rw [if_neg (beq_eq_false_iff_ne.mp h), hms, List.append_nil]; rfl
              · rw [htrs, etk, List.map_append, List.cons_append]; congr 2; show [td] = [ML3.valP sds p]; unfold ML3.valP; rw [if_neg (beq_eq_false_iff_ne.mp h), htd]; rfl
        · rintro as ρ O ⟨ns, trs, x6, rfl, rfl, rfl, hdg, hln, hlt', hct, hns, htrs⟩
          rw [List.length_map] at hln hlt'
          rw [List.length_map, List.take_length] at hns htrs
          have hns : ns = ML3.made g ⟨maker, kind, tag, ps⟩ := hns
          refine s_freeze 3 rw_ (.lst (ns.map D.int)) 4 rfl rfl rfl ?_
          have hl4 : ns.length ≤ 1 + 4 * ML3.B (ML3.cnt nms g) := by
            have h4 : ps.length * ML3.B (ML3.cnt nms g) ≤ 4 * ML3.B (ML3.cnt nms g) := Nat.mul_le_mul_right (ML3.B (ML3.cnt nms g)) e3
            have hln : ns.length ≤ 1 + ps.length * ML3.B (ML3.cnt nms g) := hln
            exact Nat.le_trans hln (Nat.add_le_add_left h4 1)
          have hcn := ML3.cnt_le nms g
          have hll := hst.ll
          have hls := hst.ls
          have hlook := hst.look kind
          refine s_if (dW.imp (k := fun as' b' O' => as' = [s, sm, lr, tr] ∧ O' = [.ins (He.ga K "Kinds") fl, .dk sds, .dk lds, .lst trs] ∧
            (b' = true → (g kind = none ∧ ns.length ≤ 1 + 4 * ML3.B (ML3.cnt nms g)) ∨ ∃ old, g kind = some old ∧ ns.length ≤ 341 ∧ (if (ns.length : Int) = (old.length : Int) then HT.lexLt ns old else decide ((ns.length : Int) < (old.length : Int))) = true) ∧
            (b' = false → ∃ old, g kind = some old ∧ ML3.lessL ns old = false)) ?_ ?_)
          · refine w_or (w_test (w_dnin (w_var rfl (w_var rfl ⟨.inr kind, lds, rfl, .inr ⟨2, lr, rfl, rfl, rfl⟩, _, rfl, ?_⟩))))
            rw [hlook, Option.isSome_map]
            cases hgk : g kind with
            | none => exact ⟨rfl, rfl, fun _ => .inl ⟨rfl, hl4⟩, fun z => by cases z⟩
            | some old =>
              rw [hgk] at hlook
              obtain ⟨do_, lo_⟩ := hst.dig _ _ hgk
              show dT _ _ _ _ _ _ _
              refine w_test (w_op (w_tup ?_))
              k_subL
              refine rc_len (n := ns.length) (List.length_map ..).symm ?_
              k_subL
              refine ⟨small (n := 2) (by decide), ?_⟩
              refine w_tup ?_
              k_subL
              refine w_dget (w_var rfl (w_var rfl ⟨rfl, rfl, .inr kind, lds, .lst (old.map D.int), rfl, .inr ⟨2, lr, rfl, rfl, rfl⟩, hlook, ?_⟩))
              k_subL
              refine rc_len (n := old.length) (List.length_map ..).symm ?_
              k_subL
              refine w_dget (w_var rfl (w_var rfl ⟨rfl, rfl, .inr kind, lds, .lst (old.map D.int), rfl, .inr ⟨2, lr, rfl, rfl, rfl⟩, hlook, ?_⟩))
              k_subL
              refine ⟨small (n := 2) (by decide), ?_⟩
              refine rv_ltP (ns := ns) (ms := old) ⟨_, rfl, rfl, rfl, fun h => .inr ⟨old, rfl, ?_, h⟩, fun h => ⟨old, rfl, h⟩⟩
              by_cases q : (ns.length : Int) = (old.length : Int)
              · omega
              · rw [if_neg q] at h
                have h := of_decide_eq_true h
                omega
          · rintro _ b _ ⟨rfl, rfl, h1, h2⟩
            refine i_bl (fun hb' => ?_) fun hb' => ?_
            · obtain ⟨hst', hrk⟩ := hst.put nd n3 e1 hdg (.tup (czs_of hct)) (h1 hb')
              have hfi' := hfi.put (List.mem_of_getElem? he) e1 hall (fun k ns e => ⟨(hst.dig k ns e).1, Nat.le_trans (hst.dig k ns e).2 hb3⟩) fun old ho => by
                rcases h1 hb' with ⟨z, _⟩ | ⟨old', z, zl, zc⟩
                · rw [z] at ho; cases ho
                · rw [z] at ho
                  cases ho
                  rw [← hns]
                  exact (ML3.code_lt hdg (hst.dig _ _ z).1 (by omega) zc).1
              have hfi' : ML3.Fin nms es (ML3.setG g kind ns) (putDk sds (.inr kind) (.tup trs)) := by rw [hns, htrs]; exact hfi'
              refine s_seq (s_dput (w_var rfl (w_var rfl (w_var rfl ⟨2, lr, .inr kind, lds, rfl, rfl, rfl, rfl, smallt (by omega), ?_⟩))))
              refine s_seq (s_dput (w_cb (w_cons (w_var rfl (w_nil (rc_tupL (ds := trs) (.inl (lo_o 3 rfl rfl)) ?_))))))
              refine w_fld (w_var rfl ⟨_, fl, .adr sm, .inr ⟨0, s, rfl, rfl, rfl⟩, (na_Kinds_smallest Z).1, (na_Kinds_smallest Z).2, hs, ?_⟩)
              refine w_var rfl ⟨1, sm, .inr kind, sds, rfl, rfl, rfl, rfl, smallt (by omega), ?_⟩
              refine s_let 3 (s_set (w_bl ?_))
              refine ⟨ML3.setG g kind ns, _, _, true, _, _, _, _, _, _, _, rfl, rfl, rfl, hst', hfi', ?_, fun _ => ?_, fun z => by cases z⟩
              · intro kv mk
                rcases ML3.mem_put mk with z | z
                · rw [z]
                  exact .lst (czs_of fun d m => by obtain ⟨r, _, rfl⟩ := List.mem_map.mp m; exact .int _)
                · exact hcz kv z
              · cases ch with
                | true => have := hlt rfl; omega
                | false => rw [← (hno rfl).1]; exact hrk
            · refine s_let 3 (s_next ⟨g, lds, sds, ch, _, _, _, _, _, _, _, rfl, rfl, rfl, hst, hfi, hcz, hlt, fun z => ⟨(hno z).1, fun j e hj ej hp => ?_⟩⟩)
              rcases Nat.lt_or_ge j i with z' | z'
              · exact (hno z).2 j e z' ej hp
              · have : j = i := by omega
                subst this
                rw [he] at ej
                cases ej
                rw [← hns]
                exact h2 hb'
    · rintro as ρ O ⟨g, lds, sds, ch, x3, x4, x5, x6, x7, x8, x9, rfl, rfl, rfl, hst, hfi, hcz, hlt, hno⟩
      cases ch with
      | true => exact ⟨ML3.rank nms g + 1, by have := hlt rfl; omega, g, lds, sds, true, _, _, _, _, _, _, _, rfl, rfl, rfl, hst, hfi, hcz, fun _ => rfl, fun z => by cases z⟩
      | false =>
        refine ⟨0, by omega, g, lds, sds, false, _, _, _, _, _, _, _, rfl, rfl, rfl, hst, hfi, hcz, (fun z => by cases z), fun _ e me hp => ?_⟩
        obtain ⟨j, hj, ej⟩ := List.mem_iff_getElem.mp me
        exact (hno rfl).2 j e (by unfold pairsD; rw [List.length_map, List.length_map]; exact hj) (by rw [List.getElem?_eq_getElem hj, ej]) hp
def c_Kinds___init__ (K : PySem.W.Frag) : Ct := fun L as ds O k e => ∃ (s : Addr) (rd : D) (rows : List MR.Row), L = [] ∧ as = [s] ∧ ds = [.adr s, rd] ∧ O = [.ins (He.ga K "Kinds") []] ∧ lstF K rd (rows.map MR.dRow) ∧ MB.Small rows ∧
  ((MB.Good rows ∧ ∀ c, k [s] .non [c]) ∨ ∃ a, MB.Bad rows a ∧ ∀ (new : List Addr) (c : D) (cnew : List D), e [] (He.ga K "BadKinds") [("row", .int (a : Nat))] (s :: new) (c :: cnew))
theorem l_Kinds___init__ {K : PySem.W.Frag} : ∀ L as ds O k e, c_Kinds___init__ K L as ds O k e → ds.length = 2 := fun L as ds O k e h => by
  obtain ⟨s, rd, rows, _, _, rfl, _⟩ := h
  rfl
section
variable {KK : PySem.W.Frag} {L as : List Addr} {O : List D} {k : List Addr → D → List D → Prop} {d : D}
theorem rm_indexF {zs : List Str} {y : Str} {j : Nat} (hl : lstR as O KK d (zs.map D.str)) (h : zs[j]? = some y) (h2 : ∀ m, m < j → ∀ w, zs[m]? = some w → w ≠ y) (z : k as (.int (j : Nat)) O) : rm (rIndex KK) L as O d [.str y] k := fun F H x vs hd ow r1 r2 Q q => by
  cases r2 with
  | cons r3 r4 =>
    cases r4
    cases r3
    obtain ⟨a, xs, rfl, s, r'⟩ := lr_at hd ow r1 hl
    have ex := r'.strs
    subst ex
    refine ⟨a, _, .str y, j, .str y, rfl, rfl, s, rfl, DL.flat_strs zs, by rw [List.getElem?_map, h]; rfl, ?_, fun m z' hm hz => ?_, q F H as O _ _ (.refl ..) hd ow (.int _) z⟩
    · show (y == y) = true
      exact beq_self_eq_true y
    · rw [List.getElem?_map] at hz
      cases e : zs[m]? with
      | none => rw [e] at hz; cases hz
      | some w =>
        rw [e] at hz
        cases hz
        show (w == y) = false
        rw [beq_eq_false_iff_ne]
        exact h2 m hm w e
end
theorem ok_Kinds___init__ {P : Program} {w : World} {K : PySem.W.Frag} {mg : Str → Option Value} {base : Heap} (Z : Tx P w K mg) : FnOk P w K mg base (L2.CX P w) 4 (He.ma K (He.ga K "Kinds") "__init__") (fdAt K ("Kinds", some "__init__")) ["self", "rows"] (spC (c_Kinds___init__ K)) := by
  refine FunD.ok (k := 3) (F_Kinds___init__ Z) sc_Kinds___init__ (sp_len (n := 2) l_Kinds___init__) (fun cdv A outer s H vs Q E hr h => ⟨_, ((pss_cons (ps_fld (pv 0) pe_dnewK rfl)
  (pss_cons (ps_fld (pv 0) pe_dnewK rfl)
  (pss_cons (ps_if (pt_cmpR op_eq (pe_callB (r := fun xs H Q => ∃ x n, xs = [x] ∧ LenV K x H n ∧ Q (.int n) H) call_len (by rfl) (Z.free 3 rfl) PySem.boot_len (pa_cons (pv 1) pa_nil)) pe_int (nomark _))
  (pss_one (pr_BadKinds Z rfl (hr.mono (by decide)) (takes_of rfl rfl rfl rfl) (by rfl) (pa_cons pe_int pa_nil)))
  pss_nil)
  (pss_cons (ps_for (passes_of rfl) rfl (pi_enum (by rfl) (Z.free 34 rfl) (pa_cons (pv 1) pa_nil)) (pg_tup rfl (pgs_cons (pg_name (i := 3) sc_Kinds___init__.nd rfl (Or.inl rfl)) (pgs_cons (pg_name (i := 4) sc_Kinds___init__.nd rfl (Or.inl rfl)) pgs_nil)))
  (pss_cons (ps_if (PW.pt (pw_or (pt_cmpR op_eq (pv 3) (pe_gi (by rfl) (Z.int 35 rfl)) (nomark _)) (pw_or1 (pt_not (pt_val (pe_meth (pv 0) (Z.cls 16 rfl) (Z.meth 36 rfl) (ok_Kinds_is_new Z) (hr.mono (by decide)) (b_Kinds_is_new Z) .nil passN (pa_cons (pv 4) pa_nil)))))))
  (pss_one (pr_BadKinds Z rfl (hr.mono (by decide)) (takes_of rfl rfl rfl rfl) (by rfl) (pa_cons (pv 3) pa_nil)))
  pss_nil)
  (pss_cons (ps_asg (pv 4) (pg_tup rfl (pgs_cons (pg_name (i := 2) sc_Kinds___init__.nd rfl (Or.inl rfl)) (pgs_cons (pg_name (i := 7) sc_Kinds___init__.nd rfl (Or.inl rfl)) (pgs_cons (pg_name (i := 8) sc_Kinds___init__.nd rfl (Or.inl rfl)) pgs_nil)))))
  (pss_cons (ps_set (i := 5) sc_Kinds___init__.nd rfl (Or.inl rfl) (pe_dsetd (show PE _ _ (tFld K _ _) from pe_fld (pv 0) rfl) (pv 2) (pe_lst pa_nil) ⟨rfl, rfl, rfl, rfl⟩))
  (pss_cons (ps_dput (hu_of hr) (show PE _ _ (tFld K _ _) from pe_fld (pv 0) rfl) (pv 7) (pe_tup (pa_cons (pv 2) (pa_cons (pe_callB (r := fun xs H Q => ∃ x n, xs = [x] ∧ LenV K x H n ∧ Q (.int n) H) call_len (by rfl) (Z.free 3 rfl) PySem.boot_len (pa_cons (pv 5) pa_nil)) (pa_cons (pe_callTy call_tuple_of (by rfl) (Z.free 12 rfl) PyProof.Rows.boot_tuple (pa_cons (pv 8) pa_nil)) pa_nil)))) rfl)
  (pss_one (ps_expr (pe_bm PySem.F.plainAttrs_list PySem.F.slot_list_append PySem.F.type_list_append mt_append (pv 5) (pa_cons (pv 7) pa_nil)))))))))
  (pss_cons (ps_for (passes_of rfl) rfl (pi_enum (by rfl) (Z.free 34 rfl) (pa_cons (pv 1) pa_nil)) (pg_tup rfl (pgs_cons (pg_name (i := 3) sc_Kinds___init__.nd rfl (Or.inl rfl)) (pgs_cons (pg_name (i := 4) sc_Kinds___init__.nd rfl (Or.inl rfl)) pgs_nil)))
  (pss_one (ps_for (passes_of rfl) rfl (pi_tup (pe_ix (r := rIxT K) ix_tup (pv 4) pe_int (fun _ _ => rfl))) (pg_name (i := 6) sc_Kinds___init__.nd rfl (Or.inl rfl))
  (pss_one (ps_if (PW.pt (pw_and (pt_cmpR op_ne (pe_ix (r := rIxT K) ix_tup (pv 6) pe_int (fun _ _ => rfl)) (pe_gs (by rfl) (Z.str 37 rfl)) (nomark _)) (pw_and1 (pt_cmp (pc_dnotin (hu_of hr) (pe_ix (r := rIxT K) ix_tup (pv 6) pe_int (fun _ _ => rfl)) (show PE _ _ (tFld K _ _) from pe_fld (pv 0) rfl))))))
  (pss_one (pr_BadKinds Z rfl (hr.mono (by decide)) (takes_of rfl rfl rfl rfl) (by rfl) (pa_cons (pv 3) pa_nil)))
  pss_nil)))))
  (pss_cons (ps_fld (pv 0) (pe_callTy (call_tuple_dK rfl) (by rfl) (Z.free 12 rfl) PyProof.Rows.boot_tuple (pa_cons (show PE _ _ (tFld K _ _) from pe_fld (pv 0) rfl) pa_nil)) rfl)
  (pss_cons (ps_fld (pv 0) (pe_callTy (call_tuple_dK rfl) (by rfl) (Z.free 12 rfl) PyProof.Rows.boot_tuple (pa_cons (show PE _ _ (tFld K _ _) from pe_fld (pv 0) rfl) pa_nil)) rfl)
  (pss_cons (ps_fld (pv 0) pe_dnewK rfl)
  (pss_cons (ps_expr (pe_meth0 (pv 0) (Z.cls 16 rfl) (Z.meth 41 rfl) (ok_Kinds_find_least Z) (hr.mono (by decide)) (b_Kinds_find_least Z) .nil passN))
  (pss_one (ps_for (passes_of rfl) rfl (pi_tup (show PE _ _ (tFld K _ _) from pe_fld (pv 0) rfl)) (pg_name (i := 2) sc_Kinds___init__.nd rfl (Or.inl rfl))
  (pss_one (ps_if (pt_cmp (pc_dnotin (hu_of hr) (pv 2) (show PE _ _ (tFld K _ _) from pe_fld (pv 0) rfl)))
  (pss_one (pr_BadKinds Z rfl (hr.mono (by decide)) (takes_of rfl rfl rfl rfl) (by rfl) (pa_cons (pe_bm PySem.F.plainAttrs_list PySem.F.slot_list_index PySem.F.type_list_index mt_index (pe_lc rfl sc_Kinds___init__.nd (pi_list (pv 1)) (blkOk_by (own := [("row", 4)]) (N := N_Kinds___init__) (sc := defScope s_Kinds___init__) (by decide +kernel)) (fun _ _ _ _ _ => (pg_name (i := 4) sc_Kinds___init__.nd rfl (by first | exact Or.inl rfl | exact Or.inr rfl))) (fun _ _ _ _ _ => pts_nil) (fun _ _ _ _ _ => (pe_ix (r := rIxT K) ix_tup (pv 4) pe_int (fun _ _ => rfl)))) (pa_cons (pv 2) pa_nil)) pa_nil)))
  pss_nil)))))))))))))), enter h fun L as ds O k e c => ?_⟩)
  obtain ⟨s, rd, rows, rfl, rfl, rfl, rfl, hrd, hS, hk⟩ := c
  have hE : ∀ i, MB.Bad rows i → ∀ (new : List Addr) (c : D) (cnew : List D), e [] (He.ga K "BadKinds") [("row", .int (i : Nat))] (s :: new) (c :: cnew) := fun i hb => by
    rcases hk with ⟨hg, _⟩ | ⟨a, ha, he⟩
    · exact (MB.not_both hb hg).elim
    · rw [MB.uniq hb ha]
      exact he
  have hG : MB.Good rows → ∀ c, k [s] .non [c] := fun hg => by
    rcases hk with ⟨_, h⟩ | ⟨a, ha, _⟩
    · exact h
    · exact (MB.not_both ha hg).elim
  clear hk
  refine s_seq (s_fld (w_dnew fun t => w_var rfl ⟨0, s, _, [], rfl, rfl, rfl, (na_Kinds_table Z).1, (na_Kinds_table Z).2, by decide, ?_⟩))
  refine s_seq (s_fld (w_dnew fun f => w_var rfl ⟨0, s, _, _, rfl, rfl, rfl, (na_Kinds_family Z).1, (na_Kinds_family Z).2, by show 1 < 1000; decide, ?_⟩))
  have hlen : rows.length ≤ 14 := hS.len
  refine s_seq (s_if (w_test (w_op (w_cb (w_cons (w_var rfl (w_nil (rc_lenF hrd ?_))))))))
  refine w_int ?_
  refine rv_eq rfl ⟨_, rfl, ?_⟩
  rw [List.length_map]
  show if ((rows.length : Int) == 0) = true then _ else _
  refine i_bl (fun h => ?_) fun h => ?_
  · have h : rows.length = 0 := by rw [beq_iff_eq] at h; omega
    exact s_raiseI (n := 0) (xo_BadKinds Z) (by omega) (w_int ⟨rfl, hE 0 (.empty (List.eq_nil_of_length_eq_zero h)) _ _ _⟩)
  have hne : rows ≠ [] := fun e => by rw [e] at h; cases h
  refine s_next ?_
  refine s_seq (s_for (i_enumF (w_cons (w_var rfl (w_nil ⟨_, _, rfl, hrd, fun i as ρ O => ∃ (ps : List Addr) (x2 x3 x4 x5 x7 x8 : Option D), as = [s, t, f] ++ ps ∧ ρ = [some (.adr s), some rd, x2, x3, x4, x5, none, x7, x8] ∧
    O = [.ins (He.ga K "Kinds") [("table", .adr t), ("family", .adr f)], .dk (MI.entsFrom [] (rows.take i)), .dk (zipD (MI.keys (rows.take i)) (ps.map D.adr))] ++ (MI.kindsOf (rows.take i)).map (MI.lstD (rows.take i)) ∧ ps.length = (MI.kindsOf (rows.take i)).length ∧ MB.New rows i ∧ i ≤ 12,
    ⟨[], none, none, none, none, none, none, rfl, rfl, rfl, rfl, (fun j r z => by omega), Nat.zero_le _⟩, ?_, ?_⟩)))))
  · rintro i as ρ O c hc ⟨ps, x2, x3, x4, x5, x7, x8, rfl, rfl, rfl, hps, hnew, hi12⟩
    obtain ⟨d, hd, rfl⟩ := enum_at hc
    rw [List.getElem?_map] at hd
    obtain ⟨r, hr, rfl⟩ := Option.map_eq_some_iff.mp hd
    have hi : i < rows.length := (List.getElem?_eq_some_iff.mp hr).1
    have mr : r ∈ rows := List.mem_of_getElem? hr
    have et : rows.take (i + 1) = rows.take i ++ [r] := by rw [List.take_add_one, hr]; rfl
    refine g_tup rfl (gs_cons (g_name (gs_cons (g_name (gs_nil ?_)))))
    refine s_seq (s_if (w_or ?_))
    k_subL
    refine rv_eq rfl ⟨_, rfl, ?_⟩
    by_cases h12 : i = 12
    · rw [show eqD (.int (i : Nat)) (.int 12) = true from by show (((i : Nat) : Int) == 12) = true; rw [beq_iff_eq]; omega]
      exact s_raiseI (n := i) (xo_BadKinds Z) (by omega) (w_var rfl ⟨rfl, hE i (.one hr hnew hi12 (.inl h12)) _ _ _⟩)
    rw [show eqD (.int (i : Nat)) (.int 12) = false from by show (((i : Nat) : Int) == 12) = false; rw [beq_eq_false_iff_ne]; omega]
    refine w_not (w_test ?_)
    refine d_meth [0, 1, 2] ?_
    refine w_var rfl ⟨⟨_, .inr ⟨0, s, rfl, rfl, rfl⟩, rfl⟩, w_cons (w_var rfl (w_nil ?_))⟩
    refine call_is_new (fl := [("table", .adr t), ("family", .adr f)]) rfl rfl (by simp) rfl rfl rfl (hS.row r mr) ?_
    rw [MB.newV_eq (ds := ps.map D.adr) (by rw [List.length_map]; exact hps)]
    refine ⟨_, rfl, ?_⟩
    cases hnb : MB.newB (rows.take i) r with
    | false => exact s_raiseI (n := i) (xo_BadKinds Z) (by omega) (w_var rfl ⟨rfl, hE i (.one hr hnew hi12 (.inr hnb)) _ _ _⟩)
    | true =>
    have hnext := hnew.next hr hnb
    have hi13 : i + 1 ≤ 12 := by omega
    refine s_next ?_
    obtain ⟨kind, maker, parts⟩ := r
    refine s_seq (s_asg (w_var rfl (g_tup rfl (gs_cons (g_name (gs_cons (g_name (gs_cons (g_name (gs_nil ?_))))))))))
    have hfew := MB.kinds4 hnew i (Nat.le_refl _)
    have hml : maker ∉ (rows.take i).map (·.maker) := (MB.new_parts hnb).2.2.2.1
    by_cases hin : kind ∈ MI.kindsOf (rows.take i)
    · obtain ⟨q, hq⟩ := List.mem_iff_getElem?.mp hin
      have hqp : q < ps.length := by rw [hps]; exact (List.getElem?_eq_some_iff.mp hq).1
      obtain ⟨p, hpq⟩ : ∃ p, ps[q]? = some p := ⟨_, List.getElem?_eq_getElem hqp⟩
      have hsome : valD (zipD (MI.keys (rows.take i)) (ps.map D.adr)) (.inr kind) = some (.adr p) := by
        rw [MI.keys, MI.val_zip (MI.kinds_nd _) hq (by rw [List.length_map]; exact hps.symm), List.getElem?_map, hpq]
        rfl
      have hz : (zipD (MI.keys (rows.take i)) (ps.map D.adr)).length ≤ 4 := by
        unfold zipD MI.keys
        rw [List.length_zipWith, List.length_map, List.length_map]
        omega
      have hlm : ((MI.kindsOf (rows.take i)).map (MI.lstD (rows.take i))).length = ps.length := by rw [List.length_map]; exact hps.symm
      refine s_seq (s_set (w_let (3 + ps.length) (w_dsetd (w_fld (w_var rfl ⟨_, _, .adr f, .inr ⟨0, s, rfl, rfl, rfl⟩, (na_Kinds_family Z).1, (na_Kinds_family Z).2, rfl, ⟨_, .inr ⟨2, f, rfl, rfl, rfl⟩⟩, ?_⟩)))))
      refine w_var rfl (w_lst (w_nil ⟨Nat.zero_le _, fun p' => ⟨2, f, .inr kind, _, rfl, rfl, rfl, rfl, smallt (by omega), fun e he => ?_, fun h0 => ?_⟩⟩))
      rotate_left
      · rw [hsome] at h0
        cases h0
      rw [hsome] at he
      cases he
      have ea : (([s, t, f] ++ ps ++ [p']).eraseIdx (3 + ps.length)) = [s, t, f] ++ ps := MI.at_end_erase _ _ _ _ _
      have eo : (([D.ins (He.ga K "Kinds") [("table", .adr t), ("family", .adr f)], .dk (MI.entsFrom [] (rows.take i)), .dk (zipD (MI.keys (rows.take i)) (ps.map D.adr))] ++ (MI.kindsOf (rows.take i)).map (MI.lstD (rows.take i)) ++ [D.lst []]).eraseIdx (3 + ps.length)) = [D.ins (He.ga K "Kinds") [("table", .adr t), ("family", .adr f)], .dk (MI.entsFrom [] (rows.take i)), .dk (zipD (MI.keys (rows.take i)) (ps.map D.adr))] ++ (MI.kindsOf (rows.take i)).map (MI.lstD (rows.take i)) := by
        rw [← hlm]
        exact MI.at_end_erase _ _ _ _ _
      rw [ea, eo]
      have hp : ([s, t, f] ++ ps)[q + 3]? = some p := hpq
      have hO : ∀ (x y z : D), ([x, y, z] ++ (MI.kindsOf (rows.take i)).map (MI.lstD (rows.take i)))[q + 3]? = some (MI.lstD (rows.take i) kind) := fun x y z => by
        show ((MI.kindsOf (rows.take i)).map (MI.lstD (rows.take i)))[q]? = _
        rw [List.getElem?_map, hq]
        rfl
      have hml9 : (MI.makersOf kind (rows.take i)).length ≤ 14 := by
        unfold MI.makersOf
        rw [List.length_map]
        exact Nat.le_trans (List.length_filter_le ..) (by rw [List.length_take]; omega)
      refine s_seq (s_dput (w_tup (w_cons (w_var rfl (w_cons (w_cb (w_cons (w_var rfl (w_nil ?_)))))))))
      refine rc_len (n := (MI.makersOf kind (rows.take i)).length) ⟨q + 3, _, hp, hO _ _ _, (List.length_map ..).symm⟩ ?_
      refine w_cons (w_cb (w_cons (w_var rfl (w_nil (rc_tupT ?_)))))
      refine w_nil ⟨small (n := 3) (by decide), ?_⟩
      refine w_fld (w_var rfl ⟨_, _, .adr t, .inr ⟨0, s, rfl, rfl, rfl⟩, (na_Kinds_table Z).1, (na_Kinds_table Z).2, rfl, ?_⟩)
      have hel : (MI.entsFrom [] (rows.take i)).length ≤ 14 := by rw [MI.ents_len, List.length_take]; omega
      refine w_var rfl ⟨1, t, .inr maker, MI.entsFrom [] (rows.take i), rfl, rfl, rfl, rfl, smallt (by omega), ?_⟩
      refine s_drop (w_append (q + 3) rfl hp (hO _ _ _) (w_var rfl ⟨_, hp, hO _ _ _, smallt (by rw [List.length_map]; omega), ?_⟩))
      have e1 := MI.ents_put (rs := rows.take i) (r := ⟨kind, maker, parts⟩) hml
      have e2 := MI.lists_old (rs := rows.take i) (r := ⟨kind, maker, parts⟩) hq
      have e3 := MI.kinds_snoc (rows.take i) ⟨kind, maker, parts⟩
      rw [if_pos hin] at e3
      refine ⟨ps, _, _, _, _, _, _, rfl, rfl, ?_, ?_⟩
      · have e5 : MI.keys (rows.take i ++ [⟨kind, maker, parts⟩]) = MI.keys (rows.take i) := by unfold MI.keys; rw [e3]
        rw [et, ← e1, ← e2, e5]
        rfl
      · rw [et, e3]
        exact ⟨hps, hnext, hi13⟩
    · refine s_seq (s_set (w_dsetd (w_fld (w_var rfl ⟨_, _, .adr f, .inr ⟨0, s, rfl, rfl, rfl⟩, (na_Kinds_family Z).1, (na_Kinds_family Z).2, rfl, ⟨_, .inr ⟨2, f, rfl, rfl, rfl⟩⟩, ?_⟩))))
      have hnone : valD (zipD (MI.keys (rows.take i)) (ps.map D.adr)) (.inr kind) = none := MI.val_zip_none hin
      have hz : (zipD (MI.keys (rows.take i)) (ps.map D.adr)).length ≤ 4 := by
        unfold zipD MI.keys
        rw [List.length_zipWith, List.length_map, List.length_map]
        omega
      refine w_var rfl (w_lst (w_nil ⟨Nat.zero_le _, fun p => ⟨2, f, .inr kind, _, rfl, rfl, rfl, rfl, smallt (by omega), fun e he => ?_, fun _ => ?_⟩⟩))
      · rw [hnone] at he
        cases he
      have hp : ([s, t, f] ++ ps ++ [p])[3 + ps.length]? = some p := MI.at_end _ _ _ _ _
      have hlm : ((MI.kindsOf (rows.take i)).map (MI.lstD (rows.take i))).length = ps.length := by rw [List.length_map]; exact hps.symm
      have hO : ∀ (x y z : D), ([x, y, z] ++ (MI.kindsOf (rows.take i)).map (MI.lstD (rows.take i)) ++ [D.lst []])[3 + ps.length]? = some (D.lst []) := fun x y z => by
        rw [← hlm]
        exact MI.at_end _ _ _ _ _
      refine s_seq (s_dput (w_tup (w_cons (w_var rfl (w_cons (w_cb (w_cons (w_var rfl (w_nil ?_)))))))))
      refine rc_len (n := 0) ⟨3 + ps.length, [], hp, hO _ _ _, rfl⟩ ?_
      refine w_cons (w_cb (w_cons (w_var rfl (w_nil (rc_tupT ?_)))))
      refine w_nil ⟨small (n := 3) (by decide), ?_⟩
      refine w_fld (w_var rfl ⟨_, _, .adr t, .inr ⟨0, s, rfl, rfl, rfl⟩, (na_Kinds_table Z).1, (na_Kinds_table Z).2, rfl, ?_⟩)
      have hel : (MI.entsFrom [] (rows.take i)).length ≤ 14 := by rw [MI.ents_len, List.length_take]; omega
      refine w_var rfl ⟨1, t, .inr maker, MI.entsFrom [] (rows.take i), rfl, rfl, rfl, rfl, smallt (by omega), ?_⟩
      refine s_drop (w_append (3 + ps.length) rfl hp (hO _ _ _) (w_var rfl ⟨[], hp, hO _ _ _, smallt (by decide), ?_⟩))
      have e1 := MI.ents_put (rs := rows.take i) (r := ⟨kind, maker, parts⟩) hml
      have e2 := MI.lists_new (rs := rows.take i) (r := ⟨kind, maker, parts⟩) hin
      have e3 := MI.kinds_snoc (rows.take i) ⟨kind, maker, parts⟩
      rw [if_neg hin] at e3
      have e4 : putDk (zipD (MI.keys (rows.take i)) (ps.map D.adr)) (.inr kind) (.adr p) = zipD (MI.keys (rows.take i ++ [⟨kind, maker, parts⟩])) ((ps ++ [p]).map D.adr) := by
        unfold putDk
        rw [ML.any_valD, hnone]
        show _ ++ _ = _
        unfold zipD MI.keys
        rw [e3, List.map_append, List.map_append, List.zipWith_append (by rw [List.length_map, List.length_map]; exact hps.symm)]
        rfl
      refine ⟨ps ++ [p], _, _, _, _, _, _, ?_, rfl, ?_, ?_⟩
      · exact List.append_assoc ..
      · rw [MI.makers_none hin] at e1
        rw [et, ← e1, ← e2, ← e4, ← hlm]
        exact (MI.at_end_set _ _ _ _ _ _).trans (List.append_assoc ..)
      · rw [et, e3, List.length_append, List.length_append, hps]
        exact ⟨rfl, hnext, hi13⟩
  · rintro as ρ O ⟨ps, x2, x3, x4, x5, x7, x8, rfl, rfl, rfl, hps, hnew, hi12⟩
    have erl : rows.take (enumD (rows.map MR.dRow)).length = rows := by rw [enum_len, List.length_map, List.take_length]
    rw [erl] at hps ⊢
    rw [enum_len, List.length_map] at hnew hi12
    have hnd := MI.kinds_nd rows
    refine s_frzDict (as0 := [s, t, f]) (O0 := [.ins (He.ga K "Kinds") [("table", .adr t), ("family", .adr f)], .dk (MI.entsFrom [] rows), .dk (zipD (MI.keys rows) (ps.map D.adr))]) 2 (by rw [List.length_map]; exact hps) rfl rfl ?_
    refine s_frzFld 2 0 f (He.ga K "Kinds") (.dk (zipD (MI.keys rows) ((MI.kindsOf rows).map (MI.lstD rows)))) (.dk (zipD (MI.keys rows) ((MI.kindsOf rows).map (MI.lstD rows)))) "family" [("table", .adr t), ("family", .adr f)] rfl rfl (fun F o e c => .of e c) rfl rfl ?_
    refine s_frzFld 1 0 t (He.ga K "Kinds") (.dk (MI.entsFrom [] rows)) (.ldk t (MI.entsFrom [] rows)) "table" [("table", .adr t), ("family", .dk (zipD (MI.keys rows) ((MI.kindsOf rows).map (MI.lstD rows))))] rfl rfl (fun F o e c => by cases c with | dk r => exact .ldk e r) rfl rfl ?_
    generalize efd : zipD (MI.keys rows) ((MI.kindsOf rows).map (MI.lstD rows)) = fds
    generalize etd : MI.entsFrom [] rows = tds
    have hfds : ∀ k, k ∈ MI.kindsOf rows → (valD fds (.inr k)).isSome = true := fun k m => by
      obtain ⟨q, hq⟩ := List.mem_iff_getElem?.mp m
      rw [← efd]
      rw [MI.keys, MI.val_zip hnd hq (by rw [List.length_map])]
      rw [List.getElem?_map, hq]
      rfl
    have hfdn : ∀ k, k ∉ MI.kindsOf rows → (valD fds (.inr k)).isSome = false := fun k m => by
      rw [← efd]
      unfold MI.keys
      rw [MI.val_zip_none m]
      rfl
    refine s_seq (s_for (i_enumF (w_cons (w_var rfl (w_nil ⟨_, _, rfl, hrd, fun i as ρ O => ∃ (x2 x3 x4 x5 x6 x7 x8 : Option D), MB.Trees rows i ∧ as = [s] ∧ ρ = [some (.adr s), some rd, x2, x3, x4, x5, x6, x7, x8] ∧
      O = [.ins (He.ga K "Kinds") [("table", .ldk t tds), ("family", .dk fds)]], ⟨x2, x3, x4, x5, none, x7, x8, (fun j r z => by omega), rfl, rfl, rfl⟩, ?_, ?_⟩)))))
    · rintro i as ρ O c hc ⟨x2, x3, x4, x5, x6, x7, x8, htr, rfl, rfl, rfl⟩
      obtain ⟨d, hd, rfl⟩ := enum_at hc
      rw [List.getElem?_map] at hd
      obtain ⟨r, hr, rfl⟩ := Option.map_eq_some_iff.mp hd
      have mr : r ∈ rows := List.mem_of_getElem? hr
      refine g_tup rfl (gs_cons (g_name (gs_cons (g_name (gs_nil ?_)))))
      refine s_for (i_tup (w_op (w_var rfl (w_int (rv_ixT (d := .tup (r.parts.map MR.dPart)) rfl ⟨_, rfl, fun q as ρ O => ∃ (x6 : Option D), (r.parts.take q).all (MB.treeOk rows) = true ∧ as = [s] ∧ ρ = [some (.adr s), some rd, x2, some (.int (i : Nat)), some (MR.dRow r), x5, x6, x7, x8] ∧
        O = [.ins (He.ga K "Kinds") [("table", .ldk t tds), ("family", .dk fds)]], ⟨x6, rfl, rfl, rfl, rfl⟩, ?_, ?_⟩)))))
      · rintro q as ρ O c hc ⟨x6, hall, rfl, rfl, rfl⟩
        rw [List.getElem?_map] at hc
        obtain ⟨p, hp, rfl⟩ := Option.map_eq_some_iff.mp hc
        have mp : p ∈ r.parts := List.mem_of_getElem? hp
        have step : MB.treeOk rows p = true → (r.parts.take (q + 1)).all (MB.treeOk rows) = true := fun h => by
          rw [MB.take_snoc hp, List.all_append, hall, List.all_cons, h]
          rfl
        have hx : ∀ {k : List Addr → D → List D → Prop} {as : List Addr} {O : List D}, k as (.str p.inn) O → rv (rIxT K) [] as O (MR.dPart p) (.int 1) k := fun z => rv_ixT (d := .str p.inn) (by cases p.pr <;> rfl) z
        refine g_name (s_if (w_and (w_test (w_op (w_op (w_var rfl (w_int (hx (w_str ?_)))))))))
        refine rv_ne rfl ⟨_, rfl, ?_⟩
        show if (!(p.inn == MR.byteS)) = true then _ else _
        refine i_bl (fun h => ?_) fun h => s_next ⟨_, step (by unfold MB.treeOk; rw [Bool.not_eq_false'] at h; rw [h]; rfl), rfl, rfl, rfl⟩
        have hb : (p.inn == MR.byteS) = false := by rwa [Bool.not_eq_true'] at h
        refine w_test (w_dnin (w_op (w_var rfl (w_int (hx ?_)))))
        refine w_fld (w_var rfl ⟨_, _, .dk fds, .inr ⟨0, s, rfl, rfl, rfl⟩, (na_Kinds_family Z).1, (na_Kinds_family Z).2, rfl, .inr p.inn, fds, rfl, .inl (.inl rfl), ?_⟩)
        by_cases hk2 : p.inn ∈ MI.kindsOf rows
        · rw [hfds _ hk2]
          exact ⟨_, rfl, s_next ⟨_, step (by unfold MB.treeOk; rw [decide_eq_true hk2, Bool.or_true]), rfl, rfl, rfl⟩⟩
        · rw [hfdn _ hk2]
          refine ⟨_, rfl, s_raiseI (n := i) (xo_BadKinds Z) (by have := MB.lt_of hr; omega) (w_var rfl ⟨rfl, hE i (.two hi12 hnew hr htr ?_) _ _ _⟩)⟩
          cases hz : r.parts.all (MB.treeOk rows) with
          | false => rfl
          | true =>
            rw [List.all_eq_true] at hz
            have := hz p mp
            unfold MB.treeOk at this
            rw [hb, decide_eq_false hk2] at this
            cases this
      · rintro as ρ O ⟨x6, hall, rfl, rfl, rfl⟩
        rw [List.length_map, List.take_length] at hall
        exact ⟨_, _, _, _, _, _, _, htr.next hr hall, rfl, rfl, rfl⟩
    · rintro as ρ O ⟨x2, x3, x4, x5, x6, x7, x8, htr, rfl, rfl, rfl⟩
      rw [enum_len, List.length_map] at htr
      refine s_seq (s_fld (w_cb (w_cons (w_fld (w_var rfl ⟨_, _, .dk fds, .inr ⟨0, s, rfl, rfl, rfl⟩, (na_Kinds_family Z).1, (na_Kinds_family Z).2, rfl, w_nil (rc_tupD (kds := fds) (.inl (.inl rfl)) ?_)⟩)))))
      refine w_var rfl ⟨0, s, _, _, rfl, rfl, rfl, (na_Kinds_names Z).1, (na_Kinds_names Z).2, by show 2 < 1000; decide, ?_⟩
      refine s_seq (s_fld (w_cb (w_cons (w_fld (w_var rfl ⟨_, _, .ldk t tds, .inr ⟨0, s, rfl, rfl, rfl⟩, (na_Kinds_table Z).1, (na_Kinds_table Z).2, rfl, w_nil (rc_tupD (kds := tds) (.inl (.inr ⟨_, rfl⟩)) ?_)⟩)))))
      refine w_var rfl ⟨0, s, _, _, rfl, rfl, rfl, (na_Kinds_order Z).1, (na_Kinds_order Z).2, by show 3 < 1000; decide, ?_⟩
      rw [show (fds.map fun kv => kD kv.1) = (MI.kindsOf rows).map D.str from by rw [← efd]; exact MI.zip_keys (by rw [List.length_map])]
      rw [show (tds.map fun kv => kD kv.1) = (rows.map (·.maker)).map D.str from by rw [← etd]; exact MI.ents_keys [] rows]
      refine s_seq (s_fld (w_dnew fun sm => w_var rfl ⟨0, s, _, _, rfl, rfl, rfl, (na_Kinds_smallest Z).1, (na_Kinds_smallest Z).2, by show 4 < 1000; decide, ?_⟩))
      obtain ⟨es, ees, hes, hent, hent2⟩ := MB.ents_of hi12 hnew
      refine s_seq (s_drop (d_meth [0, 1] (w_var rfl ⟨⟨_, .inr ⟨0, s, rfl, rfl, rfl⟩, rfl⟩, w_nil ?_⟩)))
      refine ⟨by decide, fun j m => by simp at m; show j < 2; omega, s, t, sm, _, es, MI.kindsOf rows, rfl, rfl, rfl, rfl, (by rw [ees, etd]; rfl), rfl, hnd, (by have := MB.kinds4 hnew rows.length (Nat.le_refl _); rwa [List.take_length] at this), hes, fun lr lds sds hcz hcl hfin0 => ?_⟩
      obtain ⟨gg, hdone⟩ := hfin0
      refine ⟨[lr], [.dk lds], [_, .dk sds], rfl, rfl, rfl, ?_⟩
      refine s_let 2 ?_
      refine s_frzFld 1 0 sm (He.ga K "Kinds") (.dk sds) (.dk sds) "smallest" _ rfl rfl (fun F o e c => .of e c) rfl rfl ?_
      have hfi := fun k => MB.found_iff hdone hent hent2 k
      refine s_for (i_tup (w_fld (w_var rfl ⟨_, _, .tup ((MI.kindsOf rows).map D.str), .inr ⟨0, s, rfl, rfl, rfl⟩, (na_Kinds_names Z).1, (na_Kinds_names Z).2, rfl, _, rfl, fun i as ρ O => ∃ (x2 : Option D), (∀ z ∈ (MI.kindsOf rows).take i, ∃ n, MB.finB rows n z = true) ∧ as = [s] ∧ ρ = [some (.adr s), some rd, x2, x3, x4, x5, x6, x7, x8] ∧
        O = [.ins (He.ga K "Kinds") (MT.tabF (.ldk t tds) (.dk fds) (.tup ((MI.kindsOf rows).map D.str)) (.tup ((rows.map (·.maker)).map D.str)) (.dk sds))], ⟨x2, (fun z m => by rw [List.take_zero] at m; cases m), rfl, rfl, rfl⟩, ?_, ?_⟩)))
      · rintro i as ρ O c hc ⟨x2, hpre, rfl, rfl, rfl⟩
        rw [List.getElem?_map] at hc
        obtain ⟨z, hz, rfl⟩ := Option.map_eq_some_iff.mp hc
        refine g_name (s_if (w_test (w_dnin (w_var rfl ?_))))
        refine w_fld (w_var rfl ⟨_, _, .dk sds, .inr ⟨0, s, rfl, rfl, rfl⟩, (na_Kinds_smallest Z).1, (na_Kinds_smallest Z).2, rfl, .inr z, sds, rfl, .inl (.inl rfl), ?_⟩)
        refine ⟨_, rfl, ?_⟩
        cases hv : (valD sds (.inr z)).isSome with
        | true =>
          refine s_next ⟨_, fun y m => ?_, rfl, rfl, rfl⟩
          rw [MB.take_snoc hz, List.mem_append] at m
          rcases m with m | m
          · exact hpre y m
          · rw [List.mem_singleton.mp m]
            exact (hfi z).mp hv
        | false =>
          obtain ⟨j, r, hr, erz, hj⟩ := MB.kind_at hz
          have hjl := MB.lt_of hr
          have hbad : MB.Bad rows j := .three hi12 hnew htr hr (fun m r' hm hr' => hpre _ (hj m hm r' hr').2) fun n => by
            cases hq : MB.finB rows n r.kind with
            | false => rfl
            | true =>
              rw [erz] at hq
              rw [(hfi z).mpr ⟨n, hq⟩] at hv
              cases hv
          refine s_raiseI (n := j) (xo_BadKinds Z) (by omega) (w_bmR (w_known (w_map (wg_name (by decide)) (i_listF (w_var rfl ⟨_, hrd, rows, MR.dRow, fun r => .str r.kind, rfl, smallt (by omega), fun r m => ?_, fun q => ?_⟩)))))
          · exact g_name ⟨rfl, rfl, w_op (w_var rfl (w_int (rv_ixT (d := .str r.kind) rfl ⟨rfl, rfl, rfl⟩)))⟩
          · refine ⟨q, _, _, _, rfl, rfl, rfl, ⟨_, .inl (.inl rfl)⟩, rfl, w_cons (w_var rfl (w_nil (rm_indexF (zs := rows.map (·.kind)) (.inl (.inl (by rw [List.map_map]; rfl))) (by rw [List.getElem?_map, hr]; exact congrArg some erz) (fun m hm w hw => ?_) ⟨rfl, hE j hbad _ _ _⟩)))⟩
            rw [List.getElem?_map] at hw
            obtain ⟨r', hr', rfl⟩ := Option.map_eq_some_iff.mp hw
            exact (hj m hm r' hr').1
      · rintro as ρ O ⟨x2, hpre, rfl, rfl, rfl⟩
        rw [List.length_map, List.take_length] at hpre
        exact hG ⟨hne, hi12, hnew, htr, fun r m => hpre _ ((MI.dist_mem _).mpr (List.mem_map_of_mem m))⟩ _
def c__law_int (K : PySem.W.Frag) : Ct := fun L as ds O k e => ∃ (i : Int), as = [] ∧ ds = [.int i] ∧ O = [] ∧ k [] (.bl true) []
theorem l__law_int {K : PySem.W.Frag} : ∀ L as ds O k e, c__law_int K L as ds O k e → ds.length = 1 := fun L as ds O k e h => by
  obtain ⟨i, _, rfl, _⟩ := h
  rfl
theorem call_int' {K : PySem.W.Frag} {χ : Xk} {L as : List Addr} {ρ : DSt} {O : List D} {k : List Addr → D → List D → Prop} {i : Int} (hk : k as (.bl true) O) : cc (c__law_int K) χ ρ [] L as [.int i] O k :=
  ⟨(no_js (as := as)).1, (no_js (as := as)).2, i, rfl, rfl, rfl, ck0 hk⟩
theorem okC__law_int {P : Program} {w : World} {K : PySem.W.Frag} {mg : Str → Option Value} {base : Heap} (Z : Tx P w K mg) : FnC P w K mg base (L2.CX P w) 1 (He.ga K "_law_int") (fdAt K ("_law_int", none)) ["_law_value"] (spC (c__law_int K)) := by
  refine FunD.okC (k := 0) (F__law_int Z) sc__law_int (sp_len (n := 1) l__law_int) (fun cdv A outer s H vs Q E p hr h => ⟨_, (pss_one (ps_ret (pe_and (pe_callB (r := rIsi K) call_isi (by rfl) (Z.free 17 rfl) PyProof.Rows.boot_isinstance (pa_cons (pv 0) (pa_cons (pe_bltn (v := .ty "int") (by rfl) (Z.free 8 rfl) PyProof.Rows.boot_int rfl) pa_nil))) (pe_one (pe_not (pe_callB (r := rIsi K) call_isi (by rfl) (Z.free 17 rfl) PyProof.Rows.boot_isinstance (pa_cons (pv 0) (pa_cons (pe_bltn (v := .ty "bool") (by rfl) (Z.free 51 rfl) PyProof.Rows.boot_bool rfl) pa_nil)))))))), enter h fun L as ds O k e c => ?_⟩)
  obtain ⟨i, rfl, rfl, rfl, hk⟩ := c
  refine s_ret (w_andV ?_)
  refine w_ty (d := .int i) (t := "int") (n := "int") (b := true) (tr := tNil) (kA := fun _ _ _ => True) rfl (by rfl) ⟨_, rfl, ?_⟩ (w_var rfl ⟨rfl, rfl, rfl⟩)
  refine w_notV ?_
  exact w_ty (d := .int i) (t := "int") (n := "bool") (b := false) (tr := tNil) (kA := fun _ _ _ => True) rfl (by rfl) ⟨_, rfl, hk⟩ (w_var rfl ⟨rfl, rfl, rfl⟩)
def vI : Option Nat → Int
  | none => -1
  | some a => (a : Nat)
def c__law_bad_row (K : PySem.W.Frag) : Ct := fun L as ds O k e => ∃ (rd : D) (rows : List MR.Row) (v : Option Nat), L = [] ∧ as.length = O.length ∧ ds = [rd] ∧ lstR as O K rd (rows.map MR.dRow) ∧ MB.Small rows ∧ MB.Verd rows v ∧ k as (.int (vI v)) O
theorem l__law_bad_row {K : PySem.W.Frag} : ∀ L as ds O k e, c__law_bad_row K L as ds O k e → ds.length = 1 := fun L as ds O k e h => by
  obtain ⟨rd, rows, v, _, _, rfl, _⟩ := h
  rfl
theorem ok__law_bad_row {P : Program} {w : World} {K : PySem.W.Frag} {mg : Str → Option Value} {base : Heap} (Z : Tx P w K mg) : FnOk P w K mg base (L2.CX P w) 6 (He.ga K "_law_bad_row") (fdAt K ("_law_bad_row", none)) ["_law_rows_here"] (spC (c__law_bad_row K)) := by
  refine FunD.ok (k := 5) (F__law_bad_row Z) sc__law_bad_row (sp_len (n := 1) l__law_bad_row) (fun cdv A outer s H vs Q E hr h => ⟨_, PSs.nox ((pss_cons (ps_tryA (i := 1) rfl rfl sc__law_bad_row.nd rfl rfl ⟨(by rfl), (by decide), .inl (Z.glo 13 rfl)⟩ takesN (fun W pn xe tk po => (pss_one (ps_expr (pe_makeX (Z.mkr 15 rfl) (ok_Kinds___init__ Z) (hr.mono (by decide)) (by rfl) (Z.glo 14 rfl) (b_Kinds___init__ Z) .nil tk (pa_cons (pe_callTy (r := fun xs H Q => ∃ p ys, xs = [V.ref p] ∧ (SqL K H p ys ∨ SqT K H p ys) ∧ ∀ l, H l = none → Q (.ref l) (upd H l (.lst ys))) call_list_of (by rfl) (Z.free 5 rfl) PyProof.Rows.boot_list (pa_cons (pv 0) pa_nil)) pa_nil)))))
  (fun a oe cls d pn hz hf => (pss_cons (ps_if (pt_val (pe_callB (call_isX hz hf) (by rfl) (Z.free 17 rfl) PyProof.Rows.boot_isinstance (pa_cons (pv 1) (pa_cons (pe_tup (pa_cons (pe_glob (v := .ref (He.ga K "BadFunctions")) (by rfl) (Z.glo 25 rfl) rfl) (pa_cons (pe_glob (v := .ref (He.ga K "BadLayout")) (by rfl) (Z.glo 24 rfl) rfl) (pa_cons (pe_glob (v := .ref (He.ga K "BadRow")) (by rfl) (Z.glo 23 rfl) rfl) (pa_cons (pe_glob (v := .ref (He.ga K "BadTree")) (by rfl) (Z.glo 22 rfl) rfl) (pa_cons (pe_glob (v := .ref (He.ga K "NoLayout")) (by rfl) (Z.glo 21 rfl) rfl) (pa_cons (pe_glob (v := .ref (He.ga K "NotThere")) (by rfl) (Z.glo 20 rfl) rfl) (pa_cons (pe_glob (v := .ref (He.ga K "Stuck")) (by rfl) (Z.glo 19 rfl) rfl) (pa_cons (pe_glob (v := .ref (He.ga K "WrongLayout")) (by rfl) (Z.glo 18 rfl) rfl) pa_nil))))))))) pa_nil))))
  (pss_one (ps_ret (pe_un un_neg pe_int)))
  pss_nil)
  (pss_cons (ps_if (PW.pt (pw_or (pt_not (pt_val (pe_callB (call_isX hz hf) (by rfl) (Z.free 17 rfl) PyProof.Rows.boot_isinstance (pa_cons (pv 1) (pa_cons (pe_glob (v := .ref (He.ga K "BadKinds")) (by rfl) (Z.glo 26 rfl) rfl) pa_nil))))) (pw_or (pt_not (pt_val (pe_callB (call_isX hz hf) (by rfl) (Z.free 17 rfl) PyProof.Rows.boot_isinstance (pa_cons (pv 1) (pa_cons (pe_bltn (v := .ty "ValueError") (by rfl) (Z.free 27 rfl) (by decide +kernel) rfl) pa_nil))))) (pw_or1 (pt_not (pt_val (pe_callC (okC__law_int Z) (roomH_mark (hr.mono (by decide))) List.mem_cons_self (by rfl) (Z.glo 28 rfl) (Z.kp 9 rfl) (b__law_int Z) passN (pa_cons (pe_xf (C := He.ga K "BadKinds") (Z.exc 11 rfl).2.2 (Z.noat 29 rfl) hz hf (pv 1)) pa_nil))))))))
  (pss_one (ps_ret (pe_un un_neg pe_int)))
  pss_nil)
  (pss_one (ps_ret (pe_xf (C := He.ga K "BadKinds") (Z.exc 11 rfl).2.2 (Z.noat 29 rfl) hz hf (pv 1))))))))
  (pss_one (ps_ret (pe_un un_neg pe_int))))), enter h fun L as ds O k e c => ?_⟩)
  obtain ⟨rd, rows, v, rfl, hl, rfl, hrd, hS, hv, hk⟩ := c
  refine s_x0 (s_seq (s_try (fun L' C fds' as' ρ O' => ∃ a : Nat, v = some a ∧ L' = [] ∧ C = He.ga K "BadKinds" ∧ fds' = [(("row" : Str), D.int (a : Nat))] ∧ (∃ new cnew, as' = as ++ new ∧ O' = O ++ cnew) ∧ ρ = [some rd, none]) ?_ fun W => ?_))
  rotate_left
  · refine s_drop (w_makeW [] (w_cons (w_known (w_cb (w_cons (w_var rfl (w_nil (rc_listL (KK := K) hrd fun q => ⟨q, _, _, _, rfl, rfl, rfl, w_nil fun p => ?_⟩))))))))
    have ha : (as ++ [p])[as.length]? = some p := by simp
    have ho : (O ++ [D.ins (He.ga K "Kinds") []])[as.length]? = some (D.ins (He.ga K "Kinds") []) := by rw [hl]; simp
    obtain ⟨s1, s2, s3, s4, s5⟩ := sel1 ha ho
    refine ⟨by simp, (fun _ m => by cases m), s1, s2, ?_⟩
    show c_Kinds___init__ K [] (selA (as ++ [p]) [as.length]) _ (selO (O ++ [D.ins (He.ga K "Kinds") []]) [as.length]) _ _
    rw [s3, s4]
    refine ⟨p, _, rows, rfl, rfl, rfl, rfl, .inl rfl, hS, ?_⟩
    cases v with
    | none =>
      refine .inl ⟨hv, fun c => ⟨[], [], [c], (by rw [List.append_nil]; exact s3.symm), rfl, rfl, rfl, ?_⟩⟩
      have e1 : DL.putAll (O ++ [D.ins (He.ga K "Kinds") []]) ([] ++ [as.length]) [c] = O ++ [c] := by
        show (O ++ [D.ins (He.ga K "Kinds") []]).set as.length c = _
        rw [hl, List.set_append_right _ _ (Nat.le_refl _), Nat.sub_self]
        rfl
      rw [e1, List.append_nil, List.append_nil]
      exact s_tail hl (s_ret (w_un (w_int (ru_negO hk))))
    | some a =>
      refine .inr ⟨a, hv, fun new c cnew => ⟨new, cnew, [c], ?_⟩⟩
      refine ⟨by rw [List.nil_append, s3]; rfl, rfl, rfl, a, rfl, rfl, rfl, rfl, ⟨[p] ++ new, [c] ++ cnew, (List.append_assoc ..), ?_⟩, rfl⟩
      show (O ++ [D.ins (He.ga K "Kinds") []]).set as.length c ++ cnew = _
      rw [hl, List.set_append_right _ _ (Nat.le_refl _), Nat.sub_self, List.append_assoc]
      rfl
  rintro L' C fds' as' ρ O' ⟨a, hu, rfl, rfl, rfl, ⟨new, cnew, rfl, rfl⟩, rfl⟩
  subst hu
  refine ⟨true, exm_BadKinds_GroveError Z, fun _ => ⟨rfl, (fun q => by cases q), fun a dd => ?_⟩, fun q => by cases q⟩
  have hE := (ex_BadKinds Z).2.1
  refine s_tail hl ?_
  refine s_seq (s_if (w_test (w_cb (w_cons (w_var rfl (w_cons ?_))))))
  refine w_tup (w_cons (w_c (fun _ => .adr _) (w_cons (w_c (fun _ => .adr _) (w_cons (w_c (fun _ => .adr _) (w_cons (w_c (fun _ => .adr _) (w_cons (w_c (fun _ => .adr _) (w_cons (w_c (fun _ => .adr _) (w_cons (w_c (fun _ => .adr _) (w_cons (w_c (fun _ => .adr _) (w_nil ⟨small (n := 8) (by decide), w_nil ?_⟩)))))))))))))))))
  refine rc_isXT (cs := [He.ga K "BadFunctions", He.ga K "BadLayout", He.ga K "BadRow", He.ga K "BadTree", He.ga K "NoLayout", He.ga K "NotThere", He.ga K "Stuck", He.ga K "WrongLayout"]) (b := false) hE ?_ ⟨_, rfl, s_next ?_⟩
  · exact kitAny_cons (kit_BadKinds_BadFunctions Z) (fun _ => kitAny_cons (kit_BadKinds_BadLayout Z) (fun _ => kitAny_cons (kit_BadKinds_BadRow Z) (fun _ => kitAny_cons (kit_BadKinds_BadTree Z) (fun _ => kitAny_cons (kit_BadKinds_NoLayout Z) (fun _ => kitAny_cons (kit_BadKinds_NotThere Z) (fun _ => kitAny_cons (kit_BadKinds_Stuck Z) (fun _ => kitAny_cons (kit_BadKinds_WrongLayout Z) (fun _ => kitAny_nil) nofun) nofun) nofun) nofun) nofun) nofun) nofun) nofun
  refine s_seq (s_if (w_or (w_not (w_test (w_cb (w_cons (w_var rfl (w_cons (w_c (fun _ => .adr _) (w_nil (rc_isX hE (kit_BadKinds_BadKinds Z) ⟨_, rfl, ?_⟩)))))))))))
  refine w_or (w_not (w_test (w_isXt hE (kitT_BadKinds_ValueError Z) (w_var rfl ⟨rfl, _, rfl, ?_⟩))))
  refine w_not (w_test (d_call [] (w_cons (w_xf (w_var rfl ⟨_, _, rfl, rfl, w_nil (call_int' ⟨_, rfl, ?_⟩)⟩)))))
  refine s_next (s_ret (w_xf (w_var rfl ⟨_, _, rfl, rfl, ?_⟩)))
  exact hk
theorem call_bad {K : PySem.W.Frag} {χ : Xk} {as : List Addr} {ρ : DSt} {O : List D} {k : List Addr → D → List D → Prop} {rows : List MR.Row} {v : Option Nat} {ds : List D} (hd : ds = rows.map MR.dRow) (hS : MB.Small rows) (hv : MB.Verd rows v) (hk : k as (.int (vI v)) O) : cc (c__law_bad_row K) χ ρ [] [] as [.lst ds] O k := by
  subst hd
  exact ⟨(no_js (as := as)).1, (no_js (as := as)).2, _, rows, v, rfl, rfl, rfl, .inl lo_f, hS, hv, ck0 hk⟩
theorem ne_self {i : Int} : (!eqD (.int i) (.int i)) = false := by
  show (!(i == i)) = false
  rw [beq_self_eq_true]
  rfl
section
variable {KK : PySem.W.Frag} {L as : List Addr} {O : List D} {k : List Addr → D → List D → Prop}
theorem rsK {ds : List D} {lo hi : Option Int} (z : k as (.lst (cutD ds lo hi)) O) : rs (rSlL KK) L as O (.lst ds) lo hi fun as' d' O' => ∃ p as0 c O0, as' = as0 ++ [p] ∧ d' = .adr p ∧ O' = O0 ++ [c] ∧ k as0 c O0 := rs_list (.inl lo_f) fun p => ⟨p, _, _, _, rfl, rfl, rfl, z⟩
theorem rvK {ds es : List D} (hl : ds.length + es.length ≤ sizeLine) (z : k as (.lst (ds ++ es)) O) : rv rCat L as O (.lst ds) (.lst es) fun as' d' O' => ∃ p as0 c O0, as' = as0 ++ [p] ∧ d' = .adr p ∧ O' = O0 ++ [c] ∧ k as0 c O0 := rv_cat lo_f lo_f hl fun p => ⟨p, _, _, _, rfl, rfl, rfl, z⟩
end
theorem call_badO {K : PySem.W.Frag} {χ : Xk} {as : List Addr} {ρ : DSt} {O : List D} {k : List Addr → D → List D → Prop} {rows : List MR.Row} {v : Option Nat} {j : Nat} {a : Addr} (ha : as[j]? = some a) (ho : O[j]? = some (.lst (rows.map MR.dRow))) (hS : MB.Small rows) (hv : MB.Verd rows v) (hk : k as (.int (vI v)) O) : cc (c__law_bad_row K) χ ρ [j] [] as [.adr a] O k := by
  obtain ⟨s1, s2, s3, s4, s5⟩ := sel1 ha ho
  refine ⟨s1, s2, ?_⟩
  rw [s3, s4]
  have e : O.set j (.lst (rows.map MR.dRow)) = O := by
    refine List.ext_getElem? fun i => ?_
    rw [List.getElem?_set]
    by_cases q : j = i
    · subst q
      rw [if_pos rfl, ho, if_pos (List.getElem?_eq_some_iff.mp ho).1]
    · rw [if_neg q]
  rw [← e] at hk
  refine ⟨_, rows, v, rfl, rfl, rfl, .inl (lo_o 0 rfl rfl), hS, hv, ?_⟩
  have := ck1 (O := O) s5 hk
  rw [s3] at this
  exact this
def one (c : Nat) : Str := ⟨#[c]⟩
def mkMany (c : Nat) : MR.Row := ⟨"k", "m" ++ one c, []⟩
def mkWide (c : Nat) : MR.Row := ⟨"k" ++ one c, "m" ++ one c, []⟩
def mkLoop (c : Nat) : MR.Row := ⟨"k" ++ one c, "m" ++ one c, [⟨"a", "k" ++ one c, some 1⟩]⟩
def manyR : List MR.Row := (MN.tl "abcdefghijklm").map mkMany
def wideR : List MR.Row := (MN.tl "abcde").map mkWide
def loopR : List MR.Row := (MN.tl "ab").map mkLoop
def many3 : List MR.Row := manyR.take 3 ++ [⟨"k", "1a", []⟩] ++ manyR.drop 4
def wide2 : List MR.Row := [mkWide 97, ⟨"kb", "1a", []⟩] ++ wideR.drop 2
def loop2 : List MR.Row := [⟨"c", "mc", []⟩] ++ loopR.reverse
def a24 : Str := ⟨(List.replicate 24 97).toArray⟩
def b24 : Str := ⟨(List.replicate 24 98).toArray⟩
def c24 : Str := ⟨(List.replicate 24 99).toArray⟩
def fullP : List MR.Part := [⟨c24, "byte", none⟩, ⟨"d", a24, some 1000⟩, ⟨"e", a24, some 1⟩, ⟨"f9Z", "byte", none⟩]
def fullR : List MR.Row := [⟨a24, b24, fullP⟩, ⟨a24, "Z", []⟩]
theorem v_m12 : MB.Small (manyR.take 12) ∧ MB.Verd (manyR.take 12) none := ⟨MB.small_of (by decide +kernel), MB.good_of (n := 1) (by decide +kernel)⟩
theorem v_m13 : MB.Small manyR ∧ MB.Verd manyR (some 12) := ⟨MB.small_of (by decide +kernel), MB.one_of (by decide +kernel)⟩
theorem v_nil : MB.Small [] ∧ MB.Verd [] (some 0) := ⟨MB.small_of (by decide +kernel), .empty rfl⟩
theorem v_m3 : MB.Small many3 ∧ MB.Verd many3 (some 3) := ⟨MB.small_of (by decide +kernel), MB.one_of (by decide +kernel)⟩
theorem v_w2 : MB.Small wide2 ∧ MB.Verd wide2 (some 1) := ⟨MB.small_of (by decide +kernel), MB.one_of (by decide +kernel)⟩
theorem v_l : MB.Small loopR ∧ MB.Verd loopR (some 0) := ⟨MB.small_of (by decide +kernel), MB.three_of (n := 1) (k := "ka") (by decide +kernel)⟩
theorem v_l2 : MB.Small loop2 ∧ MB.Verd loop2 (some 1) := ⟨MB.small_of (by decide +kernel), MB.three_of (n := 1) (k := "kb") (by decide +kernel)⟩
theorem v_w4 : MB.Small (wideR.take 4) ∧ MB.Verd (wideR.take 4) none := ⟨MB.small_of (by decide +kernel), MB.good_of (n := 1) (by decide +kernel)⟩
theorem v_w5 : MB.Small wideR ∧ MB.Verd wideR (some 4) := ⟨MB.small_of (by decide +kernel), MB.one_of (by decide +kernel)⟩
theorem v_f : MB.Small fullR ∧ MB.Verd fullR none := ⟨MB.small_of (by decide +kernel), MB.good_of (n := 1) (by decide +kernel)⟩
def c__law_tables (K : PySem.W.Frag) : Ct := fun L as ds O k e => ∃ (a : Addr) (ns : List Int) (nms : List Str) (rows : List MR.Row), L = [] ∧ as = [a] ∧ ds = [.adr a, .lst (rows.map MR.dRow)] ∧ O = [.lst (ns.map D.int)] ∧ MR.Table nms rows ∧ (rows.length ≤ 9 ∧ ∀ r ∈ rows, r.maker.length ≤ 14) ∧
  ∀ (ns' : List Int), k [a] (.bl true) [.lst (ns'.map D.int)]
theorem l__law_tables {K : PySem.W.Frag} : ∀ L as ds O k e, c__law_tables K L as ds O k e → ds.length = 2 := fun L as ds O k e h => by
  obtain ⟨a, ns, nms, rows, _, _, rfl, _⟩ := h
  rfl
theorem ok__law_tables {P : Program} {w : World} {K : PySem.W.Frag} {mg : Str → Option Value} {base : Heap} (Z : Tx P w K mg) : FnOk P w K mg base (L2.CX P w) 7 (He.ga K "_law_tables") (fdAt K ("_law_tables", none)) ["_law_pool_here", "_law_rows_here"] (spC (c__law_tables K)) := by
  refine FunD.ok (k := 6) (F__law_tables Z) sc__law_tables (sp_len (n := 2) l__law_tables) (fun cdv A outer s H vs Q E hr h => ⟨_, PSs.nox ((pss_cons (ps_set (i := 2) sc__law_tables.nd rfl (Or.inl rfl) (pe_call (ok__law_take Z) (hr.mono (by decide)) (by rfl) (Z.glo 2 rfl) (Z.kp 2 rfl) (b__law_take Z) .nil passN (pa_cons (pv 0) (pa_cons (pe_op op_add (pe_callB (r := fun xs H Q => ∃ x n, xs = [x] ∧ LenV K x H n ∧ Q (.int n) H) call_len (by rfl) (Z.free 3 rfl) PySem.boot_len (pa_cons (pv 1) pa_nil)) pe_int) pa_nil))))
  (pss_cons (ps_set (i := 3) sc__law_tables.nd rfl (Or.inl rfl) (pe_op op_repS pe_str pe_int))
  (pss_cons (ps_set (i := 4) sc__law_tables.nd rfl (Or.inl rfl) (pe_op op_cat (pe_op op_cat (pe_slice sl_list (pv 1) po_none (po_some (pv 2))) (pe_lst (pa_cons (pe_tup (pa_cons (pv 3) (pa_cons (pe_op op_repS pe_str pe_int) (pa_cons (pe_tup (pa_cons (pe_tup (pa_cons pe_str (pa_cons pe_str pa_nil))) (pa_cons (pe_tup (pa_cons pe_str (pa_cons (pv 3) (pa_cons pe_int pa_nil)))) pa_nil))) pa_nil)))) pa_nil))) (pe_slice sl_list (pv 1) (po_some (pv 2)) po_none)))
  (pss_cons (ps_if (PW.pt (pw_or (pt_cmpR op_ne (pe_call (ok__law_bad_row Z) (hr.mono (by decide)) (by rfl) (Z.glo 7 rfl) (Z.kp 4 rfl) (b__law_bad_row Z) .nil passN (pa_cons (pv 4) pa_nil)) (pv 2) (nomark _)) (pw_or1 (pt_cmpR op_ne (pe_call (ok__law_bad_row Z) (hr.mono (by decide)) (by rfl) (Z.glo 7 rfl) (Z.kp 4 rfl) (b__law_bad_row Z) .nil passN (pa_cons (pe_op op_cat (pv 4) (pe_lst (pa_cons (pe_tup (pa_cons (pv 3) (pa_cons (pe_op op_repS pe_str pe_int) (pa_cons (pe_tup pa_nil) pa_nil)))) pa_nil))) pa_nil)) (pe_un un_neg pe_int) (nomark _)))))
  (pss_one (ps_ret pe_bl))
  pss_nil)
  (pss_cons (ps_if (pt_cmpR op_ne (pe_call (ok__law_bad_row Z) (hr.mono (by decide)) (by rfl) (Z.glo 7 rfl) (Z.kp 4 rfl) (b__law_bad_row Z) .nil passN (pa_cons (pe_op op_cat (pv 4) (pe_lst (pa_cons (pe_tup (pa_cons (pe_ix (r := rIxT K) ix_tup (pe_ix (r := rIxL K) ix_list (pv 1) pe_int (fun _ _ => rfl)) pe_int (fun _ _ => rfl)) (pa_cons (pe_op op_repS pe_str pe_int) (pa_cons (pe_tup (pa_cons (pe_tup (pa_cons pe_str (pa_cons (pe_op op_repS pe_str pe_int) (pa_cons pe_int pa_nil)))) pa_nil)) pa_nil)))) pa_nil))) pa_nil)) (pe_callB (r := fun xs H Q => ∃ x n, xs = [x] ∧ LenV K x H n ∧ Q (.int n) H) call_len (by rfl) (Z.free 3 rfl) PySem.boot_len (pa_cons (pv 4) pa_nil)) (nomark _))
  (pss_one (ps_ret pe_bl))
  pss_nil)
  (pss_cons (ps_setLc (i := 5) rfl sc__law_tables.nd rfl rfl (sw_true rfl rfl rfl (by decide +kernel)) (pi_str pe_str) (blkOk_by (own := [("_law_letter", 9)]) (N := N__law_tables) (sc := defScope s__law_tables) (by decide +kernel)) (fun _ _ _ _ _ => (pg_name (i := 9) sc__law_tables.nd rfl (by first | exact Or.inl rfl | exact Or.inr rfl))) (fun _ _ _ _ _ => pts_nil) (fun _ _ _ _ _ => (pe_tup (pa_cons pe_str (pa_cons (pe_op op_add_str pe_str (pv 9)) (pa_cons (pe_tup pa_nil) pa_nil))))))
  (pss_cons (ps_if (PW.pt (pw_or (pt_cmpR op_ne (pe_call (ok__law_bad_row Z) (hr.mono (by decide)) (by rfl) (Z.glo 7 rfl) (Z.kp 4 rfl) (b__law_bad_row Z) .nil passN (pa_cons (pe_slice sl_list (pv 5) po_none (po_some pe_int)) pa_nil)) (pe_un un_neg pe_int) (nomark _)) (pw_or (pt_cmpR op_ne (pe_call (ok__law_bad_row Z) (hr.mono (by decide)) (by rfl) (Z.glo 7 rfl) (Z.kp 4 rfl) (b__law_bad_row Z) .nil passN (pa_cons (pv 5) pa_nil)) pe_int (nomark _)) (pw_or1 (pt_cmpR op_ne (pe_call (ok__law_bad_row Z) (hr.mono (by decide)) (by rfl) (Z.glo 7 rfl) (Z.kp 4 rfl) (b__law_bad_row Z) .nil passN (pa_cons (pe_lst pa_nil) pa_nil)) pe_int (nomark _))))))
  (pss_one (ps_ret pe_bl))
  pss_nil)
  (pss_cons (ps_if (pt_cmpR op_ne (pe_call (ok__law_bad_row Z) (hr.mono (by decide)) (by rfl) (Z.glo 7 rfl) (Z.kp 4 rfl) (b__law_bad_row Z) .nil passN (pa_cons (pe_op op_cat (pe_op op_cat (pe_slice sl_list (pv 5) po_none (po_some pe_int)) (pe_lst (pa_cons (pe_tup (pa_cons pe_str (pa_cons pe_str (pa_cons (pe_tup pa_nil) pa_nil)))) pa_nil))) (pe_slice sl_list (pv 5) (po_some pe_int) po_none)) pa_nil)) pe_int (nomark _))
  (pss_one (ps_ret pe_bl))
  pss_nil)
  (pss_cons (ps_setLc (i := 6) rfl sc__law_tables.nd rfl rfl (sw_true rfl rfl rfl (by decide +kernel)) (pi_str pe_str) (blkOk_by (own := [("_law_letter", 9)]) (N := N__law_tables) (sc := defScope s__law_tables) (by decide +kernel)) (fun _ _ _ _ _ => (pg_name (i := 9) sc__law_tables.nd rfl (by first | exact Or.inl rfl | exact Or.inr rfl))) (fun _ _ _ _ _ => pts_nil) (fun _ _ _ _ _ => (pe_tup (pa_cons (pe_op op_add_str pe_str (pv 9)) (pa_cons (pe_op op_add_str pe_str (pv 9)) (pa_cons (pe_tup pa_nil) pa_nil))))))
  (pss_cons (ps_if (pt_cmpR op_ne (pe_call (ok__law_bad_row Z) (hr.mono (by decide)) (by rfl) (Z.glo 7 rfl) (Z.kp 4 rfl) (b__law_bad_row Z) .nil passN (pa_cons (pe_op op_cat (pe_lst (pa_cons (pe_ix (r := rIxL K) ix_list (pv 6) pe_int (fun _ _ => rfl)) (pa_cons (pe_tup (pa_cons pe_str (pa_cons pe_str (pa_cons (pe_tup pa_nil) pa_nil)))) pa_nil))) (pe_slice sl_list (pv 6) (po_some pe_int) po_none)) pa_nil)) pe_int (nomark _))
  (pss_one (ps_ret pe_bl))
  pss_nil)
  (pss_cons (ps_setLc (i := 7) rfl sc__law_tables.nd rfl rfl (sw_true rfl rfl rfl (by decide +kernel)) (pi_str pe_str) (blkOk_by (own := [("_law_letter", 9)]) (N := N__law_tables) (sc := defScope s__law_tables) (by decide +kernel)) (fun _ _ _ _ _ => (pg_name (i := 9) sc__law_tables.nd rfl (by first | exact Or.inl rfl | exact Or.inr rfl))) (fun _ _ _ _ _ => pts_nil) (fun _ _ _ _ _ => (pe_tup (pa_cons (pe_op op_add_str pe_str (pv 9)) (pa_cons (pe_op op_add_str pe_str (pv 9)) (pa_cons (pe_tup (pa_cons (pe_tup (pa_cons pe_str (pa_cons (pe_op op_add_str pe_str (pv 9)) (pa_cons pe_int pa_nil)))) pa_nil)) pa_nil))))))
  (pss_cons (ps_if (PW.pt (pw_or (pt_cmpR op_ne (pe_call (ok__law_bad_row Z) (hr.mono (by decide)) (by rfl) (Z.glo 7 rfl) (Z.kp 4 rfl) (b__law_bad_row Z) .nil passN (pa_cons (pv 7) pa_nil)) pe_int (nomark _)) (pw_or1 (pt_cmpR op_ne (pe_call (ok__law_bad_row Z) (hr.mono (by decide)) (by rfl) (Z.glo 7 rfl) (Z.kp 4 rfl) (b__law_bad_row Z) .nil passN (pa_cons (pe_op op_cat (pe_lst (pa_cons (pe_tup (pa_cons pe_str (pa_cons pe_str (pa_cons (pe_tup pa_nil) pa_nil)))) pa_nil)) (pe_revL (pv 7))) pa_nil)) pe_int (nomark _)))))
  (pss_one (ps_ret pe_bl))
  pss_nil)
  (pss_cons (ps_if (PW.pt (pw_or (pt_cmpR op_ne (pe_call (ok__law_bad_row Z) (hr.mono (by decide)) (by rfl) (Z.glo 7 rfl) (Z.kp 4 rfl) (b__law_bad_row Z) .nil passN (pa_cons (pe_slice sl_list (pv 6) po_none (po_some pe_int)) pa_nil)) (pe_un un_neg pe_int) (nomark _)) (pw_or1 (pt_cmpR op_ne (pe_call (ok__law_bad_row Z) (hr.mono (by decide)) (by rfl) (Z.glo 7 rfl) (Z.kp 4 rfl) (b__law_bad_row Z) .nil passN (pa_cons (pv 6) pa_nil)) pe_int (nomark _)))))
  (pss_one (ps_ret pe_bl))
  pss_nil)
  (pss_cons (ps_set (i := 8) sc__law_tables.nd rfl (Or.inl rfl) (pe_tup (pa_cons (pe_tup (pa_cons (pe_op op_repS pe_str pe_int) (pa_cons pe_str pa_nil))) (pa_cons (pe_tup (pa_cons pe_str (pa_cons (pe_op op_repS pe_str pe_int) (pa_cons pe_int pa_nil)))) (pa_cons (pe_tup (pa_cons pe_str (pa_cons (pe_op op_repS pe_str pe_int) (pa_cons pe_int pa_nil)))) (pa_cons (pe_tup (pa_cons pe_str (pa_cons pe_str pa_nil))) pa_nil))))))
  (pss_one (ps_ret (pe_cmpR op_eq (pe_call (ok__law_bad_row Z) (hr.mono (by decide)) (by rfl) (Z.glo 7 rfl) (Z.kp 4 rfl) (b__law_bad_row Z) .nil passN (pa_cons (pe_lst (pa_cons (pe_tup (pa_cons (pe_op op_repS pe_str pe_int) (pa_cons (pe_op op_repS pe_str pe_int) (pa_cons (pv 8) pa_nil)))) (pa_cons (pe_tup (pa_cons (pe_op op_repS pe_str pe_int) (pa_cons pe_str (pa_cons (pe_tup pa_nil) pa_nil)))) pa_nil))) pa_nil)) (pe_un un_neg pe_int) (nomark _))))))))))))))))))), enter h fun L as ds O k e c => ?_⟩)
  obtain ⟨a, ns, nms, rows, rfl, rfl, rfl, rfl, hT, ⟨h9, h14⟩, hk⟩ := c
  have hpos : 0 < rows.length := by
    cases e : rows with
    | nil => exact absurd e hT.ne
    | cons x y => exact Nat.succ_pos _
  refine s_seq (s_set (d_call [0] (w_cons (w_var rfl (w_cons (w_op (w_cb (w_cons (w_var rfl (w_nil (rc_len (n := rows.length) (List.length_map ..).symm (w_int (rv_i0 (w_nil (call_take rfl rfl (by omega) fun v ns1 v0 v1 => ?_)))))))))))))))
  obtain ⟨p, rfl⟩ : ∃ p : Nat, v = (p : Nat) := ⟨v.toNat, (Int.toNat_of_nonneg v0).symm⟩
  have hp : p ≤ rows.length := by omega
  refine s_seq (s_set (w_op (w_str (w_int (rv_repS (c := 122) (n := 20) (by decide) (by decide) ?_)))))
  have hE : (rows.map MR.dRow).take p ++ [MR.dRow MB.eRow] ++ (rows.map MR.dRow).drop p = (MB.endR rows p).map MR.dRow := by
    unfold MB.endR
    rw [List.map_append, List.map_append, List.map_take, List.map_drop]
    rfl
  have hEl := MB.end_len rows p
  refine s_seq (s_set (w_known (w_op (w_known (w_op (w_known (w_sl (w_var rfl (o_none (o_some (w_var rfl ⟨_, rfl, rsK ?_⟩)))))))))))
  rw [cut_to (by rw [List.length_map]; exact hp)]
  refine w_lstF (w_cons (w_tup (w_cons (w_var rfl (w_cons (w_op (w_str (w_int (rv_repS (c := 121) (n := 20) (by decide) (by decide) (w_cons (w_tup (w_cons (w_tup (w_cons (w_str (w_cons (w_str (w_nil ⟨show 2 ≤ sizeLine by decide, w_cons (w_tup (w_cons (w_str (w_cons (w_var rfl (w_cons (w_int (w_nil ⟨show 3 ≤ sizeLine by decide, w_nil ⟨show 2 ≤ sizeLine by decide, w_nil ⟨show 3 ≤ sizeLine by decide, w_nil ⟨show 1 ≤ sizeLine by decide, ?_⟩⟩⟩⟩))))))))⟩))))))))))))))))))
  refine rvK (small (by rw [List.length_take, List.length_map]; show _ + 1 ≤ _; omega)) ?_
  refine w_known (w_sl (w_var rfl (o_some (w_var rfl ⟨_, rfl, o_none (rsK ?_)⟩))))
  rw [cut_from]
  refine rvK (small (by rw [List.length_append, List.length_take, List.length_drop, List.length_map]; show _ + 1 + _ ≤ _; omega)) ?_
  refine s_eq (as' := [a]) (ρ' := [some (.adr a), some (.lst (rows.map MR.dRow)), some (.int (p : Nat)), some (.str MB.z20), some (.lst ((MB.endR rows p).map MR.dRow)), none, none, none, none, none]) (O' := [.lst (ns1.map D.int)]) rfl (by rw [← hE]; rfl) rfl ?_
  have sE := MB.small_end hT h9 p
  have lE : (MB.endR rows p).length ≤ 10 := by omega
  refine s_seq (s_if (w_or (w_test (w_op (d_call [] (w_cons (w_var rfl (w_nil (call_bad rfl sE (MB.verd_end hT h9 h14 hp) (w_var rfl (rv_ne rfl ⟨_, rfl, i_F ne_self ?_⟩)))))))))))
  refine w_test (w_op (d_call [] (w_cons (w_known (w_op (w_var rfl (w_lstF (w_cons (w_tup (w_cons (w_var rfl (w_cons (w_op (w_str (w_int (rv_repS (c := 120) (n := 20) (by decide) (by decide) (w_cons (w_tup (w_nil ⟨Nat.zero_le _, w_nil ⟨show 3 ≤ sizeLine by decide, w_nil ⟨show 1 ≤ sizeLine by decide, rvK (small (by rw [List.length_map]; show _ + 1 ≤ _; omega)) ?_⟩⟩⟩)))))))))))))))))))
  refine w_nil (call_bad (rows := MB.endR rows p ++ [MB.xRow]) (by rw [List.map_append]; rfl) (MB.small_snoc sE (by omega) MB.small_x) (MB.verd_endx hT h9 h14 p) (w_un (w_int (ru_negO (rv_ne rfl ⟨_, rfl, i_F ne_self (s_next ?_)⟩)))))
  obtain ⟨r0, hr0⟩ : ∃ r0, rows[0]? = some r0 := ⟨_, List.getElem?_eq_getElem hpos⟩
  have mk0 : r0.kind ∈ nms := hT.some.kind _ (List.mem_of_getElem? hr0)
  refine s_seq (s_if (w_test (w_op (d_call [] (w_cons (w_known (w_op (w_var rfl (w_lstF (w_cons (w_tup (w_cons (w_op (w_op (w_var rfl (w_int (rv_ixL (d := MR.dRow r0) (atI_nat (j := 0) (by rw [List.getElem?_map, hr0]; rfl)) (w_int (rv_ixT (d := .str r0.kind) rfl ?_)))))))))))))))))))
  refine w_cons (w_op (w_str (w_int (rv_repS (c := 119) (n := 20) (by decide) (by decide) (w_cons (w_tup (w_cons (w_tup (w_cons (w_str (w_cons (w_op (w_str (w_int (rv_repS (c := 113) (n := 24) (by decide) (by decide) (w_cons (w_int (w_nil ⟨show 3 ≤ sizeLine by decide, w_nil ⟨show 1 ≤ sizeLine by decide, w_nil ⟨show 3 ≤ sizeLine by decide, w_nil ⟨show 1 ≤ sizeLine by decide, rvK (small (by rw [List.length_map]; show _ + 1 ≤ _; omega)) ?_⟩⟩⟩⟩))))))))))))))))))
  refine w_nil (call_bad (rows := MB.endR rows p ++ [MB.wRow r0.kind]) (by rw [List.map_append]; rfl) (MB.small_snoc sE (by omega) (MB.small_w (Nat.le_trans (hT.names.name _ mk0).2 (by decide)))) (MB.verd_endw hT h9 h14 p mk0) ?_)
  refine w_cb (w_cons (w_var rfl (w_nil (rc_len (n := (MB.endR rows p).length) (List.length_map ..).symm (rv_ne rfl ⟨_, rfl, i_F ne_self (s_next ?_)⟩)))))
  refine s_seq (s_set (w_known (w_map (wg_name (by decide)) (i_str (w_str ⟨_, rfl, MN.tl "abcdefghijklm", fun c => .str (one c), fun c => MR.dRow (mkMany c), rfl, smallt (by decide), fun c m => ?_, fun q => ⟨q, _, _, _, rfl, rfl, rfl, ?_⟩⟩)))))
  · exact g_name ⟨rfl, rfl, w_tup (w_cons (w_str (w_cons (w_op (w_str (w_var rfl (rv_addS (show 1 + 1 ≤ sizeLine by decide) (w_cons (w_tup (w_nil ⟨Nat.zero_le _, w_nil ⟨show 3 ≤ sizeLine by decide, rfl, rfl, rfl⟩⟩))))))))) )⟩
  refine s_eq (as' := [a]) (ρ' := [some (.adr a), some (.lst (rows.map MR.dRow)), some (.int (p : Nat)), some (.str MB.z20), some (.lst ((MB.endR rows p).map MR.dRow)), some (.lst (manyR.map MR.dRow)), none, none, none, none]) (O' := [.lst (ns1.map D.int)]) rfl (by unfold manyR; rw [List.map_map]; rfl) rfl ?_
  have c12 : cutD (manyR.map MR.dRow) none (some 12) = (manyR.take 12).map MR.dRow := by rw [show (12 : Int) = ((12 : Nat) : Int) from rfl, cut_to (by rw [List.length_map]; decide +kernel), List.map_take]
  have c3 : cutD (manyR.map MR.dRow) none (some 3) = (manyR.take 3).map MR.dRow := by rw [show (3 : Int) = ((3 : Nat) : Int) from rfl, cut_to (by rw [List.length_map]; decide +kernel), List.map_take]
  have c4 : cutD (manyR.map MR.dRow) (some 4) none = (manyR.drop 4).map MR.dRow := by rw [show (4 : Int) = ((4 : Nat) : Int) from rfl, cut_from, List.map_drop]
  refine s_seq (s_if (w_or (w_test (w_op (d_call [] (w_cons (w_known (w_sl (w_var rfl (o_none (o_some (w_int ⟨_, rfl, rsK (w_nil (call_bad c12 v_m12.1 v_m12.2 (w_un (w_int (ru_negO (rv_ne rfl ⟨_, rfl, i_F ne_self ?_⟩))))))⟩))))))))))))
  refine w_or (w_test (w_op (d_call [] (w_cons (w_var rfl (w_nil (call_bad rfl v_m13.1 v_m13.2 (w_int (rv_ne rfl ⟨_, rfl, i_F ne_self ?_⟩)))))))))
  refine w_test (w_op (d_call [] (w_cons (w_lstF (w_nil ⟨Nat.zero_le _, w_nil (call_bad (rows := []) rfl v_nil.1 v_nil.2 (w_int (rv_ne rfl ⟨_, rfl, i_F ne_self (s_next ?_)⟩)))⟩)))))
  refine s_seq (s_if (w_test (w_op (d_call [] (w_cons (w_known (w_op (w_known (w_op (w_known (w_sl (w_var rfl (o_none (o_some (w_int ⟨_, rfl, rsK ?_⟩)))))))))))))) )
  rw [c3]
  refine w_lstF (w_cons (w_tup (w_cons (w_str (w_cons (w_str (w_cons (w_tup (w_nil ⟨Nat.zero_le _, w_nil ⟨show 3 ≤ sizeLine by decide, w_nil ⟨show 1 ≤ sizeLine by decide, rvK (small (by decide +kernel)) ?_⟩⟩⟩)))))))))
  refine w_known (w_sl (w_var rfl (o_some (w_int ⟨_, rfl, o_none (rsK ?_)⟩))))
  rw [c4]
  refine rvK (small (by decide +kernel)) ?_
  refine w_nil (call_bad (rows := many3) (by unfold many3; rw [List.map_append, List.map_append]; rfl) v_m3.1 v_m3.2 (w_int (rv_ne rfl ⟨_, rfl, i_F ne_self (s_next ?_)⟩)))
  refine s_seq (s_set (w_known (w_map (wg_name (by decide)) (i_str (w_str ⟨_, rfl, MN.tl "abcde", fun c => .str (one c), fun c => MR.dRow (mkWide c), rfl, smallt (by decide), fun c m => ?_, fun q => ⟨q, _, _, _, rfl, rfl, rfl, ?_⟩⟩)))))
  · exact g_name ⟨rfl, rfl, w_tup (w_cons (w_op (w_str (w_var rfl (rv_addS (show 1 + 1 ≤ sizeLine by decide) (w_cons (w_op (w_str (w_var rfl (rv_addS (show 1 + 1 ≤ sizeLine by decide) (w_cons (w_tup (w_nil ⟨Nat.zero_le _, w_nil ⟨show 3 ≤ sizeLine by decide, rfl, rfl, rfl⟩⟩)))))))))))))⟩
  refine s_eq (as' := [a]) (ρ' := [some (.adr a), some (.lst (rows.map MR.dRow)), some (.int (p : Nat)), some (.str MB.z20), some (.lst ((MB.endR rows p).map MR.dRow)), some (.lst (manyR.map MR.dRow)), some (.lst (wideR.map MR.dRow)), none, none, none]) (O' := [.lst (ns1.map D.int)]) rfl (by unfold wideR; rw [List.map_map]; rfl) rfl ?_
  have d2 : cutD (wideR.map MR.dRow) (some 2) none = (wideR.drop 2).map MR.dRow := by rw [show (2 : Int) = ((2 : Nat) : Int) from rfl, cut_from, List.map_drop]
  have d4 : cutD (wideR.map MR.dRow) none (some 4) = (wideR.take 4).map MR.dRow := by rw [show (4 : Int) = ((4 : Nat) : Int) from rfl, cut_to (by rw [List.length_map]; decide +kernel), List.map_take]
  refine s_seq (s_if (w_test (w_op (d_call [] (w_cons (w_known (w_op (w_lstF (w_cons (w_op (w_var rfl (w_int (rv_ixL (d := MR.dRow (mkWide 97)) rfl (w_cons (w_tup (w_cons (w_str (w_cons (w_str (w_cons (w_tup (w_nil ⟨Nat.zero_le _, w_nil ⟨show 3 ≤ sizeLine by decide, w_nil ⟨show 2 ≤ sizeLine by decide, ?_⟩⟩⟩))))))))))))))))))))))
  refine w_known (w_sl (w_var rfl (o_some (w_int ⟨_, rfl, o_none (rsK ?_)⟩))))
  rw [d2]
  refine rvK (small (by decide +kernel)) ?_
  refine w_nil (call_bad (rows := wide2) (by unfold wide2; rw [List.map_append]; rfl) v_w2.1 v_w2.2 (w_int (rv_ne rfl ⟨_, rfl, i_F ne_self (s_next ?_)⟩)))
  refine s_seq (s_set (w_known (w_map (wg_name (by decide)) (i_str (w_str ⟨_, rfl, MN.tl "ab", fun c => .str (one c), fun c => MR.dRow (mkLoop c), rfl, smallt (by decide), fun c m => ?_, fun q => ⟨q, _, _, _, rfl, rfl, rfl, ?_⟩⟩)))))
  · exact g_name ⟨rfl, rfl, w_tup (w_cons (w_op (w_str (w_var rfl (rv_addS (show 1 + 1 ≤ sizeLine by decide) (w_cons (w_op (w_str (w_var rfl (rv_addS (show 1 + 1 ≤ sizeLine by decide) (w_cons (w_tup (w_cons (w_tup (w_cons (w_str (w_cons (w_op (w_str (w_var rfl (rv_addS (show 1 + 1 ≤ sizeLine by decide) (w_cons (w_int (w_nil ⟨show 3 ≤ sizeLine by decide, w_nil ⟨show 1 ≤ sizeLine by decide, w_nil ⟨show 3 ≤ sizeLine by decide, rfl, rfl, rfl⟩⟩⟩))))))))))))))))))))))))⟩
  refine s_eq (as' := [a]) (ρ' := [some (.adr a), some (.lst (rows.map MR.dRow)), some (.int (p : Nat)), some (.str MB.z20), some (.lst ((MB.endR rows p).map MR.dRow)), some (.lst (manyR.map MR.dRow)), some (.lst (wideR.map MR.dRow)), some (.lst (loopR.map MR.dRow)), none, none]) (O' := [.lst (ns1.map D.int)]) rfl (by unfold loopR; rw [List.map_map]; rfl) rfl ?_
  refine s_seq (s_if (w_or (w_test (w_op (d_call [] (w_cons (w_var rfl (w_nil (call_bad rfl v_l.1 v_l.2 (w_int (rv_ne rfl ⟨_, rfl, i_F ne_self ?_⟩)))))))))))
  refine w_test (w_op (d_call [] (w_cons (w_known (w_op (w_lstF (w_cons (w_tup (w_cons (w_str (w_cons (w_str (w_cons (w_tup (w_nil ⟨Nat.zero_le _, w_nil ⟨show 3 ≤ sizeLine by decide, w_nil ⟨show 1 ≤ sizeLine by decide, ?_⟩⟩⟩)))))))))))))))
  refine w_known (w_rev (w_var rfl ⟨_, .inl lo_f, fun q => ⟨q, _, _, _, rfl, rfl, rfl, ?_⟩⟩))
  refine rvK (small (by decide +kernel)) ?_
  refine w_nil (call_bad (rows := loop2) (by unfold loop2; rw [List.map_append, List.map_reverse]; rfl) v_l2.1 v_l2.2 (w_int (rv_ne rfl ⟨_, rfl, i_F ne_self (s_next ?_)⟩)))
  refine s_seq (s_if (w_or (w_test (w_op (d_call [] (w_cons (w_known (w_sl (w_var rfl (o_none (o_some (w_int ⟨_, rfl, rsK (w_nil (call_bad d4 v_w4.1 v_w4.2 (w_un (w_int (ru_negO (rv_ne rfl ⟨_, rfl, i_F ne_self ?_⟩))))))⟩))))))))))))
  refine w_test (w_op (d_call [] (w_cons (w_var rfl (w_nil (call_bad rfl v_w5.1 v_w5.2 (w_int (rv_ne rfl ⟨_, rfl, i_F ne_self (s_next ?_)⟩))))))))
  refine s_seq (s_set (w_tup (w_cons (w_tup (w_cons (w_op (w_str (w_int (rv_repS (c := 99) (n := 24) (by decide) (by decide) (w_cons (w_str (w_nil ⟨show 2 ≤ sizeLine by decide, ?_⟩))))))))))))
  refine w_cons (w_tup (w_cons (w_str (w_cons (w_op (w_str (w_int (rv_repS (c := 97) (n := 24) (by decide) (by decide) (w_cons (w_int (w_nil ⟨show 3 ≤ sizeLine by decide, ?_⟩)))))))))))
  refine w_cons (w_tup (w_cons (w_str (w_cons (w_op (w_str (w_int (rv_repS (c := 97) (n := 24) (by decide) (by decide) (w_cons (w_int (w_nil ⟨show 3 ≤ sizeLine by decide, ?_⟩)))))))))))
  refine w_cons (w_tup (w_cons (w_str (w_cons (w_str (w_nil ⟨show 2 ≤ sizeLine by decide, w_nil ⟨show 4 ≤ sizeLine by decide, ?_⟩⟩))))))
  refine s_ret (w_op (d_call [] (w_cons (w_lstF (w_cons (w_tup (w_cons (w_op (w_str (w_int (rv_repS (c := 97) (n := 24) (by decide) (by decide) (w_cons (w_op (w_str (w_int (rv_repS (c := 98) (n := 24) (by decide) (by decide) (w_cons (w_var rfl (w_nil ⟨show 3 ≤ sizeLine by decide, ?_⟩)))))))))))))))))))
  refine w_cons (w_tup (w_cons (w_op (w_str (w_int (rv_repS (c := 97) (n := 24) (by decide) (by decide) (w_cons (w_str (w_cons (w_tup (w_nil ⟨Nat.zero_le _, w_nil ⟨show 3 ≤ sizeLine by decide, w_nil ⟨show 2 ≤ sizeLine by decide, ?_⟩⟩⟩)))))))))))
  refine w_nil (call_bad (rows := fullR) rfl v_f.1 v_f.2 (w_un (w_int (ru_negO (rv_eq rfl ?_)))))
  exact hk ns1
def c_law (K : PySem.W.Frag) : Ct := fun L as ds O k e => ∃ (d : D) (ns : List Int), L = [] ∧ as = [] ∧ ds = [d] ∧ O = [] ∧ lstR [] [] K d (ns.map D.int) ∧ ns.length ≤ 63 ∧ ∀ as' O', k as' (.bl true) O'
theorem l_law {K : PySem.W.Frag} : ∀ L as ds O k e, c_law K L as ds O k e → ds.length = 1 := fun L as ds O k e h => by
  obtain ⟨d, ns, _, _, rfl, _⟩ := h
  rfl
theorem rc_intB {L as : List Addr} {O : List D} {k : List Addr → D → List D → Prop} {b : Bool} (z : k as (.int (if b then 1 else 0)) O) : rc (fun xs H Q => (∃ i, xs = [V.int i] ∧ Q (V.int i) H) ∨ ∃ b, xs = [V.bl b] ∧ Q (V.int (if b then 1 else 0)) H) L as O [.bl b] k := fun F H xs hd ow r Q q => by
  cases r with
  | cons r1 r2 =>
    cases r2
    cases r1
    exact .inr ⟨b, rfl, q F H as O _ _ (.refl ..) hd ow (.int _) z⟩
theorem ok_law {P : Program} {w : World} {K : PySem.W.Frag} {mg : Str → Option Value} {base : Heap} (Z : Tx P w K mg) : FnOk P w K mg base (L2.CX P w) 8 (He.ga K "law") (fdAt K ("law", none)) ["_law_script"] (spC (c_law K)) := by
  refine FunD.ok (k := 7) (F_law Z) sc_law (sp_len (n := 1) l_law) (fun cdv A outer s H vs Q E hr h => ⟨_, PSs.nox ((pss_cons (ps_set (i := 1) sc_law.nd rfl (Or.inl rfl) (pe_call (ok__law_pool Z) (hr.mono (by decide)) (by rfl) (Z.glo 0 rfl) (Z.kp 0 rfl) (b__law_pool Z) .nil passN (pa_cons (pv 0) pa_nil)))
  (pss_cons (ps_set (i := 2) sc_law.nd rfl (Or.inl rfl) (pe_call (ok__law_rows Z) (hr.mono (by decide)) (by rfl) (Z.glo 1 rfl) (Z.kp 1 rfl) (b__law_rows Z) .nil passN (pa_cons (pv 1) pa_nil)))
  (pss_cons (ps_set (i := 3) sc_law.nd rfl (Or.inl rfl) (pe_call (ok__law_take Z) (hr.mono (by decide)) (by rfl) (Z.glo 2 rfl) (Z.kp 2 rfl) (b__law_take Z) .nil passN (pa_cons (pv 1) (pa_cons (pe_callB (r := fun xs H Q => ∃ x n, xs = [x] ∧ LenV K x H n ∧ Q (.int n) H) call_len (by rfl) (Z.free 3 rfl) PySem.boot_len (pa_cons (pv 2) pa_nil)) pa_nil))))
  (pss_cons (ps_for PassesOwn.never rfl (pi_range1 (by rfl) (Z.free 4 rfl) (pa_cons pe_int pa_nil)) (pg_name (i := 4) sc_law.nd rfl (Or.inl rfl))
  (pss_cons (ps_set (i := 6) sc_law.nd rfl (Or.inl rfl) (pe_callTy call_list_of (by rfl) (Z.free 5 rfl) PyProof.Rows.boot_list (pa_cons (pv 2) pa_nil)))
  (pss_cons (ps_asg (pe_call (ok__law_spoilt Z) (hr.mono (by decide)) (by rfl) (Z.glo 6 rfl) (Z.kp 3 rfl) (b__law_spoilt Z) .nil passN (pa_cons (pv 1) (pa_cons (pv 2) (pa_cons (pv 3) (pa_cons (pv 4) pa_nil))))) (pg_sub (pv 6) (pv 3) set_list))
  (pss_one (ps_if (PW.pt (pw_or (pt_cmpR op_ne (pe_call (ok__law_bad_row Z) (hr.mono (by decide)) (by rfl) (Z.glo 7 rfl) (Z.kp 4 rfl) (b__law_bad_row Z) .nil passN (pa_cons (pv 2) pa_nil)) (pe_un un_neg pe_int) (nomark _)) (pw_or1 (pt_cmpR op_ne (pe_call (ok__law_bad_row Z) (hr.mono (by decide)) (by rfl) (Z.glo 7 rfl) (Z.kp 4 rfl) (b__law_bad_row Z) .nil passN (pa_cons (pv 6) pa_nil)) (pv 3) (nomark _)))))
  (pss_one (ps_ret pe_bl))
  pss_nil)))))
  (pss_cons (ps_set (i := 5) sc_law.nd rfl (Or.inl rfl) (pe_call (ok__law_take Z) (hr.mono (by decide)) (by rfl) (Z.glo 2 rfl) (Z.kp 2 rfl) (b__law_take Z) .nil passN (pa_cons (pv 1) (pa_cons (pe_callB (r := fun xs H Q => ∃ x n, xs = [x] ∧ LenV K x H n ∧ Q (.int n) H) call_len (by rfl) (Z.free 3 rfl) PySem.boot_len (pa_cons (pv 2) pa_nil)) pa_nil))))
  (pss_cons (ps_set (i := 6) sc_law.nd rfl (Or.inl rfl) (pe_callTy call_list_of (by rfl) (Z.free 5 rfl) PyProof.Rows.boot_list (pa_cons (pv 2) pa_nil)))
  (pss_cons (ps_asg (pe_call (ok__law_spoilt Z) (hr.mono (by decide)) (by rfl) (Z.glo 6 rfl) (Z.kp 3 rfl) (b__law_spoilt Z) .nil passN (pa_cons (pv 1) (pa_cons (pv 2) (pa_cons (pv 3) (pa_cons pe_int pa_nil))))) (pg_sub (pv 6) (pv 3) set_list))
  (pss_cons (ps_asg (pe_call (ok__law_spoilt Z) (hr.mono (by decide)) (by rfl) (Z.glo 6 rfl) (Z.kp 3 rfl) (b__law_spoilt Z) .nil passN (pa_cons (pv 1) (pa_cons (pv 2) (pa_cons (pv 5) (pa_cons pe_int pa_nil))))) (pg_sub (pv 6) (pv 5) set_list))
  (pss_cons (ps_if (pt_cmpR op_ne (pe_call (ok__law_bad_row Z) (hr.mono (by decide)) (by rfl) (Z.glo 7 rfl) (Z.kp 4 rfl) (b__law_bad_row Z) .nil passN (pa_cons (pv 6) pa_nil)) (pv 5) (nomark _))
  (pss_one (ps_ret pe_bl))
  pss_nil)
  (pss_cons (ps_for PassesOwn.never rfl (pi_list (pe_lst (pa_cons (pe_tup (pa_cons pe_int (pa_cons pe_int pa_nil))) (pa_cons (pe_tup (pa_cons pe_int (pa_cons pe_int pa_nil))) (pa_cons (pe_tup (pa_cons pe_int (pa_cons pe_int pa_nil))) (pa_cons (pe_tup (pa_cons pe_int (pa_cons pe_int pa_nil))) pa_nil)))))) (pg_name (i := 7) sc_law.nd rfl (Or.inl rfl))
  (pss_cons (ps_set (i := 6) sc_law.nd rfl (Or.inl rfl) (pe_callTy call_list_of (by rfl) (Z.free 5 rfl) PyProof.Rows.boot_list (pa_cons (pv 2) pa_nil)))
  (pss_cons (ps_asg (pe_call (ok__law_spoilt Z) (hr.mono (by decide)) (by rfl) (Z.glo 6 rfl) (Z.kp 3 rfl) (b__law_spoilt Z) .nil passN (pa_cons (pv 1) (pa_cons (pv 2) (pa_cons (pv 3) (pa_cons (pe_ix (r := rIxT K) ix_tup (pv 7) pe_int (fun _ _ => rfl)) pa_nil))))) (pg_sub (pv 6) (pv 3) set_list))
  (pss_cons (ps_asg (pe_call (ok__law_spoilt Z) (hr.mono (by decide)) (by rfl) (Z.glo 6 rfl) (Z.kp 3 rfl) (b__law_spoilt Z) .nil passN (pa_cons (pv 1) (pa_cons (pv 2) (pa_cons (pv 5) (pa_cons (pe_ix (r := rIxT K) ix_tup (pv 7) pe_int (fun _ _ => rfl)) pa_nil))))) (pg_sub (pv 6) (pv 5) set_list))
  (pss_one (ps_if (pt_cmpR op_ne (pe_call (ok__law_bad_row Z) (hr.mono (by decide)) (by rfl) (Z.glo 7 rfl) (Z.kp 4 rfl) (b__law_bad_row Z) .nil passN (pa_cons (pv 6) pa_nil)) (pe_ix (r := rIxL K) ix_list (pe_lst (pa_cons (pv 3) (pa_cons (pv 5) pa_nil))) (pe_callTy call_int1 (by rfl) (Z.free 8 rfl) PyProof.Rows.boot_int (pa_cons (pe_cmpR op_lt (pv 5) (pv 3) (nomark _)) pa_nil)) (fun _ _ => rfl)) (nomark _))
  (pss_one (ps_ret pe_bl))
  pss_nil))))))
  (pss_one (ps_ret (pe_call (ok__law_tables Z) (hr.mono (by decide)) (by rfl) (Z.glo 9 rfl) (Z.kp 5 rfl) (b__law_tables Z) .nil passN (pa_cons (pv 1) (pa_cons (pv 2) pa_nil)))))))))))))))), enter h fun L as ds O k e c => ?_⟩)
  obtain ⟨sd, ns0, rfl, rfl, rfl, rfl, hsd, hns, hk⟩ := c
  refine s_seq (s_set (d_call [] (w_cons (w_var rfl (w_nil ⟨List.nodup_nil, (fun _ m => by cases m), sd, ns0, rfl, rfl, rfl, hsd, hns, fun p0 ns1 => ⟨[p0], [.lst (ns1.map D.int)], [], rfl, rfl, rfl, ?_⟩⟩)))))
  show dS _ _ [] [p0] _ [.lst (ns1.map D.int)] _
  refine s_seq (s_set (d_call [0] (w_cons (w_var rfl (w_nil ⟨by decide, (fun j m => by simp at m; subst m; exact Nat.one_pos), p0, ns1, rfl, rfl, rfl, fun nms rows ns2 hT hshort => ⟨[], [], [.lst (ns2.map D.int)], rfl, rfl, rfl, ?_⟩⟩)))))
  show dS _ _ [] [p0] _ [.lst (ns2.map D.int)] _
  have hlen : rows.length ≤ 10 := hT.some.len
  have hST := MB.table_smallT hT
  have hGT : MB.Verd rows none := MB.table_good hT
  have hpos : 0 < rows.length := by
    cases e : rows with
    | nil => exact absurd e hT.ne
    | cons x y => exact Nat.succ_pos _
  have hml : (rows.map MR.dRow).length = rows.length := List.length_map ..
  refine s_seq (s_set (d_call [0] (w_cons (w_var rfl (w_cons (w_cb (w_cons (w_var rfl (w_nil (rc_len (n := rows.length) hml.symm (w_nil (call_take rfl rfl (by omega) fun v ns3 v0 v1 => ?_))))))))))))
  obtain ⟨p, rfl⟩ : ∃ p : Nat, v = (p : Nat) := ⟨v.toNat, (Int.toNat_of_nonneg v0).symm⟩
  have hp : p < rows.length := by omega
  show dS _ _ [] [p0] _ [.lst (ns3.map D.int)] _
  refine s_seq (s_for (i_range (w_cons (w_int (w_nil ⟨12, rfl, by decide, by decide, fun i as ρ O => ∃ (x4 x6 : Option D) (ns : List Int) (new : List Addr) (cnew : List D), as = [p0] ++ new ∧ ρ = [some sd, some (.adr p0), some (.lst (rows.map MR.dRow)), some (.int (p : Nat)), x4, none, x6, none] ∧ O = [.lst (ns.map D.int)] ++ cnew, ⟨none, none, ns3, [], [], rfl, rfl, rfl⟩, ?_, ?_⟩)))))
  · rintro i as ρ O c hc ⟨x4, x6, ns, new, cnew, rfl, rfl, rfl⟩
    obtain ⟨hi, rfl⟩ := upto_at hc
    have hi : i < 12 := hi
    refine g_name (s_tail rfl ?_)
    refine s_seq (s_set (w_cb (w_cons (w_var rfl (w_nil (rc_listL (ds := rows.map MR.dRow) (.inl lo_f) fun q => ?_))))))
    refine s_seq (s_asg (d_call [0] (w_cons (w_var rfl (w_cons (w_var rfl (w_cons (w_var rfl (w_cons (w_var rfl (w_nil (call_spoilt rfl rfl hT hp (by omega) (by omega) fun x ns' hx => g_subL (w_var rfl (w_var rfl ⟨1, q, rows.map MR.dRow, p, rfl, rfl, rfl, rfl, by rw [hml]; exact hp, ?_⟩))))))))))))))
    refine s_eq (as' := [p0, q]) (ρ' := [some sd, some (.adr p0), some (.lst (rows.map MR.dRow)), some (.int (p : Nat)), some (.int (i : Nat)), none, some (.adr q), none]) (O' := [.lst (ns'.map D.int), .lst ((rows.set p x).map MR.dRow)]) rfl rfl (by rw [List.map_set]; rfl) ?_
    refine s_if (w_or (w_test (w_op (d_call [] (w_cons (w_var rfl (w_nil (call_bad rfl hST hGT (w_un (w_int (ru_negO (rv_ne rfl ⟨_, rfl, i_F ne_self ?_⟩))))))))))))
    refine w_test (w_op (d_call [1] (w_cons (w_var rfl (w_nil (call_badO rfl rfl (MB.small_set hST hx.1) (MB.verd_one hT hp hx) (w_var rfl (rv_ne rfl ⟨_, rfl, i_F ne_self (s_next ?_)⟩))))))))
    exact ⟨_, _, ns', [q], [_], rfl, rfl, rfl⟩
  rintro as ρ O ⟨x4, x6, ns4, new, cnew, rfl, rfl, rfl⟩
  refine s_tail rfl ?_
  refine s_seq (s_set (d_call [0] (w_cons (w_var rfl (w_cons (w_cb (w_cons (w_var rfl (w_nil (rc_len (n := rows.length) hml.symm (w_nil (call_take rfl rfl (by omega) fun v ns5 u0 u1 => ?_))))))))))))
  obtain ⟨o, rfl⟩ : ∃ o : Nat, v = (o : Nat) := ⟨v.toNat, (Int.toNat_of_nonneg u0).symm⟩
  have ho : o < rows.length := by omega
  show dS _ _ [] [p0] _ [.lst (ns5.map D.int)] _
  refine s_seq (s_set (w_cb (w_cons (w_var rfl (w_nil (rc_listL (ds := rows.map MR.dRow) (.inl lo_f) fun q => ?_))))))
  refine s_seq (s_asg (d_call [0] (w_cons (w_var rfl (w_cons (w_var rfl (w_cons (w_var rfl (w_cons (w_int (w_nil (call_spoilt rfl rfl hT hp (by omega) (by omega) fun x ns6 hx => g_subL (w_var rfl (w_var rfl ⟨1, q, rows.map MR.dRow, p, rfl, rfl, rfl, rfl, by rw [hml]; exact hp, ?_⟩))))))))))))))
  refine s_seq (s_asg (d_call [0] (w_cons (w_var rfl (w_cons (w_var rfl (w_cons (w_var rfl (w_cons (w_int (w_nil (call_spoilt rfl rfl hT ho (by omega) (by omega) fun y ns7 hy => g_subL (w_var rfl (w_var rfl ⟨1, q, (rows.map MR.dRow).set p (MR.dRow x), o, rfl, rfl, rfl, rfl, by rw [List.length_set, hml]; exact ho, ?_⟩))))))))))))))
  refine s_eq (as' := [p0, q]) (ρ' := [some sd, some (.adr p0), some (.lst (rows.map MR.dRow)), some (.int (p : Nat)), x4, some (.int (o : Nat)), some (.adr q), none]) (O' := [.lst (ns7.map D.int), .lst (((rows.set p x).set o y).map MR.dRow)]) rfl rfl (by rw [List.map_set, List.map_set]; rfl) ?_
  refine s_seq (s_if (w_test (w_op (d_call [1] (w_cons (w_var rfl (w_nil (call_badO rfl rfl (MB.small_set (MB.small_set hST hx.1) hy.1) (MB.verd_mix hT hp ho hx hy (by decide) (by decide)) (w_var rfl (rv_ne rfl ⟨_, rfl, i_F ne_self (s_next ?_)⟩))))))))))
  refine s_let 1 ?_
  show dS _ _ [] [p0] _ [.lst (ns7.map D.int)] _
  refine s_seq (s_for (i_list (w_lstF (w_cons (w_tup (w_cons (w_int (w_cons (w_int (w_nil ⟨show 2 ≤ sizeLine by decide, ?_⟩))))))))))
  refine w_cons (w_tup (w_cons (w_int (w_cons (w_int (w_nil ⟨show 2 ≤ sizeLine by decide, ?_⟩))))))
  refine w_cons (w_tup (w_cons (w_int (w_cons (w_int (w_nil ⟨show 2 ≤ sizeLine by decide, ?_⟩))))))
  refine w_cons (w_tup (w_cons (w_int (w_cons (w_int (w_nil ⟨show 2 ≤ sizeLine by decide, ?_⟩))))))
  refine w_nil ⟨show 4 ≤ sizeLine by decide, _, rfl, fun i as ρ O => ∃ (x6 x7 : Option D) (ns : List Int) (new : List Addr) (cnew : List D), as = [p0] ++ new ∧ ρ = [some sd, some (.adr p0), some (.lst (rows.map MR.dRow)), some (.int (p : Nat)), x4, some (.int (o : Nat)), x6, x7] ∧ O = [.lst (ns.map D.int)] ++ cnew, ⟨_, _, ns7, [], [], rfl, rfl, rfl⟩, ?_, ?_⟩
  · rintro i as ρ O c hc ⟨x6, x7, ns, new, cnew, rfl, rfl, rfl⟩
    obtain ⟨v, w, rfl, hv0, hv12, hw0, hw12, hv11⟩ : ∃ v w : Int, c = .tup [.int v, .int w] ∧ 0 ≤ v ∧ v < 12 ∧ 0 ≤ w ∧ w < 12 ∧ ((v = 11 ∧ w = 11) ∨ (v ≠ 11 ∧ w ≠ 11)) := by
      rcases i with _ | _ | _ | _ | i
      · cases hc; exact ⟨9, 2, rfl, by decide, by decide, by decide, by decide, .inr ⟨by decide, by decide⟩⟩
      · cases hc; exact ⟨2, 9, rfl, by decide, by decide, by decide, by decide, .inr ⟨by decide, by decide⟩⟩
      · cases hc; exact ⟨11, 11, rfl, by decide, by decide, by decide, by decide, .inl ⟨rfl, rfl⟩⟩
      · cases hc; exact ⟨4, 0, rfl, by decide, by decide, by decide, by decide, .inr ⟨by decide, by decide⟩⟩
      · cases hc
    refine g_name (s_tail rfl ?_)
    refine s_seq (s_set (w_cb (w_cons (w_var rfl (w_nil (rc_listL (ds := rows.map MR.dRow) (.inl lo_f) fun q => ?_))))))
    refine s_seq (s_asg (d_call [0] (w_cons (w_var rfl (w_cons (w_var rfl (w_cons (w_var rfl (w_cons (w_op (w_var rfl (w_int (rv_ixT (d := .int v) rfl (w_nil (call_spoilt rfl rfl hT hp hv0 hv12 fun x ns6 hx => g_subL (w_var rfl (w_var rfl ⟨1, q, rows.map MR.dRow, p, rfl, rfl, rfl, rfl, by rw [hml]; exact hp, ?_⟩)))))))))))))))))
    refine s_seq (s_asg (d_call [0] (w_cons (w_var rfl (w_cons (w_var rfl (w_cons (w_var rfl (w_cons (w_op (w_var rfl (w_int (rv_ixT (d := .int w) rfl (w_nil (call_spoilt rfl rfl hT ho hw0 hw12 fun y ns7 hy => g_subL (w_var rfl (w_var rfl ⟨1, q, (rows.map MR.dRow).set p (MR.dRow x), o, rfl, rfl, rfl, rfl, by rw [List.length_set, hml]; exact ho, ?_⟩)))))))))))))))))
    refine s_eq (as' := [p0, q]) (ρ' := [some sd, some (.adr p0), some (.lst (rows.map MR.dRow)), some (.int (p : Nat)), x4, some (.int (o : Nat)), some (.adr q), some (.tup [.int v, .int w])]) (O' := [.lst (ns7.map D.int), .lst (((rows.set p x).set o y).map MR.dRow)]) rfl rfl (by rw [List.map_set, List.map_set]; rfl) ?_
    have hverd : MB.Verd ((rows.set p x).set o y) (some (if o < p then o else p)) := by
      rcases hv11 with ⟨rfl, rfl⟩ | ⟨e1, e2⟩
      · exact MB.verd_late hT hp ho hx hy
      · exact MB.verd_two hT hp ho hx hy e1 e2
    refine s_if (w_test (w_op (d_call [1] (w_cons (w_var rfl (w_nil (call_badO rfl rfl (MB.small_set (MB.small_set hST hx.1) hy.1) hverd ?_)))))))
    refine w_op (w_lstF (w_cons (w_var rfl (w_cons (w_var rfl (w_nil ⟨show 2 ≤ sizeLine by decide, w_cb (w_cons (w_op (w_var rfl (w_var rfl (rv_b0 (w_nil (rc_intB ?_)))))))⟩))))))
    refine rv_ixL (d := .int ((if o < p then o else p : Nat) : Nat)) ?_ (rv_ne rfl ⟨_, rfl, i_F ne_self (s_next ⟨_, _, ns7, [q], [_], rfl, rfl, rfl⟩)⟩)
    by_cases h : o < p
    · rw [if_pos h, decide_eq_true (show ((o : Nat) : Int) < (p : Nat) by omega)]
      rfl
    · rw [if_neg h, decide_eq_false (show ¬ ((o : Nat) : Int) < (p : Nat) by omega)]
      rfl
  rintro as ρ O ⟨x6, x7, ns8, new, cnew, rfl, rfl, rfl⟩
  refine s_tail rfl ?_
  refine s_ret (d_call [0] (w_cons (w_var rfl (w_cons (w_var rfl (w_nil ?_))))))
  refine ⟨by decide, (fun j m => by simp at m; subst m; exact Nat.one_pos), p0, ns8, nms, rows, rfl, rfl, rfl, rfl, hT, hshort, fun ns9 => ⟨[], [], [_], rfl, rfl, rfl, ?_⟩⟩
  exact hk _ _
theorem facts {P : Program} {w : World} {K : PySem.W.Frag} {h : Heap} {mg : Str → Option Value} {f : Addr} (X : K.In h) (G : h.Ns mainGlobals mg) (hfa : mg ("law" : Str) = some (.ref f)) (c : obsY fa fn xa sd wn ts K = valY fn sd wn ts w) (hP : PFile P) :
    ∃ fd : FuncData, (∀ (s : Shared) (v : Value), BindsTo s fd ⟨[v], []⟩ [("_law_script", v)]) ∧ ∀ base : Heap, K.In base → base.Ns mainGlobals mg → FnOk P w K mg base (L2.CX P w) 8 f fd ["_law_script"] (spC (c_law K)) := by
  have Z : Tx P w K mg := ⟨⟨h, X, G⟩, c, hP⟩
  have e := hfa.symm.trans (Z.glo 52 rfl)
  cases e
  have b := FunD.bindsA (ps := ["_law_script"]) (F_law Z) fun _ _ _ _ _ _ us hl => match us, hl with | [_], _ => rfl
  exact ⟨_, fun s v => b s [v] rfl, fun base _ _ => ok_law Z⟩
end G
open PySem PySem.W PySem.Calls PyProof.Rows
set_option maxHeartbeats 0 in
theorem PySem.Challenge.cw_bytegrove_k03_invalid_kinds_tables_holds : PySem.Challenge.rw_bytegrove_k03_invalid_kinds_tables.Holds := by
  w_on; o_law
  refine HandSHeadRun.head_any (r := OpenLaw.row PySem.Challenge.rw_bytegrove_k03_invalid_kinds_tables) (q := view (OpenLaw.row PySem.Challenge.rw_bytegrove_k03_invalid_kinds_tables).prog [34]) (H := G.hkk) (ob := G.obv) (M := 9000) (loose := G.looseN) (d := HandSHeadRun.topDef (OpenLaw.row PySem.Challenge.rw_bytegrove_k03_invalid_kinds_tables).prog 34) (kwd := []) G.obv_eq
    (by kernel_rfl) (fun s => by kernel_rfl) G.run (by kernel_rfl) (by kernel_rfl) (by kernel_rfl) (by rfl) (by first | assumption | decide +kernel) (by decide +kernel) ⟨rfl, rfl, rfl, rfl, rfl, by decide +kernel⟩ ?hw ?hc
  case hw => w_witness2
  case hc =>
    refine DL.walk_ofW (l := PySem.Challenge.rw_bytegrove_k03_invalid_kinds_tables) (n := 63) (k := 8) (x := "_law_script") (CX := fun w => L2.CX (PySem.Challenge.rw_bytegrove_k03_invalid_kinds_tables).prog w) rfl (by decide) (by kernel_rfl) ⟨rfl, by decide, by decide⟩ ?F (fun _ _ _ _ _ z => DL.cx_none z)
    intro w mg fa h Y G0 hmg0
    obtain ⟨K, KX, c⟩ := Y
    have hmg : mg ("law" : PySem.Str) = some (.ref fa) := by
      have e : (HandSHeadRun.topDef (OpenLaw.row PySem.Challenge.rw_bytegrove_k03_invalid_kinds_tables).prog 34).name = ("law" : PySem.Str) := by kernel_rfl
      rw [← e]
      exact hmg0
    obtain ⟨fd, hb, hF⟩ := G.facts (P := (PySem.Challenge.rw_bytegrove_k03_invalid_kinds_tables).prog) (w := w) KX G0 hmg c ⟨by kernel_rfl, by kernel_rfl⟩
    exact ⟨K, fd, DL.spC (G.c_law K), KX, hb, fun H a ns hl hO hS => DL.law_start hO hS fun d hd => ⟨d, ns, rfl, rfl, rfl, rfl, hd, hl, fun _ _ => rfl⟩, hF⟩
