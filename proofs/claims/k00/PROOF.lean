import PyProof.Rows.All
import Wide.All
import OpenK.AllK
import Wide.FinOn
import HandS.ForMost
import HandS.IsInst
import HandS.Wide
import HandS.TupAny
import HandS.TupLe
import HandS.SortInts
import HandS.Zip
import KE.KDictPairs
import HandS.More
import HandS.SetKeys
import HandS.DictComp
import HandS.Style
import HandS.Defaults
import HandS.Strs
import HandS.DictTup
import HandS.ListItems
import PySem.Challenge.RW_everystepheld_k00_sums_judged_and_added
set_option Elab.async false
set_option linter.all false
set_option maxRecDepth 100000
set_option maxHeartbeats 1000000
/-! DL1: the data layer: data, the store, what they stand for. -/
namespace DL
open PySem L2

/-- a datum: immutable things by value; a mutable thing by its address -/
inductive D where
  | non | bl (b : Bool) | int (i : Int) | str (s : Str)
  | tup (xs : List D) | lst (xs : List D) | dct (kvs : List (Key × D)) | ins (c : Str) (fs : List (Str × D))
  | ref (a : Addr) | scr (ns : List Int)
instance : Inhabited D := ⟨.non⟩

/-- a mutable thing -/
inductive O where
  | lst (xs : List D) | dct (kvs : List (Key × D)) | ins (c : Str) (fs : List (Str × D))
abbrev Store := Addr → Option O
def sup (S : Store) (a : Addr) (o : O) : Store := fun b => if b = a then some o else S b
theorem sup_same {S : Store} {a : Addr} {o : O} : sup S a o a = some o := if_pos rfl
theorem sup_ne {S : Store} {a b : Addr} {o : O} (h : b ≠ a) : sup S a o b = S b := if_neg h
theorem sup_sup {S : Store} {a : Addr} {o u : O} : sup (sup S a o) a u = sup S a u := by
  funext b; unfold sup; split <;> rfl
def sdel (S : Store) (a : Addr) : Store := fun b => if b = a then none else S b

abbrev DQ := D → Store → Prop
abbrev Slots := List (Option D)
abbrev DE := Slots → Store → DQ → Prop
abbrev DT := Slots → Store → (Bool → Store → Prop) → Prop
abbrev DA := Slots → Store → (List D → Store → Prop) → Prop

/-- the written part, the classes' addresses -/
structure Wd where
  K : PySem.W.Frag
  cm : Str → Option Addr

/-- a plain tuple: known as an object without a dict, or of the written part -/
def TupP (K : PySem.W.Frag) (F : Hp) (a : Addr) (vs : List V) : Prop :=
  (∃ o, F a = some (.frz o (.tup vs)) ∧ o.dict = none) ∨
    ∃ (o : Obj) (its : Array Value) (n : Nat), K.lookup a = some o ∧ o.cls = .type "tuple" ∧ o.dict = none ∧ o.data = .seq its n ∧ its.size ≤ sizeLine ∧ Vals vs its.toList
theorem TupP.sqt {K : PySem.W.Frag} {F : Hp} {a : Addr} {vs : List V} (h : TupP K F a vs) : SqT K F a vs := by
  rcases h with ⟨o, h, _⟩ | ⟨o, its, n, h1, h2, h3, h4, h5, h6⟩
  · exact .inl (.inr ⟨o, h⟩)
  · exact .inr ⟨o, its, n, h1, h2, h4, h5, h6⟩
mutual
inductive Rp (W : Wd) (F : Hp) : D → V → Prop
  | non : Rp W F .non .non
  | bl (b : Bool) : Rp W F (.bl b) (.bl b)
  | int (i : Int) : Rp W F (.int i) (.int i)
  | str (s : Str) : Rp W F (.str s) (.str s)
  | tup {xs : List D} {vs : List V} {a : Addr} (h : TupP W.K F a vs) (r : Rps W F xs vs) : Rp W F (.tup xs) (.ref a)
  | lst {xs : List D} {vs : List V} {a : Addr} (h : Rd F a (.lst vs)) (r : Rps W F xs vs) : Rp W F (.lst xs) (.ref a)
  | dct {kvs : List (Key × D)} {ws : List (Key × V)} {a : Addr} (h : Rd F a (.dK ws)) (r : RpK W F kvs ws) : Rp W F (.dct kvs) (.ref a)
  | ins {c : Str} {fs : List (Str × D)} {gs : List (Str × V)} {a C dx : Addr} (h : F a = some (.ins C dx gs)) (hc : W.cm c = some C) (r : RpF W F fs gs) : Rp W F (.ins c fs) (.ref a)
  | ref (a : Addr) : Rp W F (.ref a) (.ref a)
  | scr {ns : List Int} {a : Addr} (h : SqL W.K F a (ns.map V.int)) : Rp W F (.scr ns) (.ref a)
inductive Rps (W : Wd) (F : Hp) : List D → List V → Prop
  | nil : Rps W F [] []
  | cons {d : D} {v : V} {ds : List D} {vs : List V} (h : Rp W F d v) (t : Rps W F ds vs) : Rps W F (d :: ds) (v :: vs)
inductive RpK (W : Wd) (F : Hp) : List (Key × D) → List (Key × V) → Prop
  | nil : RpK W F [] []
  | cons {k : Key} {d : D} {v : V} {ds : List (Key × D)} {vs : List (Key × V)} (h : Rp W F d v) (t : RpK W F ds vs) : RpK W F ((k, d) :: ds) ((k, v) :: vs)
inductive RpF (W : Wd) (F : Hp) : List (Str × D) → List (Str × V) → Prop
  | nil : RpF W F [] []
  | cons {k : Str} {d : D} {v : V} {ds : List (Str × D)} {vs : List (Str × V)} (h : Rp W F d v) (t : RpF W F ds vs) : RpF W F ((k, d) :: ds) ((k, v) :: vs)
end

def Le (F F' : Hp) : Prop := ∀ a o, F a = some o → F' a = some o
theorem Le.refl (F : Hp) : Le F F := fun _ _ h => h
theorem Le.trans {F F' F'' : Hp} (a : Le F F') (b : Le F' F'') : Le F F'' := fun c o h => b c o (a c o h)
theorem Le.rd {F F' : Hp} (e : Le F F') {a : Addr} {u : HO} (h : Rd F a u) : Rd F' a u := by
  rcases h with h | ⟨o, h⟩
  · exact .inl (e _ _ h)
  · exact .inr ⟨o, e _ _ h⟩
theorem Le.sqt {F F' : Hp} (e : Le F F') {K : PySem.W.Frag} {a : Addr} {vs : List V} (h : SqT K F a vs) : SqT K F' a vs := by
  rcases h with h | h
  · exact .inl (e.rd h)
  · exact .inr h
theorem Le.sql {F F' : Hp} (e : Le F F') {K : PySem.W.Frag} {a : Addr} {vs : List V} (h : SqL K F a vs) : SqL K F' a vs := by
  rcases h with h | h
  · exact .inl (e.rd h)
  · exact .inr h

theorem Le.tupP {F F' : Hp} (e : Le F F') {K : PySem.W.Frag} {a : Addr} {vs : List V} (h : TupP K F a vs) : TupP K F' a vs := by
  rcases h with ⟨o, h, z⟩ | h
  · exact .inl ⟨o, e _ _ h, z⟩
  · exact .inr h

variable {W : Wd} {F F' F'' P : Hp} {S S' : Store} {H H' : Hp}
mutual
theorem Rp.mono (e : Le F F') : ∀ {d : D} {v : V}, Rp W F d v → Rp W F' d v
  | _, _, .non => .non
  | _, _, .bl b => .bl b
  | _, _, .int i => .int i
  | _, _, .str s => .str s
  | _, _, .tup h r => .tup (e.tupP h) (Rps.mono e r)
  | _, _, .lst h r => .lst (e.rd h) (Rps.mono e r)
  | _, _, .dct h r => .dct (e.rd h) (RpK.mono e r)
  | _, _, .ins h c r => .ins (e _ _ h) c (RpF.mono e r)
  | _, _, .ref a => .ref a
  | _, _, .scr h => .scr (e.sql h)
theorem Rps.mono (e : Le F F') : ∀ {d : List D} {v : List V}, Rps W F d v → Rps W F' d v
  | _, _, .nil => .nil
  | _, _, .cons h t => .cons (Rp.mono e h) (Rps.mono e t)
theorem RpK.mono (e : Le F F') : ∀ {d : List (Key × D)} {v : List (Key × V)}, RpK W F d v → RpK W F' d v
  | _, _, .nil => .nil
  | _, _, .cons h t => .cons (Rp.mono e h) (RpK.mono e t)
theorem RpF.mono (e : Le F F') : ∀ {d : List (Str × D)} {v : List (Str × V)}, RpF W F d v → RpF W F' d v
  | _, _, .nil => .nil
  | _, _, .cons h t => .cons (Rp.mono e h) (RpF.mono e t)
end

inductive RpO (W : Wd) (F : Hp) : O → HO → Prop
  | lst {xs : List D} {vs : List V} (r : Rps W F xs vs) : RpO W F (.lst xs) (.lst vs)
  | dct {kvs : List (Key × D)} {ws : List (Key × V)} (r : RpK W F kvs ws) : RpO W F (.dct kvs) (.dK ws)
  | ins {c : Str} {fs : List (Str × D)} {gs : List (Str × V)} {C dx : Addr} (hc : W.cm c = some C) (r : RpF W F fs gs) : RpO W F (.ins c fs) (.ins C dx gs)
theorem RpO.mono (e : Le F F') {o : O} {u : HO} (r : RpO W F o u) : RpO W F' o u := by
  cases r with
  | lst r => exact .lst (r.mono e)
  | dct r => exact .dct (r.mono e)
  | ins c r => exact .ins c (r.mono e)

/-- F: what never changes (and is read as data); P: what must stand as it stands; S: what may change. F stands in H (a dict of it may be locked while a loop walks it) -/
def Sub (F H : Hp) : Prop := ∀ a o, F a = some o → H a = some o ∨ ∃ ob kvs, o = .dK kvs ∧ H a = some (.frz ob o)
def szO : HO → Prop
  | .lst vs => vs.length ≤ sizeLine
  | .tup vs => vs.length ≤ sizeLine
  | .dK kvs => kvs.length ≤ sizeLine
  | .frz _ u => szO u
  | _ => True
structure RS (W : Wd) (F P : Hp) (S : Store) (H : Hp) : Prop where
  sz : ∀ a o, H a = some o → szO o
  sub : Sub F H
  prs : Le P H
  dis : ∀ a o, P a = some o → S a = none ∧ (F a = none ∨ ∃ ob u, o = .frz ob u)
  obj : ∀ a o, S a = some o → F a = none ∧ ∃ u, H a = some u ∧ RpO W F o u

structure RSl (W : Wd) (F : Hp) (sd : Slots) (σ : St) : Prop where
  len : sd.length = σ.length
  at_ : ∀ (i : Nat) (d : D), sd[i]? = some (some d) → ∃ v, σ[i]? = some (some v) ∧ Rp W F d v
theorem RSl.mono (e : Le F F') {sd : Slots} {σ : St} (r : RSl W F sd σ) : RSl W F' sd σ :=
  ⟨r.len, fun i d h => let ⟨v, h1, h2⟩ := r.at_ i d h; ⟨v, h1, h2.mono e⟩⟩

/-- what a continuation is given -/
def Kont (W : Wd) (F P : Hp) (Qd : DQ) (Q : VK) : Prop := ∀ F' S' H' d v, Le F F' → RS W F' P S' H' → Rp W F' d v → Qd d S' → Q v H'
theorem Kont.le {Qd : DQ} {Q : VK} (k : Kont W F P Qd Q) (e : Le F F') : Kont W F' P Qd Q := fun F1 S1 H1 d v l => k F1 S1 H1 d v (e.trans l)

def LE (W : Wd) (d : DE) : TE := fun σ H Q => ∃ F P sd S Qd, RS W F P S H ∧ RSl W F sd σ ∧ d sd S Qd ∧ Kont W F P Qd Q
def LT (W : Wd) (d : DT) : TT := fun σ H Q => ∃ F P sd S Qd, RS W F P S H ∧ RSl W F sd σ ∧ d sd S Qd ∧ ∀ F' S' H' b, Le F F' → RS W F' P S' H' → Qd b S' → Q b H'
def LA (W : Wd) (d : DA) : TA := fun σ H Q => ∃ F P sd S Qd, RS W F P S H ∧ RSl W F sd σ ∧ d sd S Qd ∧ ∀ F' S' H' ds vs, Le F F' → RS W F' P S' H' → Rps W F' ds vs → Qd ds S' → Q vs H'

theorem LE.mk {d : DE} {σ : St} {Q : VK} {sd : Slots} {Qd : DQ} (rs : RS W F P S H) (rl : RSl W F sd σ) (h : d sd S Qd) (k : Kont W F P Qd Q) : LE W d σ H Q := ⟨F, P, sd, S, Qd, rs, rl, h, k⟩

end DL

namespace L2
theorem PE.mono {X : Cx} {e : PySem.Expr} {t t' : TE} (h : PE X e t) (m : ∀ σ H Q, t' σ H Q → t σ H Q) : PE X e t' := ⟨fun pins s σ H Q I q => h.run pins s σ H Q I (m σ H Q q)⟩
theorem PT.mono {X : Cx} {e : PySem.Expr} {t t' : TT} (h : PT X e t) (m : ∀ σ H Q, t' σ H Q → t σ H Q) : PT X e t' := ⟨fun pins s σ H Q I q => h.run pins s σ H Q I (m σ H Q q)⟩
theorem PW.mono {X : Cx} {e : PySem.Expr} {t t' : TT} (h : PW X e t) (m : ∀ σ H Q, t' σ H Q → t σ H Q) : PW X e t' := ⟨fun wh pins s σ H Q I q => h.run wh pins s σ H Q I (m σ H Q q)⟩
theorem PA.mono {X : Cx} {e : List PySem.Expr} {t t' : TA} (h : PA X e t) (m : ∀ σ H Q, t' σ H Q → t σ H Q) : PA X e t' := ⟨fun pos pins s σ H Q I q => h.run pos pins s σ H Q I (m σ H Q q)⟩
theorem PS.mono {X : Cx} {e : PySem.Stmt} {t t' : TS} (h : PS X e t) (m : ∀ D σ H, t' D σ H → t D σ H) : PS X e t' := ⟨fun pins s σ H D I q => h.run pins s σ H D I (m D σ H q)⟩
theorem PSs.mono {X : Cx} {e : List PySem.Stmt} {t t' : TS} (h : PSs X e t) (m : ∀ D σ H, t' D σ H → t D σ H) : PSs X e t' := ⟨fun pins s σ H D I q => h.run pins s σ H D I (m D σ H q)⟩
end L2

namespace DL
open PySem L2
variable {W : Wd} {F F' F'' P : Hp} {S S' : Store} {H H' : Hp} {X : Cx}

/-! ### lists of data -/
theorem Rps.length : ∀ {ds : List D} {vs : List V}, Rps W F ds vs → ds.length = vs.length
  | _, _, .nil => rfl
  | _, _, .cons _ t => by rw [List.length_cons, List.length_cons, Rps.length t]
theorem Rps.get : ∀ {ds : List D} {vs : List V} {i : Nat} {d : D}, Rps W F ds vs → ds[i]? = some d → ∃ v, vs[i]? = some v ∧ Rp W F d v
  | _, _, _, _, .nil, e => by simp at e
  | _, _, 0, _, .cons r _, e => by simp at e; subst e; exact ⟨_, rfl, r⟩
  | _, _, i + 1, d, .cons _ t, e => by
    obtain ⟨u, h1, h2⟩ := Rps.get (i := i) (d := d) t (by simpa using e)
    exact ⟨u, by simpa using h1, h2⟩
theorem Rps.app : ∀ {ds es : List D} {vs us : List V}, Rps W F ds vs → Rps W F es us → Rps W F (ds ++ es) (vs ++ us)
  | _, _, _, _, .nil, s => s
  | _, _, _, _, .cons r t, s => .cons r (Rps.app t s)
theorem Rps.set {d : D} {v : V} (r : Rp W F d v) : ∀ {ds : List D} {vs : List V} (i : Nat), Rps W F ds vs → Rps W F (ds.set i d) (vs.set i v)
  | _, _, _, .nil => .nil
  | _, _, 0, .cons _ t => .cons r t
  | _, _, i + 1, .cons q t => .cons q (Rps.set r i t)
theorem Rps.take : ∀ {ds : List D} {vs : List V} (n : Nat), Rps W F ds vs → Rps W F (ds.take n) (vs.take n)
  | _, _, 0, _ => .nil
  | _, _, _ + 1, .nil => .nil
  | _, _, n + 1, .cons r t => .cons r (Rps.take n t)
theorem Rps.drop : ∀ {ds : List D} {vs : List V} (n : Nat), Rps W F ds vs → Rps W F (ds.drop n) (vs.drop n)
  | _, _, 0, r => r
  | _, _, _ + 1, .nil => .nil
  | _, _, n + 1, .cons _ t => Rps.drop n t
theorem Rps.ints : ∀ {ns : List Int} {vs : List V}, Rps W F (ns.map D.int) vs → vs = ns.map V.int
  | [], _, .nil => rfl
  | _ :: _, _, .cons r t => by cases r; rw [Rps.ints t]; rfl
theorem Rps.bls : ∀ {ns : List Bool} {vs : List V}, Rps W F (ns.map D.bl) vs → vs = ns.map V.bl
  | [], _, .nil => rfl
  | _ :: _, _, .cons r t => by cases r; rw [Rps.bls t]; rfl
theorem Rps.strs : ∀ {ns : List Str} {vs : List V}, Rps W F (ns.map D.str) vs → vs = ns.map V.str
  | [], _, .nil => rfl
  | _ :: _, _, .cons r t => by cases r; rw [Rps.strs t]; rfl

/-! ### a new thing -/
theorem Sub.none (h : Sub F H) {p : Addr} (n : H p = Option.none) : F p = Option.none := by
  cases e : F p with
  | none => rfl
  | some o =>
    rcases h _ _ e with h | ⟨_, _, _, h⟩ <;> (rw [n] at h; cases h)
theorem Sub.ne (h : Sub F H) {a p : Addr} {o : HO} (e : F a = some o) (n : H p = Option.none) : a ≠ p := ne_of_none e (h.none n)
theorem Sub.rd (h : Sub F H) {a : Addr} {u : HO} (r : Rd F a u) : Rd H a u := by
  rcases r with r | ⟨ob, r⟩
  · rcases h _ _ r with h | ⟨ob, _, _, h⟩
    · exact .inl h
    · exact .inr ⟨ob, h⟩
  · rcases h _ _ r with h | ⟨_, _, z, _⟩
    · exact .inr ⟨ob, h⟩
    · cases z
theorem Sub.sqt (e : Sub F H) {K : PySem.W.Frag} {a : Addr} {vs : List V} (h : SqT K F a vs) : SqT K H a vs := by
  rcases h with h | h
  · exact .inl (e.rd h)
  · exact .inr h
theorem Sub.sql (e : Sub F H) {K : PySem.W.Frag} {a : Addr} {vs : List V} (h : SqL K F a vs) : SqL K H a vs := by
  rcases h with h | h
  · exact .inl (e.rd h)
  · exact .inr h
theorem Sub.tupP (e : Sub F H) {K : PySem.W.Frag} {a : Addr} {vs : List V} (h : TupP K F a vs) : TupP K H a vs := by
  rcases h with ⟨o, h, z⟩ | h
  · rcases e _ _ h with h | ⟨_, _, q, _⟩
    · exact .inl ⟨o, h, z⟩
    · cases q
  · exact .inr h
theorem Sub.upd (h : Sub F H) {p : Addr} {u : HO} (n : F p = Option.none) : Sub F (upd H p u) := fun a o e => by
  have ne : a ≠ p := ne_of_none e n
  rw [upd_ne ne]
  exact h a o e
theorem Sub.upd2 (h : Sub F H) {p : Addr} {u : HO} : Sub (L2.upd F p u) (L2.upd H p u) := fun a o e => by
  by_cases z : a = p
  · subst z; rw [upd_same] at e ⊢; exact .inl e
  · rw [upd_ne z] at e ⊢; exact h a o e
theorem RS.none (rs : RS W F P S H) {p : Addr} (n : H p = Option.none) : F p = Option.none ∧ P p = Option.none ∧ S p = Option.none := by
  refine ⟨rs.sub.none n, ?_, ?_⟩
  · cases e : P p with
    | none => rfl
    | some o => have := rs.prs _ _ e; rw [n] at this; cases this
  · cases e : S p with
    | none => rfl
    | some o => obtain ⟨_, u, h, _⟩ := rs.obj _ _ e; rw [n] at h; cases h
theorem Le.upd {p : Addr} {u : HO} (n : F p = none) : Le F (upd F p u) := fun a o h => by rw [upd_ne (ne_of_none h n)]; exact h
/-- laid as a value -/
theorem sz_upd {p : Addr} {u : HO} (h : ∀ a o, H a = some o → szO o) (z : szO u) : ∀ a o, upd H p u a = some o → szO o := fun a o e => by
  by_cases q : a = p
  · subst q; rw [upd_same] at e; cases e; exact z
  · rw [upd_ne q] at e; exact h a o e
theorem RS.frozen (rs : RS W F P S H) {p : Addr} {u : HO} (n : H p = Option.none) (z : szO u) : Le F (upd F p u) ∧ RS W (upd F p u) P S (upd H p u) := by
  obtain ⟨nF, nP, nS⟩ := rs.none n
  refine ⟨Le.upd nF, ⟨sz_upd rs.sz z, rs.sub.upd2, fun a o h => ?_, fun a o h => ?_, fun a o h => ?_⟩⟩
  · rw [upd_ne (ne_of_none (rs.prs _ _ h) n)]; exact rs.prs _ _ h
  · rw [upd_ne (ne_of_none (rs.prs _ _ h) n)]; exact rs.dis _ _ h
  · obtain ⟨h1, w, h2, h3⟩ := rs.obj _ _ h
    have ne : a ≠ p := ne_of_none h2 n
    refine ⟨by rw [upd_ne ne]; exact h1, w, by rw [upd_ne ne]; exact h2, h3.mono (Le.upd nF)⟩
/-- laid as a mutable thing -/
theorem RS.laid (rs : RS W F P S H) {p : Addr} {o : O} {u : HO} (n : H p = Option.none) (z : szO u) (r : RpO W F o u) : RS W F P (sup S p o) (upd H p u) := by
  obtain ⟨nF, nP, nS⟩ := rs.none n
  refine ⟨sz_upd rs.sz z, rs.sub.upd nF, fun a o h => ?_, fun a o h => ?_, fun a q h => ?_⟩
  · rw [upd_ne (ne_of_none (rs.prs _ _ h) n)]; exact rs.prs _ _ h
  · have ne : a ≠ p := ne_of_none (rs.prs _ _ h) n
    rw [sup_ne ne]; exact rs.dis _ _ h
  · by_cases e : a = p
    · subst e; rw [sup_same] at h; cases h; exact ⟨nF, u, upd_same, r⟩
    · rw [sup_ne e] at h
      obtain ⟨h1, w, h2, h3⟩ := rs.obj _ _ h
      exact ⟨h1, w, by rw [upd_ne e]; exact h2, h3⟩
/-- written -/
theorem RS.wrote (rs : RS W F P S H) {p : Addr} {o o' : O} {u : HO} (h : S p = some o) (z : szO u) (r : RpO W F o' u) : RS W F P (sup S p o') (upd H p u) := by
  obtain ⟨nF, _⟩ := rs.obj _ _ h
  refine ⟨sz_upd rs.sz z, rs.sub.upd nF, fun a q hq => ?_, fun a q hq => ?_, fun a q hq => ?_⟩
  · have ne : a ≠ p := by rintro rfl; rw [(rs.dis _ _ hq).1] at h; cases h
    rw [upd_ne ne]; exact rs.prs _ _ hq
  · have ne : a ≠ p := by rintro rfl; rw [(rs.dis _ _ hq).1] at h; cases h
    rw [sup_ne ne]; exact rs.dis _ _ hq
  · by_cases e : a = p
    · subst e; rw [sup_same] at hq; cases hq; exact ⟨nF, u, upd_same, r⟩
    · rw [sup_ne e] at hq
      obtain ⟨h1, w, h2, h3⟩ := rs.obj _ _ hq
      exact ⟨h1, w, by rw [upd_ne e]; exact h2, h3⟩
/-- some of the store forgotten -/
def SLe (S S' : Store) : Prop := ∀ a o, S a = some o → S' a = some o
theorem RS.forget (rs : RS W F P S' H) (h : SLe S S') : RS W F P S H :=
  ⟨rs.sz, rs.sub, rs.prs, fun a o e => ⟨(by
    cases q : S a with
    | none => rfl
    | some w => have := h _ _ q; rw [(rs.dis a o e).1] at this; cases this), (rs.dis a o e).2⟩, fun a o e => rs.obj a o (h a o e)⟩

theorem szRd {u : HO} (h : ∀ a o, H a = some o → szO o) {a : Addr} (r : Rd H a u) : szO u := by
  rcases r with r | ⟨o, r⟩
  · exact h _ _ r
  · exact h _ (.frz o u) r

/-! ### names, constants -/
def dVar (i : Nat) : DE := fun sd S Q => match sd[i]? with
  | some (some d) => Q d S
  | _ => False
def dC (d : D) : DE := fun _ S Q => Q d S
theorem le_var {i : Nat} {x : Str} {pos : Pos} (hN : X.N[i]? = some x) (hv : Vis X.env.scope x) (hd : (x == ("__debug__" : Str)) = false) (hcd : (x == ("__classdict__" : Str)) = false) : PE X (.Name x pos) (LE W (dVar i)) := by
  refine (pe_var hN hv hd hcd).mono fun σ H Q ⟨F, P, sd, S, Qd, rs, rl, h, k⟩ => ?_
  unfold dVar at h
  split at h
  · rename_i d e
    obtain ⟨v, h1, h2⟩ := rl.at_ i d e
    exact ⟨v, h1, k F S H d v (Le.refl F) rs h2 h⟩
  · exact h.elim
theorem le_const {e : Expr} {v : V} {d : D} (h : PE X e (tC v)) (r : ∀ F, Rp W F d v) : PE X e (LE W (dC d)) :=
  h.mono fun σ H Q ⟨F, P, sd, S, Qd, rs, rl, q, k⟩ => k F S H d v (Le.refl F) rs (r F) q

/-! ### two-place and one-place operations -/
abbrev F2 := D → D → Store → DQ → Prop
def R2Ok (W : Wd) (r : R2) (f : F2) : Prop := ∀ F P S H dx dy x y Qd Q, RS W F P S H → Rp W F dx x → Rp W F dy y → f dx dy S Qd → Kont W F P Qd Q → r x y H Q
def dOp (f : F2) (da db : DE) : DE := fun sd S Q => da sd S fun x S1 => db sd S1 fun y S2 => f x y S2 Q
theorem lift2 {r : R2} {f : F2} {da db : DE} (hr : R2Ok W r f) : ∀ σ H Q, LE W (dOp f da db) σ H Q → tOp r (LE W da) (LE W db) σ H Q := by
  rintro σ H Q ⟨F, P, sd, S, Qd, rs, rl, h, k⟩
  refine ⟨F, P, sd, S, _, rs, rl, h, fun F1 S1 H1 dx x l1 rs1 rx q1 => ?_⟩
  refine ⟨F1, P, sd, S1, _, rs1, rl.mono l1, q1, fun F2 S2 H2 dy y l2 rs2 ry q2 => ?_⟩
  exact hr F2 P S2 H2 dx dy x y Qd Q rs2 (rx.mono l2) ry q2 (k.le (l1.trans l2))
theorem le_op {op : Operator} {r : R2} {f : F2} {a b : Expr} {pos : Pos} {da db : DE} (ho : OpR X (binaryOp op) r) (hr : R2Ok W r f) (ha : PE X a (LE W da)) (hb : PE X b (LE W db)) : PE X (.BinOp a op b pos) (LE W (dOp f da db)) :=
  (pe_op ho ha hb).mono (lift2 hr)
theorem le_cmp {op : CmpOp} {r : R2} {f : F2} {a b : Expr} {pos : Pos} {da db : DE} (ho : OpR X (compareOp op) r) (hr : R2Ok W r f) (ha : PE X a (LE W da)) (hb : PE X b (LE W db)) (hm : behindInMarks op b = false) : PE X (.Compare a [op] [b] pos) (LE W (dOp f da db)) :=
  (pe_cmpR ho ha hb hm).mono (lift2 hr)
abbrev F1 := D → Store → DQ → Prop
def dUn (f : F1) (da : DE) : DE := fun sd S Q => da sd S fun x S1 => f x S1 Q
end DL
set_option Elab.async false
set_option linter.all false
set_option maxRecDepth 100000
set_option maxHeartbeats 1000000
/-! DL2: operators on data. -/
namespace DL
open PySem L2
variable {W : Wd} {F F' F'' P : Hp} {S S' : Store} {H H' : Hp} {X : Cx}

/-- a list, mutable or not -/
def asL (S : Store) : D → Option (List D)
  | .lst xs => some xs
  | .ref a => match S a with | some (.lst xs) => some xs | _ => none
  | _ => none
def asD (S : Store) : D → Option (List (Key × D))
  | .dct xs => some xs
  | .ref a => match S a with | some (.dct xs) => some xs | _ => none
  | _ => none
theorem asL_ok {d : D} {v : V} {xs : List D} (rs : RS W F P S H) (r : Rp W F d v) (h : asL S d = some xs) : ∃ a vs, v = .ref a ∧ Rd H a (.lst vs) ∧ Rps W F xs vs := by
  cases r with
  | lst h1 h2 => cases h; exact ⟨_, _, rfl, rs.sub.rd h1, h2⟩
  | ref a =>
    simp only [asL] at h
    split at h
    · rename_i ys e
      cases h
      obtain ⟨_, u, hu, ru⟩ := rs.obj _ _ e
      cases ru with
      | lst r => exact ⟨_, _, rfl, .inl hu, r⟩
    · cases h
  | _ => cases h
theorem asD_ok {d : D} {v : V} {xs : List (Key × D)} (rs : RS W F P S H) (r : Rp W F d v) (h : asD S d = some xs) : ∃ a vs, v = .ref a ∧ Rd H a (.dK vs) ∧ RpK W F xs vs := by
  cases r with
  | dct h1 h2 => cases h; exact ⟨_, _, rfl, rs.sub.rd h1, h2⟩
  | ref a =>
    simp only [asD] at h
    split at h
    · rename_i ys e
      cases h
      obtain ⟨_, u, hu, ru⟩ := rs.obj _ _ e
      cases ru with
      | dct r => exact ⟨_, _, rfl, .inl hu, r⟩
    · cases h
  | _ => cases h
theorem Rd.sql {K : PySem.W.Frag} {a : Addr} {vs : List V} (h : Rd H a (.lst vs)) : SqL K H a vs := .inl h

/-- a new list: a value, or a mutable thing -/
def mkL (own : Bool) (xs : List D) (S : Store) (Q : DQ) : Prop := if own = true then ∀ p, S p = none → Q (.ref p) (sup S p (.lst xs)) else Q (.lst xs) S
def mkD (own : Bool) (xs : List (Key × D)) (S : Store) (Q : DQ) : Prop := if own = true then ∀ p, S p = none → Q (.ref p) (sup S p (.dct xs)) else Q (.dct xs) S
theorem mkL_ok {own : Bool} {xs : List D} {vs : List V} {Qd : DQ} {Q : VK} (rs : RS W F P S H) (z : vs.length ≤ sizeLine) (r : Rps W F xs vs) (h : mkL own xs S Qd) (k : Kont W F P Qd Q) : ∀ p, H p = none → Q (.ref p) (upd H p (.lst vs)) := by
  intro p n
  unfold mkL at h
  split at h
  · exact k F _ _ _ _ (Le.refl F) (rs.laid n z (.lst r)) (.ref p) (h p (rs.none n).2.2)
  · obtain ⟨l, rs'⟩ := rs.frozen (u := .lst vs) n z
    exact k _ _ _ _ _ l rs' (.lst (.inl upd_same) (r.mono l)) h
theorem mkD_ok {own : Bool} {xs : List (Key × D)} {vs : List (Key × V)} {Qd : DQ} {Q : VK} (rs : RS W F P S H) (z : vs.length ≤ sizeLine) (r : RpK W F xs vs) (h : mkD own xs S Qd) (k : Kont W F P Qd Q) : ∀ p, H p = none → Q (.ref p) (upd H p (.dK vs)) := by
  intro p n
  unfold mkD at h
  split at h
  · exact k F _ _ _ _ (Le.refl F) (rs.laid n z (.dct r)) (.ref p) (h p (rs.none n).2.2)
  · obtain ⟨l, rs'⟩ := rs.frozen (u := .dK vs) n z
    exact k _ _ _ _ _ l rs' (.dct (.inl upd_same) (r.mono l)) h
/-- a new plain tuple, by values -/
def NewT (Q : VK) (H : Hp) (vs : List V) : Prop := ∀ p o, H p = none → o.dict = none → Q (.ref p) (upd H p (.frz o (.tup vs)))
theorem mkT_ok {xs : List D} {vs : List V} {Qd : DQ} {Q : VK} (rs : RS W F P S H) (z : vs.length ≤ sizeLine) (r : Rps W F xs vs) (h : Qd (.tup xs) S) (k : Kont W F P Qd Q) : NewT Q H vs := by
  intro p o n hd
  obtain ⟨l, rs'⟩ := rs.frozen (u := .frz o (.tup vs)) n z
  exact k _ _ _ _ _ l rs' (.tup (.inl ⟨o, upd_same, hd⟩) (r.mono l)) h
theorem tup_new {pins : List (Addr × Obj)} {σ : St} {s : Shared} {ys : List V} {us : List Value} {n : Nat} {t' : Nat} {Q : VK} (I : Inv X pins σ H s) (r : Vals ys us) (z : ys.length ≤ sizeLine) (q : NewT Q H ys) :
    EP X pins σ Q (.ref s.heap.objs.size) { s with heap := s.heap.push { cls := .type "tuple", data := .seq us.toArray n }, toks := t' } := by
  refine ⟨.ref s.heap.objs.size, upd H s.heap.objs.size (.frz { cls := .type "tuple", data := .seq us.toArray n } (.tup ys)), I.laid (fun b u e => Heap.get?_push_of_some _ e) (Nat.le_refl _) ?_, rfl, q _ _ (I.hok.fresh (Nat.le_refl _)) rfl⟩
  exact ⟨Heap.get?_push_size _ rfl, z, us, r, ⟨_, Heap.get?_push_size _ rfl, rfl, _, rfl⟩⟩

/-! ### + -/
def rCatR : R2 := fun x y H Q => ∃ l b xs zs, x = .ref l ∧ y = .ref b ∧ Rd H l (.lst xs) ∧ Rd H b (.lst zs) ∧ xs.length + zs.length ≤ sizeLine ∧ ∀ p, H p = none → Q (.ref p) (upd H p (.lst (xs ++ zs)))
theorem lst_at {pins : List (Addr × Obj)} {σ : St} {s : Shared} {l : Addr} {xs : List V} (I : Inv X pins σ H s) (h : Rd H l (.lst xs)) : xs.length ≤ sizeLine ∧ ∃ (its : List Value) (n : Nat), Vals xs its ∧ xs.length = its.length ∧ s.heap.get? l = some { cls := .type "list", data := .seq its.toArray n } := by
  obtain ⟨z, its, n, r, e⟩ := h.ok I.hok
  exact ⟨z, its, n, r, r.length, e⟩
theorem op_catR : OpR X (binaryOp .Add) rCatR := by
  intro pins s σ H x y v u Q I rx ry h
  obtain ⟨l, b, xs, zs, rfl, rfl, hH, hB, hz, q⟩ := h
  cases rx
  cases ry
  obtain ⟨z, its, n, r, hl, e⟩ := lst_at I hH
  obtain ⟨z2, its2, n2, r2, hl2, e2⟩ := lst_at I hB
  refine PySem.P.add_list e e2 ?_ (by rw [List.size_toArray, List.size_toArray]; omega)
  have ea : its.toArray ++ its2.toArray = (its ++ its2).toArray := by simp
  rw [ea]
  exact ⟨.ref _, _, I.lnew (t' := s.toks) (r.append r2) (by rw [List.length_append]; omega), rfl, q _ I.fresh⟩
def rCatP (K : PySem.W.Frag) : R2 := fun x y H Q => ∃ a b xs ys, x = .ref a ∧ y = .ref b ∧ SqT K H a xs ∧ SqT K H b ys ∧ xs.length + ys.length ≤ sizeLine ∧
  (xs = [] → Q (.ref b) H) ∧ (xs ≠ [] → ys = [] → Q (.ref a) H) ∧ (xs ≠ [] → ys ≠ [] → NewT Q H (xs ++ ys))
theorem op_catP : OpR X (binaryOp .Add) (rCatP X.K) := by
  intro pins s σ H x y v u Q I rx ry h
  obtain ⟨a, b, xs, ys, rfl, rfl, ha, hb, hz, q0, q1, q2⟩ := h
  cases rx
  cases ry
  obtain ⟨its, r1, p1, _⟩ := I.tuple ha
  obtain ⟨its2, r2, p2, _⟩ := I.tuple hb
  by_cases hx : xs = []
  · subst hx
    cases r1
    exact cat_tup0 p1 p2 ⟨.ref b, H, I, rfl, q0 rfl⟩
  · refine HT.cat_tup p1 p2 (fun z => hx (r1.nil_iff.mp z)) (fun z => ⟨.ref a, H, I, rfl, q1 hx (r2.nil_iff.mp z)⟩) (fun z => ?_) (by rw [← r1.length, ← r2.length]; exact hz)
    exact tup_new (t' := s.toks) I (r1.append r2) (by rw [List.length_append]; exact hz) (q2 hx fun w => z (r2.nil_iff.mpr w))
def fAdd (own : Bool) : F2 := fun dx dy S Q => match dx, dy with
  | .int i, .int j => Q (.int (i + j)) S
  | .str x, .str y => x.length + y.length ≤ sizeLine ∧ Q (.str (x ++ y)) S
  | .tup xs, .tup ys => xs.length + ys.length ≤ sizeLine ∧ Q (.tup (xs ++ ys)) S
  | dx, dy => match asL S dx, asL S dy with
    | some xs, some ys => xs.length + ys.length ≤ sizeLine ∧ mkL own (xs ++ ys) S Q
    | _, _ => False
def rAddA (K : PySem.W.Frag) : R2 := fun x y H Q => rI0 (fun i j => .int (i + j)) x y H Q ∨ (∃ i j, x = V.str i ∧ y = V.str j ∧ i.length + j.length ≤ sizeLine ∧ Q (.str (i ++ j)) H) ∨ rCatP K x y H Q ∨ rCatR x y H Q
theorem op_addA : OpR X (binaryOp .Add) (rAddA X.K) := op_add.or (op_add_str.or (op_catP.or op_catR))
theorem ok_add {own : Bool} : R2Ok W (rAddA W.K) (fAdd own) := by
  intro F P S H dx dy x y Qd Q rs rx ry h k
  have lists : ∀ {xs ys : List D}, asL S dx = some xs → asL S dy = some ys → xs.length + ys.length ≤ sizeLine ∧ mkL own (xs ++ ys) S Qd → rAddA W.K x y H Q := by
    rintro xs ys e1 e2 ⟨hz, hq⟩
    obtain ⟨a, vs, rfl, h1, r1⟩ := asL_ok rs rx e1
    obtain ⟨b, us, rfl, h2, r2⟩ := asL_ok rs ry e2
    exact .inr (.inr (.inr ⟨a, b, vs, us, rfl, rfl, h1, h2, by rw [← r1.length, ← r2.length]; exact hz, mkL_ok rs (by rw [List.length_append, ← r1.length, ← r2.length]; exact hz) (r1.app r2) hq k⟩))
  unfold fAdd at h
  split at h
  · cases rx; cases ry
    exact .inl ⟨_, _, rfl, rfl, k F S H _ _ (Le.refl F) rs (.int _) h⟩
  · cases rx; cases ry
    exact .inr (.inl ⟨_, _, rfl, rfl, h.1, k F S H _ _ (Le.refl F) rs (.str _) h.2⟩)
  · rename_i xs ys
    have rx0 := rx
    have ry0 := ry
    cases rx with
    | tup h1 r1 =>
      rename_i us a
      cases ry with
      | tup h2 r2 =>
        rename_i ws b
        refine .inr (.inr (.inl ⟨a, b, us, ws, rfl, rfl, (rs.sub.tupP h1).sqt, (rs.sub.tupP h2).sqt, by rw [← r1.length, ← r2.length]; exact h.1, fun e => ?_, fun _ e => ?_, fun _ _ => mkT_ok rs (by rw [List.length_append, ← r1.length, ← r2.length]; exact h.1) (r1.app r2) h.2 k⟩))
        · subst e
          cases r1
          exact k F S H _ _ (Le.refl F) rs ry0 h.2
        · subst e
          cases r2
          have hq := h.2
          rw [List.append_nil] at hq
          exact k F S H _ _ (Le.refl F) rs rx0 hq
  · split at h
    · rename_i e1 e2
      exact lists e1 e2 h
    · exact h.elim

/-! ### -, *, //, %, ** -/
def fInt (C : Int → Int → Prop) (g : Int → Int → Int) : F2 := fun dx dy S Q => match dx, dy with
  | .int i, .int j => C i j ∧ Q (.int (g i j)) S
  | _, _ => False
theorem ok_int {C : Int → Int → Prop} {g : Int → Int → Int} : R2Ok W (rI C fun i j => .int (g i j)) (fInt C g) := by
  intro F P S H dx dy x y Qd Q rs rx ry h k
  unfold fInt at h
  split at h
  · cases rx; cases ry
    exact ⟨_, _, rfl, rfl, h.1, k F S H _ _ (Le.refl F) rs (.int _) h.2⟩
  · exact h.elim
def fInt0 (g : Int → Int → D) : F2 := fun dx dy S Q => match dx, dy with
  | .int i, .int j => Q (g i j) S
  | _, _ => False
theorem ok_int0 {g : Int → Int → D} {g' : Int → Int → V} (hg : ∀ F i j, Rp W F (g i j) (g' i j)) : R2Ok W (rI0 g') (fInt0 g) := by
  intro F P S H dx dy x y Qd Q rs rx ry h k
  unfold fInt0 at h
  split at h
  · cases rx; cases ry
    exact ⟨_, _, rfl, rfl, k F S H _ _ (Le.refl F) rs (hg _ _ _) h⟩
  · exact h.elim
def fSub : F2 := fInt0 fun i j => .int (i - j)
theorem ok_sub : R2Ok W (rI0 fun i j => .int (i - j)) fSub := ok_int0 fun _ _ _ => .int _
def fLt : F2 := fInt0 fun i j => .bl (decide (i < j))
def fLe : F2 := fInt0 fun i j => .bl (decide (i ≤ j))
def fGt : F2 := fInt0 fun i j => .bl (decide (j < i))
def fGe : F2 := fInt0 fun i j => .bl (decide (j ≤ i))
theorem ok_lt : R2Ok W (rI0 fun i j => .bl (decide (i < j))) fLt := ok_int0 fun _ _ _ => .bl _
theorem ok_le : R2Ok W (rI0 fun i j => .bl (decide (i ≤ j))) fLe := ok_int0 fun _ _ _ => .bl _
theorem ok_gt : R2Ok W (rI0 fun i j => .bl (decide (j < i))) fGt := ok_int0 fun _ _ _ => .bl _
theorem ok_ge : R2Ok W (rI0 fun i j => .bl (decide (j ≤ i))) fGe := ok_int0 fun _ _ _ => .bl _
def fMod : F2 := fInt (fun _ j => 0 < j) fun i j => i % j
def fDiv : F2 := fInt CDivW fun i j => i / j
def fPow : F2 := fInt CPow fun i j => i ^ j.toNat
/-- list * int -/
def rRepR : R2 := fun x y H Q => ∃ l k xs, x = .ref l ∧ y = .int k ∧ Rd H l (.lst xs) ∧ -(2 ^ 63) ≤ k ∧ k < 2 ^ 63 ∧ xs.length * k.toNat ≤ sizeLine ∧
  ∀ p, H p = none → Q (.ref p) (upd H p (.lst (List.replicate k.toNat xs).flatten))
theorem op_repR : OpR X (binaryOp .Mult) rRepR := by
  intro pins s σ H x y v u Q I rx ry h
  obtain ⟨l, k, xs, rfl, rfl, hH, h1, h2, hz, q⟩ := h
  cases rx
  obtain ⟨t, rfl⟩ := ry
  obtain ⟨z, its, n, r, hl, e⟩ := lst_at I hH
  have hlen : its.toArray.size * k.toNat ≤ sizeLine := by rw [List.size_toArray, ← hl]; exact hz
  have hcap : ¬ its.toArray.size * k.toNat > (2 ^ 63 - 1) / 8 := by
    have : (sizeLine : Nat) ≤ (2 ^ 63 - 1) / 8 := by decide
    omega
  have hfit : ¬ (!Builtin.List.listFitsIndex k) = true := by
    rw [fitsIndex_both h1 h2]
    exact Bool.false_ne_true
  have hlong : ¬ Builtin.List.listTooLong (its.toArray.size * k.toNat) = true := by
    rw [notLongL hlen]
    exact Bool.false_ne_true
  have hnew : List.foldl (fun x1 x2 => x1 ++ x2) #[] (List.replicate (if its.toArray.isEmpty = true then 0 else k.toNat) its.toArray) = (List.replicate k.toNat its).flatten.toArray := by
    have f0 : ∀ m : Nat, List.foldl (fun x1 x2 => x1 ++ x2) #[] (List.replicate m its.toArray) = (List.replicate m its).flatten.toArray := fun m => by
      have := foldl_rep its m []
      rw [List.nil_append] at this
      exact this
    rw [f0]
    cases its with
    | nil => simp
    | cons a r' => rw [if_neg (by simp)]
  refine wpAny_binaryOp_repeat_ref (T := "list") (U := "int") (by decide) ⟨_, e, rfl⟩ (fun s' => typeIs_int s' k t) noFill_list_mul F.fills_int_mul F.slot_int_rmul repeat_list F.slot_int_index.lookup
    (call_meets F.slot_int_rmul (typeIs_int s k t) F.entry_int_rmul (F.args_int_rmul_2 _ _) (int___rmul___int_list k t l its.toArray n)
      ⟨e, rfl, ⟨_, e, rfl⟩, call_meets F.slot_list_mul ⟨_, e, rfl⟩ F.entry_list_mul (F.args_list_mul_2 _ _) (AutoListH.list___mul___list_int_3 l its.toArray n k t hfit hcap hlong) ⟨e, ?_⟩⟩)
  rw [hnew]
  exact ⟨.ref _, _, I.lnew (t' := s.toks) (r.rep k.toNat) (by rw [PyProof.Rows.lm_len_rep_flat, Nat.mul_comm]; exact hz), rfl, q _ I.fresh⟩
def fMul (own : Bool) : F2 := fun dx dy S Q => match dx, dy with
  | .int i, .int j => CMulW i j ∧ Q (.int (i * j)) S
  | dx, .int k => match asL S dx with
    | some xs => xs.length * k.toNat ≤ sizeLine ∧ -(2 ^ 63) ≤ k ∧ k < 2 ^ 63 ∧ mkL own (List.replicate k.toNat xs).flatten S Q
    | _ => False
  | _, _ => False
theorem Rps.rep {xs : List D} {vs : List V} (r : Rps W F xs vs) : ∀ n : Nat, Rps W F (List.replicate n xs).flatten (List.replicate n vs).flatten
  | 0 => .nil
  | n + 1 => by rw [List.replicate_succ, List.replicate_succ, List.flatten_cons, List.flatten_cons]; exact r.app (Rps.rep r n)
def rMulA : R2 := fun x y H Q => rI CMulW (fun i j => .int (i * j)) x y H Q ∨ rRepR x y H Q
theorem op_mulA : OpR X (binaryOp .Mult) rMulA := op_mulW.or op_repR
theorem ok_mul {own : Bool} : R2Ok W rMulA (fMul own) := by
  intro F P S H dx dy x y Qd Q rs rx ry h k
  unfold fMul at h
  split at h
  · cases rx; cases ry
    exact .inl ⟨_, _, rfl, rfl, h.1, k F S H _ _ (Le.refl F) rs (.int _) h.2⟩
  · cases ry
    split at h
    · rename_i xs e
      obtain ⟨h1, h2, h3, h4⟩ := h
      obtain ⟨a, vs, rfl, ha, r1⟩ := asL_ok rs rx e
      exact .inr ⟨a, _, vs, rfl, rfl, ha, h2, h3, by rw [← r1.length]; exact h1, mkL_ok rs (by rw [PyProof.Rows.lm_len_rep_flat, Nat.mul_comm, ← r1.length]; exact h1) (r1.rep _) h4 k⟩
    · exact h.elim
  · exact h.elim

/-! ### is -/
def isNon : D → Bool | .non => true | _ => false
def fIs : F2 := fun dx dy S Q => match dx, dy with
  | d, .non => Q (.bl (isNon d)) S
  | .bl a, .bl b => Q (.bl (decide (a = b))) S
  | _, _ => False
def fIsNot : F2 := fun dx dy S Q => match dx, dy with
  | d, .non => Q (.bl (!isNon d)) S
  | .bl a, .bl b => Q (.bl (!decide (a = b))) S
  | _, _ => False
theorem Rp.isNon {d : D} {v : V} (r : Rp W F d v) : decide (v = .non) = DL.isNon d := by cases r <;> simp [DL.isNon]
def rIsA : R2 := fun x y H Q => (y = .non ∧ Q (.bl (decide (x = .non))) H) ∨ (∃ a b, x = .bl a ∧ y = .bl b ∧ Q (.bl (decide (a = b))) H)
def rIsNotA : R2 := fun x y H Q => (y = .non ∧ Q (.bl (!decide (x = .non))) H) ∨ (∃ a b, x = .bl a ∧ y = .bl b ∧ Q (.bl (!decide (a = b))) H)
theorem op_isA : OpR X (compareOp .Is) rIsA := op_isN.or op_is_bl
theorem op_isNotA : OpR X (compareOp .IsNot) rIsNotA := op_notN.or op_isnot_bl
theorem ok_is : R2Ok W rIsA fIs := by
  intro F P S H dx dy x y Qd Q rs rx ry h k
  unfold fIs at h
  split at h
  · cases ry
    exact .inl ⟨rfl, k F S H _ _ (Le.refl F) rs (by rw [rx.isNon]; exact .bl _) h⟩
  · cases rx; cases ry
    exact .inr ⟨_, _, rfl, rfl, k F S H _ _ (Le.refl F) rs (.bl _) h⟩
  · exact h.elim
theorem ok_isNot : R2Ok W rIsNotA fIsNot := by
  intro F P S H dx dy x y Qd Q rs rx ry h k
  unfold fIsNot at h
  split at h
  · cases ry
    exact .inl ⟨rfl, k F S H _ _ (Le.refl F) rs (by rw [rx.isNon]; exact .bl _) h⟩
  · cases rx; cases ry
    exact .inr ⟨_, _, rfl, rfl, k F S H _ _ (Le.refl F) rs (.bl _) h⟩
  · exact h.elim

/-! ### ==, != -/
mutual
def toPy (S : Store) : D → Option PyData
  | .non => some .none
  | .bl b => some (.bool b)
  | .int i => some (.int i)
  | .str x => some (.str x)
  | .tup xs => (toPys S xs).map .tuple
  | .lst xs => (toPys S xs).map .list
  | _ => none
def toPys (S : Store) : List D → Option (List PyData)
  | [] => some []
  | d :: ds => match toPy S d, toPys S ds with
    | some e, some es => some (e :: es)
    | _, _ => none
end
/-- .. a mutable list at the top -/
def toPyR (S : Store) (d : D) : Option PyData := match d with
  | .ref a => match S a with | some (.lst xs) => (toPys S xs).map .list | _ => none
  | d => toPy S d
mutual
theorem toPy_ok (rs : RS W F P S H) : ∀ {d : D} {v : V} {e : PyData}, Rp W F d v → toPy S d = some e → Dp W.K H v e
  | _, _, _, .non, h => by simp only [toPy] at h; cases h; exact .non
  | _, _, _, .bl b, h => by simp only [toPy] at h; cases h; exact .bl b
  | _, _, _, .int b, h => by simp only [toPy] at h; cases h; exact .int b
  | _, _, _, .str b, h => by simp only [toPy] at h; cases h; exact .str b
  | _, _, _, .tup h1 r, h => by
    simp only [toPy] at h
    obtain ⟨es, e1, rfl⟩ := Option.map_eq_some_iff.mp h
    exact .tup (rs.sub.tupP h1).sqt (toPys_ok rs r e1)
  | _, _, _, .lst h1 r, h => by
    simp only [toPy] at h
    obtain ⟨es, e1, rfl⟩ := Option.map_eq_some_iff.mp h
    exact .lst (.inl (rs.sub.rd h1)) (toPys_ok rs r e1)
  | _, _, _, .dct h1 r, h => by simp only [toPy] at h; cases h
  | _, _, _, .ins h1 c r, h => by simp only [toPy] at h; cases h
  | _, _, _, .ref a, h => by simp only [toPy] at h; cases h
  | _, _, _, .scr h1, h => by simp only [toPy] at h; cases h
theorem toPys_ok (rs : RS W F P S H) : ∀ {ds : List D} {vs : List V} {es : List PyData}, Rps W F ds vs → toPys S ds = some es → DpAll W.K H vs es
  | _, _, _, .nil, h => by simp only [toPys] at h; cases h; exact .nil
  | _, _, _, .cons r t, h => by
    simp only [toPys] at h
    split at h
    · rename_i e es h1 h2
      cases h
      exact .cons (toPy_ok rs r h1) (toPys_ok rs t h2)
    · cases h
end
theorem toPyR_ok (rs : RS W F P S H) {d : D} {v : V} {e : PyData} (r : Rp W F d v) (h : toPyR S d = some e) : Dp W.K H v e := by
  unfold toPyR at h
  split at h
  · cases r
    split at h
    · rename_i xs q
      obtain ⟨_, u, hu, ru⟩ := rs.obj _ _ q
      cases ru with
      | lst r =>
        obtain ⟨es, e1, rfl⟩ := Option.map_eq_some_iff.mp h
        exact .lst (.of hu) (toPys_ok rs r e1)
    · cases h
  · exact toPy_ok rs r h
def fEq : F2 := fun dx dy S Q => ∃ d e, toPyR S dx = some d ∧ toPyR S dy = some e ∧ SeqAt.shaped d = true ∧ SeqAt.shaped e = true ∧ Q (.bl (PyData.eqv d e)) S
def fNe : F2 := fun dx dy S Q => ∃ d e, toPyR S dx = some d ∧ toPyR S dy = some e ∧ SeqAt.shaped d = true ∧ SeqAt.shaped e = true ∧ Q (.bl (!PyData.eqv d e)) S
theorem ok_eq : R2Ok W (rEqD W.K) fEq := by
  rintro F P S H dx dy x y Qd Q rs rx ry ⟨d, e, h1, h2, s1, s2, q⟩ k
  exact ⟨d, e, toPyR_ok rs rx h1, toPyR_ok rs ry h2, s1, s2, k F S H _ _ (Le.refl F) rs (.bl _) q⟩
theorem ok_ne : R2Ok W (rNeD W.K) fNe := by
  rintro F P S H dx dy x y Qd Q rs rx ry ⟨d, e, h1, h2, s1, s2, q⟩ k
  exact ⟨d, e, toPyR_ok rs rx h1, toPyR_ok rs ry h2, s1, s2, k F S H _ _ (Le.refl F) rs (.bl _) q⟩

/-! ### in, not in: dicts by key -/
def keyD : D → Option Key
  | .int i => some (.inl i)
  | .str x => some (.inr x)
  | _ => none
def dget (kvs : List (Key × D)) (k : Key) : Option D := (kvs.find? fun kv => decide (kv.1 = k)).map (·.2)
theorem keyD_ok {d : D} {v : V} {k : Key} (r : Rp W F d v) (h : keyD d = some k) : v = kV k := by
  cases r <;> simp only [keyD] at h <;> cases h <;> rfl
theorem dget_ok {kvs : List (Key × D)} {ws : List (Key × V)} (r : RpK W F kvs ws) (k : Key) : (∀ d, dget kvs k = some d → ∃ v, valV ws k = some v ∧ Rp W F d v) ∧ (dget kvs k = none → valV ws k = none) := by
  induction kvs generalizing ws with
  | nil => cases r; exact ⟨fun d h => by simp [dget] at h, fun _ => rfl⟩
  | cons p kvs ih =>
    cases r with
    | cons h t =>
      rename_i k0 d0 v0 vs
      have ih := ih t
      by_cases e : k0 = k
      · subst e
        refine ⟨fun d q => ?_, fun q => ?_⟩
        · simp [dget, List.find?_cons] at q
          subst q
          exact ⟨v0, valV_pos rfl, h⟩
        · simp [dget, List.find?_cons] at q
      · have e2 : dget ((k0, d0) :: kvs) k = dget kvs k := by simp [dget, List.find?_cons, e]
        rw [e2, valV_neg (by simpa using e)]
        exact ih
theorem dget_some {kvs : List (Key × D)} {ws : List (Key × V)} (r : RpK W F kvs ws) (k : Key) : (valV ws k).isSome = (dget kvs k).isSome := by
  obtain ⟨h1, h2⟩ := dget_ok r k
  cases e : dget kvs k with
  | none => rw [h2 e]; rfl
  | some d => obtain ⟨v, hv, _⟩ := h1 d e; rw [hv]; rfl
def rInD : R2 := fun y x H Q => ∃ a o, x = .ref a ∧ DGet H a y o ∧ Q (.bl o.isSome) H
def rNotInD : R2 := fun y x H Q => ∃ a o, x = .ref a ∧ DGet H a y o ∧ Q (.bl (!o.isSome)) H
theorem op_inD (hu : X.A.units + 1 < cLine) : OpR X (compareOp .In) rInD := by
  intro pins s σ H x y v u Q I rx ry h
  obtain ⟨a, o, rfl, g, q⟩ := h
  cases ry
  exact d_in hu I g rx fun s' I' => ⟨.bl _, H, I', rfl, q⟩
theorem op_notInD (hu : X.A.units + 1 < cLine) : OpR X (compareOp .NotIn) rNotInD := by
  intro pins s σ H x y v u Q I rx ry h
  obtain ⟨a, o, rfl, g, q⟩ := h
  cases ry
  exact d_notIn hu I g rx fun s' I' => ⟨.bl _, H, I', rfl, q⟩
def flatD : D → Bool
  | .int _ => true | .str _ => true | .bl _ => true | .non => true | _ => false
end DL
set_option Elab.async false
set_option linter.all false
set_option maxRecDepth 100000
set_option maxHeartbeats 1000000
/-! DL3: displays, subscripts, slices, built-in functions on data. -/
namespace DL
open PySem L2
variable {W : Wd} {F F' F'' P : Hp} {S S' : Store} {H H' : Hp} {X : Cx}

/-! ### argument lists, displays -/
def dNil : DA := fun _ S Q => Q [] S
def dCons (d : DE) (r : DA) : DA := fun sd S Q => d sd S fun x S1 => r sd S1 fun xs S2 => Q (x :: xs) S2
theorem la_nil : PA X [] (LA W dNil) := pa_nil.mono fun σ H Q ⟨F, P, sd, S, Qd, rs, rl, h, k⟩ => k F S H _ _ (Le.refl F) rs .nil h
theorem la_cons {e : Expr} {es : List Expr} {d : DE} {r : DA} (ha : PE X e (LE W d)) (hr : PA X es (LA W r)) (hs : starEach (e :: es) X.env = (false, eval e X.env) :: starEach es X.env) : PA X (e :: es) (LA W (dCons d r)) :=
  (pa_cons ha hr hs).mono fun σ H Q ⟨F, P, sd, S, Qd, rs, rl, h, k⟩ =>
    ⟨F, P, sd, S, _, rs, rl, h, fun F1 S1 H1 dx x l1 rs1 rx q1 => ⟨F1, P, sd, S1, _, rs1, rl.mono l1, q1, fun F2 S2 H2 ds vs l2 rs2 rr q2 => k F2 S2 H2 _ _ (l1.trans l2) rs2 (.cons (rx.mono l2) rr) q2⟩⟩
def dTup (r : DA) : DE := fun sd S Q => r sd S fun xs S1 => xs.length ≤ sizeLine ∧ Q (.tup xs) S1
def dLst (own : Bool) (r : DA) : DE := fun sd S Q => r sd S fun xs S1 => xs.length ≤ sizeLine ∧ mkL own xs S1 Q
theorem pe_tupP {es : List Expr} {x1} {pos : Pos} {t : TA} (h : PA X es t) : PE X (.Tuple es x1 pos) (fun σ H Q => t σ H fun xs H1 => xs.length ≤ sizeLine ∧ NewT Q H1 xs) := by
  refine ⟨fun pins s σ H Q I hq => ?_⟩
  refine wpAny_Tuple_spliced (thn (h.run pos pins s σ H _ I hq) fun us s1 ⟨xs, H1, I1, r, z, q⟩ => ⟨by rw [← r.length]; exact z, ?_⟩)
  exact tup_new (t' := s1.toks) I1 r z q
theorem le_tup {es : List Expr} {x1} {pos : Pos} {r : DA} (h : PA X es (LA W r)) : PE X (.Tuple es x1 pos) (LE W (dTup r)) :=
  (pe_tupP h).mono fun σ H Q ⟨F, P, sd, S, Qd, rs, rl, h, k⟩ => ⟨F, P, sd, S, _, rs, rl, h, fun F1 S1 H1 ds vs l1 rs1 rr q => ⟨by rw [← rr.length]; exact q.1, mkT_ok rs1 (by rw [← rr.length]; exact q.1) rr q.2 (k.le l1)⟩⟩
theorem le_lst {es : List Expr} {pos : Pos} {r : DA} {own : Bool} (h : PA X es (LA W r)) : PE X (.List es pos) (LE W (dLst own r)) :=
  (pe_lst h).mono fun σ H Q ⟨F, P, sd, S, Qd, rs, rl, h, k⟩ => ⟨F, P, sd, S, _, rs, rl, h, fun F1 S1 H1 ds vs l1 rs1 rr q => ⟨by rw [← rr.length]; exact q.1, mkL_ok rs1 (by rw [← rr.length]; exact q.1) rr q.2 (k.le l1)⟩⟩

/-! ### subscripts -/
def rIxD : R2 := fun x y H Q => ∃ a v, x = .ref a ∧ DGet H a y (some v) ∧ Q v H
theorem ix_dict (hu : X.A.units + 1 < cLine) : IxR X rIxD := by
  intro value slice pins s σ H x y v u Q I rx ry h hs
  obtain ⟨a, w, rfl, g, q⟩ := h
  cases rx
  exact PyProof.Rows.tail_any (dict_typeIs I g) PySem.F.slot_dict_getitem.lookup (d_getItem hu I g ry fun w' s' I' r => ⟨w, H, I', r, q⟩) hs
def fIx : F2 := fun dx dy S Q => match dx, dy with
  | .scr ns, .int i => match atI ns i with | some n => Q (.int n) S | none => False
  | .tup xs, .int i => match atI xs i with | some d => Q d S | none => False
  | .str z, .int i => match atI z.cps.toList i with | some c => z.length ≤ sizeLine ∧ Q (.str ⟨#[c]⟩) S | none => False
  | dx, dy => match asL S dx, dy with
    | some xs, .int i => match atI xs i with | some d => Q d S | none => False
    | _, _ => match asD S dx, keyD dy with
      | some kvs, some k => match dget kvs k with | some d => Q d S | none => False
      | _, _ => False
def rIxA (K : PySem.W.Frag) : R2 := fun x y H Q => rIx K x y H Q ∨ rIxD x y H Q
theorem ix_all (hu : X.A.units + 1 < cLine) : IxR X (rIxA X.K) := ix_seq.or (ix_dict hu)
theorem atI_rp {xs : List D} {vs : List V} {i : Int} {d : D} (r : Rps W F xs vs) (h : atI xs i = some d) : ∃ v, atI vs i = some v ∧ Rp W F d v := by
  unfold atI at h ⊢
  rw [← r.length]
  cases e : ixN xs.length i with
  | none => rw [e] at h; cases h
  | some j =>
    rw [e] at h
    exact r.get h
theorem DGet.rd {a : Addr} {kvs : List (Key × V)} {k : Key} (e : Rd H a (.dK kvs)) : DGet H a (kV k) (valV kvs k) := .inl ⟨kvs, k, e, rfl, rfl⟩
theorem atI_mapV {ns : List Int} {i : Int} : atI (ns.map V.int) i = (atI ns i).map V.int := by
  unfold atI
  rw [List.length_map]
  cases ixN ns.length i with
  | none => rfl
  | some j => exact List.getElem?_map
theorem ok_ix : R2Ok W (rIxA W.K) fIx := by
  intro F P S H dx dy x y Qd Q rs rx ry h k
  have fin : ∀ {d : D} {v : V}, Rp W F d v → Qd d S → Q v H := fun r q => k F S H _ _ (Le.refl F) rs r q
  unfold fIx at h
  split at h
  · split at h
    · rename_i ns i n e
      cases rx with
      | @scr _ a h1 =>
        cases ry
        refine .inl (.inl ⟨_, _, _, .int n, rfl, rfl, rs.sub.sql h1, ?_, fin (.int _) h⟩)
        rw [atI_mapV, e]; rfl
    · exact h.elim
  · split at h
    · rename_i xs i d e
      cases rx with
      | tup h1 r1 =>
        cases ry
        obtain ⟨v, ev, rv⟩ := atI_rp r1 e
        exact .inl (.inr (.inl ⟨_, _, _, v, rfl, rfl, (rs.sub.tupP h1).sqt, ev, fin rv h⟩))
    · exact h.elim
  · split at h
    · cases rx; cases ry
      rename_i c e
      exact .inl (.inr (.inr ⟨_, _, c, rfl, rfl, h.1, e, fin (.str _) h.2⟩))
    · exact h.elim
  · split at h
    · rename_i xs i e1 _ _ _
      split at h
      · rename_i d e
        cases ry
        obtain ⟨a, vs, rfl, h1, r1⟩ := asL_ok rs rx e1
        obtain ⟨v, ev, rv⟩ := atI_rp r1 e
        exact .inl (.inl ⟨_, _, _, v, rfl, rfl, .inl h1, ev, fin rv h⟩)
      · exact h.elim
    · split at h
      · rename_i kvs kk e1 e2
        obtain ⟨a, vs, rfl, h1, r1⟩ := asD_ok rs rx e1
        cases keyD_ok ry e2
        split at h
        · rename_i d ed
          obtain ⟨v, hv, rv⟩ := (dget_ok r1 kk).1 d ed
          exact .inr ⟨a, v, rfl, by rw [← hv]; exact DGet.rd h1, fin rv h⟩
        · exact h.elim
      · exact h.elim
theorem le_ix {a b : Expr} {pos : Pos} {da db : DE} (hu : X.A.units + 1 < cLine) (hK : X.K = W.K) (ha : PE X a (LE W da)) (hb : PE X b (LE W db)) (hs : PlainIx b) : PE X (.Subscript a b pos) (LE W (dOp fIx da db)) := by
  have h := pe_ix (ix_all hu) ha hb hs (pos := pos)
  rw [hK] at h
  exact h.mono (lift2 ok_ix)

/-! ### slices -/
abbrev DO := Slots → Store → (Option Int → Store → Prop) → Prop
def dNoPart : DO := fun _ S Q => Q none S
def dPart (d : DE) : DO := fun sd S Q => d sd S fun x S1 => match x with | .int i => Q (some i) S1 | _ => False
def LO (W : Wd) (d : DO) : TO := fun σ H Q => ∃ F P sd S Qd, RS W F P S H ∧ RSl W F sd σ ∧ d sd S Qd ∧ ∀ F' S' H' o, Le F F' → RS W F' P S' H' → Qd o S' → Q o H'
theorem PO.mono {e : Option Expr} {t t' : TO} (h : PO X e t) (m : ∀ σ H Q, t' σ H Q → t σ H Q) : PO X e t' := ⟨fun pins s σ H Q I q => h.run pins s σ H Q I (m σ H Q q)⟩
theorem lo_none : PO X none (LO W dNoPart) := PO.mono po_none fun σ H Q ⟨F, P, sd, S, Qd, rs, rl, h, k⟩ => k F S H none (Le.refl F) rs h
theorem lo_some {e : Expr} {d : DE} (h : PE X e (LE W d)) : PO X (some e) (LO W (dPart d)) := PO.mono (po_some h) fun σ H Q ⟨F, P, sd, S, Qd, rs, rl, h, k⟩ =>
  ⟨F, P, sd, S, _, rs, rl, h, fun F1 S1 H1 dx x l1 rs1 rx q => by
    split at q
    · cases rx; exact ⟨_, rfl, k F1 S1 H1 _ l1 rs1 q⟩
    · exact q.elim⟩
def cutD (xs : List D) (lo hi : Option Int) : List D := (xs.drop (HT.sIx xs.length 0 lo)).take (HT.sIx xs.length xs.length hi - HT.sIx xs.length 0 lo)
theorem cut_rp {xs : List D} {vs : List V} (r : Rps W F xs vs) (lo hi : Option Int) : Rps W F (cutD xs lo hi) (cutV vs lo hi) := by
  unfold cutD cutV
  rw [← r.length]
  exact (r.drop _).take _
abbrev F3 := D → Option Int → Option Int → Store → DQ → Prop
def fCut (own : Bool) : F3 := fun dx lo hi S Q => match dx with
  | .scr ns => mkL own (cutD (ns.map D.int) lo hi) S Q
  | .tup xs => Q (.tup (cutD xs lo hi)) S
  | dx => match asL S dx with
    | some xs => mkL own (cutD xs lo hi) S Q
    | none => False
def rSlP (K : PySem.W.Frag) : V → Option Int → Option Int → Hp → VK → Prop := fun x lo hi H Q => ∃ a xs, x = .ref a ∧ SqT K H a xs ∧
  (HT.sIx xs.length 0 lo = 0 ∧ HT.sIx xs.length xs.length hi = xs.length → Q (.ref a) H) ∧ (¬ (HT.sIx xs.length 0 lo = 0 ∧ HT.sIx xs.length xs.length hi = xs.length) → NewT Q H (cutV xs lo hi))
theorem sl_tupP : SlR X (rSlP X.K) := by
  intro pins s σ H x v vl vu lo hi sl Q I rx hs pl pu h
  obtain ⟨a, xs, rfl, hx, q1, q2⟩ := h
  cases rx
  obtain ⟨its, r, ht, hz⟩ := I.tuple hx
  have hlen : its.toArray.size = xs.length := by rw [List.size_toArray]; exact r.length.symm
  refine ⟨"tuple", _, PyProof.Rows.slot_tuple_getitem.lookup, ht.typeIs, ?_⟩
  by_cases hw : HT.sIx xs.length 0 lo = 0 ∧ HT.sIx xs.length xs.length hi = xs.length
  · exact getItem_tuple_whole ht hs pl pu (by rw [hlen]; exact hw) ⟨.ref a, H, I, rfl, q1 hw⟩
  · refine HT.getItem_tuple_cut ht hs pl pu (by rw [hlen]; exact hw) ?_ (by rw [hlen]; exact hz)
    rw [hlen]
    exact tup_new (t' := s.toks) I ((r.drop (HT.sIx xs.length 0 lo)).take (HT.sIx xs.length xs.length hi - HT.sIx xs.length 0 lo)) (Nat.le_trans (cutV_length xs lo hi) hz) (q2 hw)
theorem cut_whole {xs : List D} {lo hi : Option Int} (h : HT.sIx xs.length 0 lo = 0 ∧ HT.sIx xs.length xs.length hi = xs.length) : cutD xs lo hi = xs := by
  unfold cutD; rw [h.1, h.2]; simp
def dCut (own : Bool) (d : DE) (lo hi : DO) : DE := fun sd S Q => d sd S fun x S1 => lo sd S1 fun l S2 => hi sd S2 fun u S3 => fCut own x l u S3 Q
theorem sql_sz {a : Addr} {vs : List V} {K : PySem.W.Frag} (rs : RS W F P S H) (h : SqL K H a vs) : vs.length ≤ sizeLine := by
  rcases h with h | ⟨o, its, n, _, _, _, _, z, rv⟩
  · exact szRd rs.sz h
  · have e2 := rv.length
    simp only [Array.length_toList] at e2
    omega
theorem rps_ints (ns : List Int) : Rps W F (ns.map D.int) (ns.map V.int) := by
  induction ns with
  | nil => exact .nil
  | cons n r ih => exact .cons (.int n) ih
theorem le_cut {a : Expr} {lo hi : Option Expr} {pos p2 : Pos} {d : DE} {dl dh : DO} {own : Bool} (hK : X.K = W.K) (ha : PE X a (LE W d)) (hl : PO X lo (LO W dl)) (hh : PO X hi (LO W dh)) : PE X (.Subscript a (.Slice lo hi none p2) pos) (LE W (dCut own d dl dh)) := by
  have h := pe_slice (pos := pos) (p2 := p2) (sl_list.or sl_tupP) ha hl hh
  rw [hK] at h
  refine h.mono fun σ H Q ⟨F, P, sd, S, Qd, rs, rl, h, k⟩ => ?_
  refine ⟨F, P, sd, S, _, rs, rl, h, fun F1 S1 H1 dx x l1 rs1 rx q1 => ⟨F1, P, sd, S1, _, rs1, rl.mono l1, q1, fun F2 S2 H2 lo l2 rs2 q2 => ⟨F2, P, sd, S2, _, rs2, (rl.mono l1).mono l2, q2, fun F3 S3 H3 hi l3 rs3 q3 => ?_⟩⟩⟩
  have rx3 := (rx.mono l2).mono l3
  have k3 := ((k.le l1).le l2).le l3
  unfold fCut at q3
  split at q3
  · rename_i ns
    cases rx3 with
    | @scr _ a h1 =>
      have z : (ns.map V.int).length ≤ sizeLine := sql_sz rs3 (rs3.sub.sql h1)
      exact .inl ⟨a, _, rfl, rs3.sub.sql h1, mkL_ok rs3 (Nat.le_trans (cutV_length _ lo hi) z) (cut_rp (rps_ints ns) lo hi) q3 k3⟩
  · have rx0 := rx3
    cases rx3 with
    | tup h1 r1 =>
      rename_i xs vs a
      have e := r1.length
      refine .inr ⟨a, vs, rfl, (rs3.sub.tupP h1).sqt, fun w => ?_, fun w => ?_⟩
      · rw [cut_whole (by rw [e]; exact w)] at q3
        exact k3 F3 S3 H3 _ _ (Le.refl F3) rs3 rx0 q3
      · have z : vs.length ≤ sizeLine := by
          rcases rs3.sub.tupP h1 with ⟨o, h, _⟩ | ⟨o, its, n, _, _, _, _, z, rv⟩
          · exact rs3.sz _ _ h
          · have e2 := rv.length
            simp only [Array.length_toList] at e2
            omega
        exact mkT_ok rs3 (Nat.le_trans (cutV_length vs lo hi) z) (cut_rp r1 lo hi) q3 k3
  · split at q3
    · rename_i xs e
      obtain ⟨a, vs, rfl, h1, r1⟩ := asL_ok rs3 rx3 e
      exact .inl ⟨a, vs, rfl, .inl h1, mkL_ok rs3 (Nat.le_trans (cutV_length vs lo hi) (szRd rs3.sz h1)) (cut_rp r1 lo hi) q3 k3⟩
    · exact q3.elim

/-! ### calls by values -/
abbrev FA := List D → Store → DQ → Prop
def RAOk (W : Wd) (r : List V → Hp → VK → Prop) (f : FA) : Prop := ∀ F P S H ds vs Qd Q, RS W F P S H → Rps W F ds vs → f ds S Qd → Kont W F P Qd Q → r vs H Q
def dCall (f : FA) (a : DA) : DE := fun sd S Q => a sd S fun xs S1 => f xs S1 Q
theorem liftA {r : List V → Hp → VK → Prop} {f : FA} {a : DA} (hr : RAOk W r f) : ∀ σ H Q, LE W (dCall f a) σ H Q → tCB r (LA W a) σ H Q := by
  rintro σ H Q ⟨F, P, sd, S, Qd, rs, rl, h, k⟩
  exact ⟨F, P, sd, S, _, rs, rl, h, fun F1 S1 H1 ds vs l1 rs1 rr q => hr F1 P S1 H1 ds vs Qd Q rs1 rr q (k.le l1)⟩

def asInts : List D → Option (List Int)
  | [] => some []
  | .int i :: r => (asInts r).map (i :: ·)
  | _ :: _ => none
def asBls : List D → Option (List Bool)
  | [] => some []
  | .bl i :: r => (asBls r).map (i :: ·)
  | _ :: _ => none
def asStrs : List D → Option (List Str)
  | [] => some []
  | .str i :: r => (asStrs r).map (i :: ·)
  | _ :: _ => none
theorem asInts_eq : ∀ {xs : List D} {ns : List Int}, asInts xs = some ns → xs = ns.map D.int
  | [], ns, h => by simp only [asInts] at h; cases h; rfl
  | .int i :: r, ns, h => by
    simp only [asInts] at h
    obtain ⟨m, e, rfl⟩ := Option.map_eq_some_iff.mp h
    rw [asInts_eq e]; rfl
  | .non :: _, _, h | .bl _ :: _, _, h | .str _ :: _, _, h | .tup _ :: _, _, h | .lst _ :: _, _, h | .dct _ :: _, _, h | .ins _ _ :: _, _, h | .ref _ :: _, _, h => by simp only [asInts] at h; cases h
theorem asBls_eq : ∀ {xs : List D} {ns : List Bool}, asBls xs = some ns → xs = ns.map D.bl
  | [], ns, h => by simp only [asBls] at h; cases h; rfl
  | .bl i :: r, ns, h => by
    simp only [asBls] at h
    obtain ⟨m, e, rfl⟩ := Option.map_eq_some_iff.mp h
    rw [asBls_eq e]; rfl
  | .non :: _, _, h | .int _ :: _, _, h | .str _ :: _, _, h | .tup _ :: _, _, h | .lst _ :: _, _, h | .dct _ :: _, _, h | .ins _ _ :: _, _, h | .ref _ :: _, _, h => by simp only [asBls] at h; cases h
theorem asStrs_eq : ∀ {xs : List D} {ns : List Str}, asStrs xs = some ns → xs = ns.map D.str
  | [], ns, h => by simp only [asStrs] at h; cases h; rfl
  | .str i :: r, ns, h => by
    simp only [asStrs] at h
    obtain ⟨m, e, rfl⟩ := Option.map_eq_some_iff.mp h
    rw [asStrs_eq e]; rfl
  | .non :: _, _, h | .int _ :: _, _, h | .bl _ :: _, _, h | .tup _ :: _, _, h | .lst _ :: _, _, h | .dct _ :: _, _, h | .ins _ _ :: _, _, h | .ref _ :: _, _, h => by simp only [asStrs] at h; cases h
theorem asInts_map : ∀ ns : List Int, asInts (ns.map D.int) = some ns
  | [] => rfl
  | n :: ns => by rw [List.map_cons]; simp only [asInts, asInts_map ns]; rfl
theorem asBls_map : ∀ ns : List Bool, asBls (ns.map D.bl) = some ns
  | [] => rfl
  | n :: ns => by rw [List.map_cons]; simp only [asBls, asBls_map ns]; rfl
theorem asStrs_map : ∀ ns : List Str, asStrs (ns.map D.str) = some ns
  | [] => rfl
  | n :: ns => by rw [List.map_cons]; simp only [asStrs, asStrs_map ns]; rfl

theorem CallR.mono {f : Value} {r r' : List V → Hp → VK → Prop} (h : CallR X f r) (m : ∀ xs H Q, r' xs H Q → r xs H Q) : CallR X f r' := fun pins s σ H xs us Q I rr q => h pins s σ H xs us Q I rr (m xs H Q q)
/-- the built-in functions -/
inductive Blt where
  | len | abs | int | sum | all | any | sorted | tuple | list | dict | max | min
  deriving DecidableEq

/-- len -/
def fLen : FA := fun ds S Q => match ds with
  | [.scr ns] => Q (.int ns.length) S
  | [.str z] => z.length ≤ sizeLine ∧ Q (.int z.length) S
  | [.tup xs] => Q (.int xs.length) S
  | [d] => match asL S d with
    | some xs => Q (.int xs.length) S
    | none => match asD S d with
      | some kvs => Q (.int kvs.length) S
      | none => False
  | _ => False
def rLenA (K : PySem.W.Frag) : List V → Hp → VK → Prop := fun xs H Q => (∃ p ys, xs = [.ref p] ∧ (SqL K H p ys ∨ SqT K H p ys) ∧ Q (.int ys.length) H) ∨ (∃ z, xs = [.str z] ∧ z.length ≤ sizeLine ∧ Q (.int z.length) H) ∨ (∃ a kvs, xs = [V.ref a] ∧ Rd H a (.dK kvs) ∧ Q (.int kvs.length) H)
theorem cr_lenD : CallR X (.builtin "len") (fun xs H Q => ∃ a kvs, xs = [V.ref a] ∧ Rd H a (.dK kvs) ∧ Q (.int kvs.length) H) := by
  intro pins s σ H xs us Q I r h
  obtain ⟨a, kvs, rfl, ha, q⟩ := h
  obtain ⟨u, rfl, ru⟩ := vals1 r
  cases ru
  exact d_len I ha fun t s' I' => ⟨.int kvs.length, H, I', ⟨t, rfl⟩, q⟩
theorem cr_len : CallR X (.builtin "len") (rLenA X.K) := CallR.or call_len_seq (CallR.or call_len_str cr_lenD)
theorem RpK.length : ∀ {ds : List (Key × D)} {vs : List (Key × V)}, RpK W F ds vs → ds.length = vs.length
  | _, _, .nil => rfl
  | _, _, .cons _ t => by rw [List.length_cons, List.length_cons, RpK.length t]
theorem ok_len : RAOk W (rLenA W.K) fLen := by
  intro F P S H ds vs Qd Q rs rr h k
  have fin : ∀ {d : D} {v : V}, Rp W F d v → Qd d S → Q v H := fun r q => k F S H _ _ (Le.refl F) rs r q
  unfold fLen at h
  split at h
  · cases rr with
    | cons r t =>
      cases t
      cases r with
      | scr h1 => exact .inl ⟨_, _, rfl, .inl (rs.sub.sql h1), by rw [List.length_map]; exact fin (.int _) h⟩
  · cases rr with
    | cons r t => cases t; cases r; exact .inr (.inl ⟨_, rfl, h.1, fin (.int _) h.2⟩)
  · cases rr with
    | cons r t =>
      cases t
      cases r with
      | tup h1 r1 => exact .inl ⟨_, _, rfl, .inr (rs.sub.tupP h1).sqt, by rw [← r1.length]; exact fin (.int _) h⟩
  · cases rr with
    | cons r t =>
      cases t
      split at h
      · rename_i e
        obtain ⟨a, vs, rfl, h1, r1⟩ := asL_ok rs r e
        exact .inl ⟨_, _, rfl, .inl (.inl h1), by rw [← r1.length]; exact fin (.int _) h⟩
      · split at h
        · rename_i e
          obtain ⟨a, vs, rfl, h1, r1⟩ := asD_ok rs r e
          exact .inr (.inr ⟨_, _, rfl, h1, by rw [← r1.length]; exact fin (.int _) h⟩)
        · exact h.elim
  · exact h.elim
/-- abs, int, max, min -/
def fAbs : FA := fun ds S Q => match ds with | [.int i] => Q (.int (if i < 0 then -i else i)) S | _ => False
def fInt1 : FA := fun ds S Q => match ds with | [.int i] => Q (.int i) S | [.bl k] => Q (.int (if k then 1 else 0)) S | _ => False
def fMax : FA := fun ds S Q => match ds with | [.int i, .int j] => Q (.int (if j > i then j else i)) S | _ => False
def fMin : FA := fun ds S Q => match ds with | [.int i, .int j] => Q (.int (if j < i then j else i)) S | _ => False
theorem ok_abs : RAOk W (fun xs H Q => ∃ i, xs = [.int i] ∧ Q (.int (if i < 0 then -i else i)) H) fAbs := by
  intro F P S H ds vs Qd Q rs rr h k
  unfold fAbs at h
  split at h
  · cases rr with
    | cons r t => cases t; cases r; exact ⟨_, rfl, k F S H _ _ (Le.refl F) rs (.int _) h⟩
  · exact h.elim
theorem ok_int1 : RAOk W (fun xs H Q => (∃ i, xs = [.int i] ∧ Q (.int i) H) ∨ ∃ k, xs = [.bl k] ∧ Q (.int (if k then 1 else 0)) H) fInt1 := by
  intro F P S H ds vs Qd Q rs rr h k
  unfold fInt1 at h
  split at h
  · cases rr with
    | cons r t => cases t; cases r; exact .inl ⟨_, rfl, k F S H _ _ (Le.refl F) rs (.int _) h⟩
  · cases rr with
    | cons r t => cases t; cases r; exact .inr ⟨_, rfl, k F S H _ _ (Le.refl F) rs (.int _) h⟩
  · exact h.elim
theorem ok_max : RAOk W (fun xs H Q => ∃ i j, xs = [.int i, .int j] ∧ Q (.int (if j > i then j else i)) H) fMax := by
  intro F P S H ds vs Qd Q rs rr h k
  unfold fMax at h
  split at h
  · cases rr with
    | cons r t => cases t with
      | cons r2 t => cases t; cases r; cases r2; exact ⟨_, _, rfl, k F S H _ _ (Le.refl F) rs (.int _) h⟩
  · exact h.elim
theorem ok_min : RAOk W (fun xs H Q => ∃ i j, xs = [.int i, .int j] ∧ Q (.int (if j < i then j else i)) H) fMin := by
  intro F P S H ds vs Qd Q rs rr h k
  unfold fMin at h
  split at h
  · cases rr with
    | cons r t => cases t with
      | cons r2 t => cases t; cases r; cases r2; exact ⟨_, _, rfl, k F S H _ _ (Le.refl F) rs (.int _) h⟩
  · exact h.elim
/-- sum, all, any -/
def fL1 {α : Type} (g : List D → Option α) (f : α → D) : FA := fun ds S Q => match ds with
  | [d] => match asL S d with
    | some xs => match g xs with | some a => Q (f a) S | none => False
    | none => False
  | _ => False
theorem ok_sum : RAOk W (rSum W.K) (fL1 asInts fun ns => .int ns.sum) := by
  intro F P S H ds vs Qd Q rs rr h k
  unfold fL1 at h
  split at h
  · cases rr with
    | cons r t =>
      cases t
      split at h
      · rename_i xs e
        split at h
        · rename_i ns e2
          obtain ⟨a, vs, rfl, h1, r1⟩ := asL_ok rs r e
          rw [asInts_eq e2] at r1
          cases r1.ints
          exact ⟨a, ns, rfl, .inl h1, k F S H _ _ (Le.refl F) rs (.int _) h⟩
        · exact h.elim
      · exact h.elim
  · exact h.elim
theorem ok_all : RAOk W (rAll W.K) (fL1 asBls fun ns => .bl (ns.all id)) := by
  intro F P S H ds vs Qd Q rs rr h k
  unfold fL1 at h
  split at h
  · cases rr with
    | cons r t =>
      cases t
      split at h
      · rename_i xs e
        split at h
        · rename_i ns e2
          obtain ⟨a, vs, rfl, h1, r1⟩ := asL_ok rs r e
          rw [asBls_eq e2] at r1
          cases r1.bls
          exact ⟨a, ns, rfl, .inl h1, k F S H _ _ (Le.refl F) rs (.bl _) h⟩
        · exact h.elim
      · exact h.elim
  · exact h.elim
theorem ok_any : RAOk W (rAny W.K) (fL1 asBls fun ns => .bl (ns.any id)) := by
  intro F P S H ds vs Qd Q rs rr h k
  unfold fL1 at h
  split at h
  · cases rr with
    | cons r t =>
      cases t
      split at h
      · rename_i xs e
        split at h
        · rename_i ns e2
          obtain ⟨a, vs, rfl, h1, r1⟩ := asL_ok rs r e
          rw [asBls_eq e2] at r1
          cases r1.bls
          exact ⟨a, ns, rfl, .inl h1, k F S H _ _ (Le.refl F) rs (.bl _) h⟩
        · exact h.elim
      · exact h.elim
  · exact h.elim
/-- tuple, list -/
theorem cr_tupleP : CallR X (.type "tuple") (fun xs H Q => ∃ p ys, xs = [.ref p] ∧ ((SqL X.K H p ys ∧ NewT Q H ys) ∨ (SqT X.K H p ys ∧ Q (.ref p) H))) := by
  intro pins s σ H xs us Q I r h
  obtain ⟨p, ys, rfl, h⟩ := h
  obtain ⟨u, rfl, rx⟩ := vals1 r
  cases rx
  rcases h with ⟨hq, q⟩ | ⟨hq, q⟩
  · obtain ⟨its, r', pl, hz⟩ := I.list hq
    have hlen := r'.length
    refine call_tuple_list pl.isList (fun h' kp => ?_) (by simp only [List.size_toArray] <;> omega)
    have I1 : Inv X pins σ H { s with heap := h' } := I.kept (t' := s.toks) kp
    exact tup_new (t' := s.toks) I1 r' hz q
  · obtain ⟨its, r', pl, hz⟩ := I.tuple hq
    exact call_tuple_same pl ⟨.ref p, H, I, rfl, q⟩
def fTuple : FA := fun ds S Q => match ds with
  | [.tup xs] => Q (.tup xs) S
  | [d] => match asL S d with
    | some xs => Q (.tup xs) S
    | none => False
  | _ => False
theorem ok_tuple : RAOk W (fun xs H Q => ∃ p ys, xs = [.ref p] ∧ ((SqL W.K H p ys ∧ NewT Q H ys) ∨ (SqT W.K H p ys ∧ Q (.ref p) H))) fTuple := by
  intro F P S H ds vs Qd Q rs rr h k
  unfold fTuple at h
  split at h
  · cases rr with
    | cons r t =>
      cases t
      have r0 := r
      cases r with
      | tup h1 r1 => exact ⟨_, _, rfl, .inr ⟨(rs.sub.tupP h1).sqt, k F S H _ _ (Le.refl F) rs r0 h⟩⟩
  · cases rr with
    | cons r t =>
      cases t
      split at h
      · rename_i e
        obtain ⟨a, vs, rfl, h1, r1⟩ := asL_ok rs r e
        exact ⟨_, _, rfl, .inl ⟨.inl h1, mkT_ok rs (szRd rs.sz h1) r1 h k⟩⟩
      · exact h.elim
  · exact h.elim
def fList (own : Bool) : FA := fun ds S Q => match ds with
  | [.tup xs] => mkL own xs S Q
  | [d] => match asL S d with
    | some xs => mkL own xs S Q
    | none => False
  | _ => False
theorem tup_sz {xs : List D} {vs : List V} {a : Addr} (rs : RS W F P S H) (h1 : TupP W.K F a vs) : vs.length ≤ sizeLine := by
  rcases rs.sub.tupP h1 with ⟨o, h, _⟩ | ⟨o, its, n, _, _, _, _, z, rv⟩
  · exact rs.sz _ _ h
  · have e2 := rv.length
    simp only [Array.length_toList] at e2
    omega
theorem ok_list {own : Bool} : RAOk W (fun xs H Q => ∃ p ys, xs = [.ref p] ∧ (SqL W.K H p ys ∨ SqT W.K H p ys) ∧ ∀ l, H l = none → Q (.ref l) (upd H l (.lst ys))) (fList own) := by
  intro F P S H ds vs Qd Q rs rr h k
  unfold fList at h
  split at h
  · cases rr with
    | cons r t =>
      cases t
      cases r with
      | tup h1 r1 => exact ⟨_, _, rfl, .inr (rs.sub.tupP h1).sqt, mkL_ok rs (tup_sz (xs := []) rs h1) r1 h k⟩
  · cases rr with
    | cons r t =>
      cases t
      split at h
      · rename_i e
        obtain ⟨a, vs, rfl, h1, r1⟩ := asL_ok rs r e
        exact ⟨_, _, rfl, .inl (.inl h1), mkL_ok rs (szRd rs.sz h1) r1 h k⟩
      · exact h.elim
  · exact h.elim
end DL
set_option Elab.async false
set_option linter.all false
set_option maxRecDepth 100000
set_option maxHeartbeats 1000000
/-! DL4: sorted, dicts, isinstance, methods on data. -/
namespace DL
open PySem L2
variable {W : Wd} {F F' F'' P : Hp} {S S' : Store} {H H' : Hp} {X : Cx}

/-! ### sorting ints -/
def insI (a : Int) : List Int → List Int
  | [] => [a]
  | b :: r => if a ≤ b then a :: b :: r else b :: insI a r
def isort : List Int → List Int
  | [] => []
  | a :: r => insI a (isort r)
theorem insI_perm (a : Int) : ∀ l, (insI a l).Perm (a :: l)
  | [] => .refl _
  | b :: r => by
    unfold insI
    split
    · exact .refl _
    · exact ((insI_perm a r).cons b).trans (List.Perm.swap a b r)
theorem isort_perm : ∀ l, (isort l).Perm l
  | [] => .refl _
  | a :: r => (insI_perm a (isort r)).trans ((isort_perm r).cons a)
theorem insI_sorted (a : Int) : ∀ {l : List Int}, l.Pairwise (· ≤ ·) → (insI a l).Pairwise (· ≤ ·)
  | [], _ => List.pairwise_singleton _ _
  | b :: r, h => by
    unfold insI
    have h0 := List.pairwise_cons.mp h
    split
    · rename_i hab
      exact List.pairwise_cons.mpr ⟨fun x hx => by
        rcases List.mem_cons.mp hx with rfl | hx
        · exact hab
        · exact Int.le_trans hab (h0.1 x hx), h⟩
    · rename_i hab
      refine List.pairwise_cons.mpr ⟨fun x hx => ?_, insI_sorted a h0.2⟩
      have := (insI_perm a r).mem_iff.mp hx
      rcases List.mem_cons.mp this with rfl | hx
      · omega
      · exact h0.1 x hx
theorem isort_sorted : ∀ l, (isort l).Pairwise (· ≤ ·)
  | [] => .nil
  | a :: r => insI_sorted a (isort_sorted r)
theorem sorted_uniq : ∀ {a b : List Int}, a.Pairwise (· ≤ ·) → b.Pairwise (· ≤ ·) → a.Perm b → a = b
  | [], b, _, _, p => p.nil_eq
  | x :: a, [], _, _, p => absurd p.length_eq (by simp)
  | x :: a, y :: b, ha, hb, p => by
    have h1 := List.pairwise_cons.mp ha
    have h2 := List.pairwise_cons.mp hb
    have e : x = y := by
      have m1 : x ∈ y :: b := p.mem_iff.mp List.mem_cons_self
      have m2 : y ∈ x :: a := p.mem_iff.mpr List.mem_cons_self
      rcases List.mem_cons.mp m1 with e | m1
      · exact e
      · rcases List.mem_cons.mp m2 with e | m2
        · exact e.symm
        · exact Int.le_antisymm (h1.1 _ m2) (h2.1 _ m1)
    subst e
    rw [sorted_uniq h1.2 h2.2 ((List.perm_cons x).mp p)]
theorem sorted_is {ns ys : List Int} (p : ys.Perm ns) (s : ys.Pairwise (· ≤ ·)) : ys = isort ns := sorted_uniq s (isort_sorted ns) (p.trans (isort_perm ns).symm)
/-- the keys, all ints -/
def intKeys : List (Key × D) → Option (List Int)
  | [] => some []
  | (.inl i, _) :: r => (intKeys r).map (i :: ·)
  | (.inr _, _) :: _ => none
theorem intKeys_ok : ∀ {kvs : List (Key × D)} {ws : List (Key × V)} {ks : List Int}, RpK W F kvs ws → intKeys kvs = some ks → ws.map (·.1) = ks.map Sum.inl
  | _, _, _, .nil, h => by simp only [intKeys] at h; cases h; rfl
  | _, _, _, .cons (k := .inl i) r t, h => by
    simp only [intKeys] at h
    obtain ⟨m, e, rfl⟩ := Option.map_eq_some_iff.mp h
    rw [List.map_cons, List.map_cons, intKeys_ok t e]
  | _, _, _, .cons (k := .inr i) r t, h => by simp only [intKeys] at h; cases h
def rSortA (K : PySem.W.Frag) : List V → Hp → VK → Prop := fun xs H Q => rSortedI K xs H Q ∨ (∃ (a : Addr) (kvs : List (Key × V)) (ks : List Int), xs = [.ref a] ∧ Rd H a (.dK kvs) ∧ kvs.map (·.1) = ks.map Sum.inl ∧ ks.length < 64 ∧
    ∀ (ys : List Int) (p : Addr), ys.Perm ks → ys.Pairwise (· ≤ ·) → H p = none → Q (.ref p) (upd H p (.lst (ys.map V.int))))
theorem cr_sortA (hc : X.calm = true) : CallR X (.builtin "sorted") (rSortA X.K) := CallR.or cr_sortedI (call_sortedDI hc)
theorem Rps.of_ints (ns : List Int) : Rps W F (ns.map D.int) (ns.map V.int) := by
  induction ns with
  | nil => exact .nil
  | cons n ns ih => exact .cons (.int n) ih
def fSorted (own : Bool) : FA := fun ds S Q => match ds with
  | [d] => match asL S d with
    | some xs => match asInts xs with
      | some ns => mkL own ((isort ns).map D.int) S Q
      | none => False
    | none => match asD S d with
      | some kvs => match intKeys kvs with
        | some ks => ks.length < 64 ∧ mkL own ((isort ks).map D.int) S Q
        | none => False
      | none => False
  | _ => False
theorem ok_sorted {own : Bool} : RAOk W (rSortA W.K) (fSorted own) := by
  intro F P S H ds vs Qd Q rs rr h k
  unfold fSorted at h
  split at h
  · cases rr with
    | cons r t =>
      cases t
      split at h
      · rename_i xs e
        split at h
        · rename_i ns e2
          obtain ⟨a, vs, rfl, h1, r1⟩ := asL_ok rs r e
          rw [asInts_eq e2] at r1
          have z := szRd rs.sz h1
          cases r1.ints
          refine .inl ⟨a, ns, rfl, .inl h1, fun ns' p hp hs hn => ?_⟩
          rw [sorted_is hp hs]
          refine mkL_ok rs ?_ (Rps.of_ints _) h k p hn
          rw [List.length_map, (isort_perm ns).length_eq]
          have z' : (ns.map V.int).length ≤ sizeLine := z
          rw [List.length_map] at z'
          exact z'
        · exact h.elim
      · split at h
        · rename_i kvs e
          split at h
          · rename_i ks e2
            obtain ⟨a, vs, rfl, h1, r1⟩ := asD_ok rs r e
            refine .inr ⟨a, vs, ks, rfl, h1, intKeys_ok r1 e2, h.1, fun ns' p hp hs hn => ?_⟩
            rw [sorted_is hp hs]
            refine mkL_ok rs ?_ (Rps.of_ints _) h.2 k p hn
            rw [List.length_map, (isort_perm ks).length_eq]
            have := h.1
            exact small64 this
          · exact h.elim
        · exact h.elim
  · exact h.elim

/-! ### dicts by their entries -/
def dput (kvs : List (Key × D)) (k : Key) (v : D) : List (Key × D) :=
  if (kvs.any fun kv => decide (kv.1 = k)) = true then kvs.map (fun kv => if kv.1 = k then (kv.1, v) else kv) else kvs ++ [(k, v)]
def dmerge (kvs more : List (Key × D)) : List (Key × D) := more.foldl (fun acc kv => dput acc kv.1 kv.2) kvs
def ddrop (kvs : List (Key × D)) (k : Key) : List (Key × D) := kvs.filter fun kv => decide (kv.1 ≠ k)
theorem RpK.any (k : Key) : ∀ {kvs : List (Key × D)} {ws : List (Key × V)}, RpK W F kvs ws → (kvs.any fun kv => decide (kv.1 = k)) = (ws.any fun kv => decide (kv.1 = k))
  | _, _, .nil => rfl
  | _, _, .cons _ t => by rw [List.any_cons, List.any_cons, RpK.any k t]
theorem RpK.app : ∀ {kvs more : List (Key × D)} {ws us : List (Key × V)}, RpK W F kvs ws → RpK W F more us → RpK W F (kvs ++ more) (ws ++ us)
  | _, _, _, _, .nil, q => q
  | _, _, _, _, .cons r t, q => .cons r (RpK.app t q)
theorem RpK.repl {k : Key} {d : D} {v : V} (rv : Rp W F d v) : ∀ {kvs : List (Key × D)} {ws : List (Key × V)}, RpK W F kvs ws → RpK W F (kvs.map (fun kv => if kv.1 = k then (kv.1, d) else kv)) (ws.map (fun kv => if kv.1 = k then (kv.1, v) else kv))
  | _, _, .nil => .nil
  | _, _, .cons (k := k0) r t => by
    rw [List.map_cons, List.map_cons]
    by_cases e : k0 = k
    · rw [if_pos e, if_pos e]; exact .cons rv (RpK.repl rv t)
    · rw [if_neg e, if_neg e]; exact .cons r (RpK.repl rv t)
theorem RpK.put {k : Key} {d : D} {v : V} (rv : Rp W F d v) {kvs : List (Key × D)} {ws : List (Key × V)} (r : RpK W F kvs ws) : RpK W F (dput kvs k d) (putK ws k v) := by
  unfold dput putK
  rw [r.any k]
  split
  · exact r.repl rv
  · exact r.app (.cons rv .nil)
theorem RpK.drop {k : Key} : ∀ {kvs : List (Key × D)} {ws : List (Key × V)}, RpK W F kvs ws → RpK W F (ddrop kvs k) (dropK ws k)
  | _, _, .nil => .nil
  | _, _, .cons (k := k0) r t => by
    unfold ddrop dropK
    rw [List.filter_cons, List.filter_cons]
    by_cases e : k0 = k
    · simp only [ne_eq, e, not_true_eq_false, decide_false, Bool.false_eq_true, if_false]; exact RpK.drop t
    · simp only [ne_eq, e, not_false_eq_true, decide_true, if_true]; exact .cons r (RpK.drop t)
theorem RpK.merge : ∀ {more : List (Key × D)} {us : List (Key × V)} {kvs : List (Key × D)} {ws : List (Key × V)}, RpK W F more us → RpK W F kvs ws → RpK W F (dmerge kvs more) (mergeK ws us)
  | _, _, _, _, .nil, q => q
  | (k, d) :: ds, (_, v) :: vs, kvs, ws, .cons r t, q => by
    show RpK W F (dmerge (dput kvs k d) ds) (mergeK (putK ws k v) vs)
    exact RpK.merge t (q.put r)
/-- a list's items as pairs with keys -/
def asPairs : List D → Option (List (Key × D))
  | [] => some []
  | .tup [k, v] :: r => match keyD k with
    | some kk => (asPairs r).map ((kk, v) :: ·)
    | none => none
  | _ :: _ => none
theorem asPairs_ok (sub : Sub F H) : ∀ {xs : List D} {vs : List V} {kvs : List (Key × D)}, Rps W F xs vs → asPairs xs = some kvs →
    ∃ (ps : List Addr) (ws : List (Key × V)), vs = ps.map V.ref ∧ RpK W F kvs ws ∧ Paired (fun p kv => SqT W.K H p [kV kv.1, kv.2]) ps ws
  | _, _, _, .nil, h => by simp only [asPairs] at h; cases h; exact ⟨[], [], rfl, .nil, .nil⟩
  | _, _, _, .cons (d := d) (v := v) r t, h => by
    unfold asPairs at h
    split at h
    · rename_i e; cases e
    · rename_i k x rest e
      cases e
      split at h
      · rename_i kk ek
        obtain ⟨m, em, rfl⟩ := Option.map_eq_some_iff.mp h
        obtain ⟨ps, ws, rfl, rk, pp⟩ := asPairs_ok sub t em
        cases r with
        | tup h1 r1 =>
          rename_i us a
          cases r1 with
          | cons ra rb =>
            cases rb with
            | cons rc rd =>
              cases rd
              cases keyD_ok ra ek
              exact ⟨a :: ps, (kk, _) :: ws, rfl, .cons rc rk, .cons (sub.tupP h1).sqt pp⟩
      · cases h
    · cases h
def NewD (Q : VK) (H : Hp) (kvs : List (Key × V)) : Prop := ∀ p, H p = none → Q (.ref p) (upd H p (.dK kvs))
theorem pairs_val {pins : List (Addr × Obj)} {σ : St} {H : Hp} {s : Shared} (I : Inv X pins σ H s) : ∀ {ps : List Addr} {kvs : List (Key × V)}, Paired (fun p kv => SqT X.K H p [kV kv.1, kv.2]) ps kvs →
    ∃ (pv : List (Value × Value)) (prs : List (Key × Value)), KV kvs prs ∧ pv.length = ps.length ∧ prs.length = ps.length ∧ ∀ (j : Nat) (k v : Value), pv[j]? = some (k, v) → ∃ (b : Addr) (kk : Key), ps[j]? = some b ∧ PyProof.Rows.IsTup s.heap b #[k, v] ∧ prs[j]? = some (kk, v) ∧ keyIs kk k = true
  | _, _, .nil => ⟨[], [], .nil, rfl, rfl, fun j k v e => by simp at e⟩
  | _, _, .cons (a := p) (b := kv) h t => by
    obtain ⟨pv, prs, r, hl, hl2, hp⟩ := pairs_val I t
    obtain ⟨its, rv, ht, _⟩ := I.tuple h
    obtain ⟨u, y, ei, ru, ry⟩ := vals2 rv
    subst ei
    refine ⟨(u, y) :: pv, (kv.1, y) :: prs, .cons ⟨rfl, ry⟩ r, by rw [List.length_cons, List.length_cons, hl], by rw [List.length_cons, List.length_cons, hl2], fun j k v e => ?_⟩
    cases j with
    | zero =>
      have e' : (u, y) = (k, v) := Option.some.inj e
      cases e'
      exact ⟨p, kv.1, rfl, ht, rfl, kV_is (P := X.prog) (w := X.w) ru⟩
    | succ j =>
      obtain ⟨b, kk, e1, e2, e3, e4⟩ := hp j k v (by simpa using e)
      exact ⟨b, kk, by simpa using e1, e2, by simpa using e3, e4⟩
theorem I_tupP {pins : List (Addr × Obj)} {σ : St} {H : Hp} {s : Shared} {a : Addr} {vs : List V} (I : Inv X pins σ H s) (h : TupP X.K H a vs) : ∃ its : List Value, Vals vs its ∧ PySem.PlainSeq "tuple" s.heap a its.toArray ∧ vs.length ≤ sizeLine := by
  rcases h with ⟨o, h, hd⟩ | ⟨o, its, n, h1, h2, h3, h4, h5, h6⟩
  · obtain ⟨e, z, its, rv, o', e', c', n, d'⟩ := I.hok a _ h
    rw [e] at e'; cases e'
    exact ⟨its, rv, ⟨o, n, e, c', hd, d'⟩, z⟩
  · refine ⟨its.toList, h6, ⟨o, n, I.kIn a o h1, h2, h3, by simpa using h4⟩, ?_⟩
    have e2 := h6.length
    simp only [Array.length_toList] at e2
    omega
/-- dict(t), t a tuple of pairs -/
theorem cr_dictT (hcalm : X.calm = true) : CallR X (.type "dict") (fun xs H Q => ∃ (a : Addr) (ps : List Addr) (kvs : List (Key × V)), xs = [.ref a] ∧ TupP X.K H a (ps.map V.ref) ∧ Paired (fun p kv => SqT X.K H p [kV kv.1, kv.2]) ps kvs ∧ NewD Q H (mergeK [] kvs)) := by
  intro pins s σ H xs us Q I r q
  obtain ⟨a, ps, kvs, ex, hq, hp, q⟩ := q
  subst ex
  obtain ⟨u, eu, rx⟩ := vals1 r
  subst eu
  cases rx
  obtain ⟨its, rv, pl, hz⟩ := I_tupP I hq
  have ei := refs_at rv
  subst ei
  rw [List.length_map] at hz
  obtain ⟨pv, prs, rel, hl, hl2, hpr⟩ := pairs_val I hp
  refine PySem.call_dict_pairs (knd := mixKind X.prog X.w) (kvs := prs) (PySem.PairArg.tuple a (ps.map Value.ref).toArray (fun j => ps.getD j 0) pv) (I.ok.hd hcalm) ⟨pl, by simp [hl], fun j k v e => ?_⟩ ⟨by rw [hl2, hl], fun i k v e => ?_⟩ (by rw [hl]; exact hz) fun h' tk hd' k => ?_
  · obtain ⟨b, kk, e1, e2, _⟩ := hpr j k v e
    have eg : ps.getD j 0 = b := by rw [List.getD_eq_getElem?_getD, e1]; rfl
    refine ⟨by simp [e1], ?_⟩
    show PySem.PairAt s.heap (ps.getD j 0) k v
    rw [eg]
    exact .inl e2
  · obtain ⟨b, kk, e1, e2, e3, e4⟩ := hpr i k v e
    exact ⟨kk, e3, e4⟩
  · have hm : (s.heap.objs.size == sysModules) = false := beq_eq_false_iff_ne.mpr (Nat.ne_of_gt I.big)
    have hlen : (mergeK [] kvs).length ≤ sizeLine := by
      refine Nat.le_trans (length_mergeK kvs []) ?_
      rw [List.length_nil, Nat.zero_add, rel.length, hl2]
      exact hz
    exact ⟨.ref s.heap.objs.size, upd H s.heap.objs.size (.dK (mergeK [] kvs)), I.laid (t' := tk) (fun b o e => k b o (by simp) e) (Nat.le_refl _) (show ObjOk X.prog X.w _ _ _ (.dK (mergeK [] kvs)) from ⟨hlen, hm, merged [] prs, KV.merge rel .nil, hd'⟩), rfl, q _ (I.hok.fresh (Nat.le_refl _))⟩
theorem cr_dictC : CallR X (.type "dict") (fun xs H Q => ∃ (a : Addr) (kvs : List (Key × V)), xs = [.ref a] ∧ Rd H a (.dK kvs) ∧ NewD Q H kvs) := by
  intro pins s σ H xs us Q I r q
  obtain ⟨a, kvs, ex, hq, q⟩ := q
  subst ex
  obtain ⟨u, eu, rx⟩ := vals1 r
  subst eu
  cases rx
  exact d_copyOf I hq fun p s' hp I' => ⟨.ref p, _, I', rfl, q p hp⟩
def rDictA (K : PySem.W.Frag) : List V → Hp → VK → Prop := fun xs H Q =>
  (∃ (a : Addr) (ps : List Addr) (kvs : List (Key × V)), xs = [.ref a] ∧ SqL K H a (ps.map V.ref) ∧ Paired (fun p kv => SqT K H p [kV kv.1, kv.2]) ps kvs ∧ ∀ p, H p = none → Q (.ref p) (upd H p (.dK (mergeK [] kvs)))) ∨
  (∃ (a : Addr) (ps : List Addr) (kvs : List (Key × V)), xs = [.ref a] ∧ TupP K H a (ps.map V.ref) ∧ Paired (fun p kv => SqT K H p [kV kv.1, kv.2]) ps kvs ∧ NewD Q H (mergeK [] kvs)) ∨
  (∃ (a : Addr) (kvs : List (Key × V)), xs = [.ref a] ∧ Rd H a (.dK kvs) ∧ NewD Q H kvs)
theorem cr_dictA (hc : X.calm = true) : CallR X (.type "dict") (rDictA X.K) := CallR.or (call_dictP hc) (CallR.or (cr_dictT hc) cr_dictC)
def fDict (own : Bool) : FA := fun ds S Q => match ds with
  | [.tup xs] => match asPairs xs with | some kvs => mkD own (dmerge [] kvs) S Q | none => False
  | [d] => match asL S d with
    | some xs => match asPairs xs with | some kvs => mkD own (dmerge [] kvs) S Q | none => False
    | none => match asD S d with
      | some kvs => mkD own kvs S Q
      | none => False
  | _ => False
theorem dmerge_sz {ws : List (Key × V)} {n : Nat} (h : ws.length ≤ n) : (mergeK [] ws).length ≤ n := by
  have := length_mergeK ws []
  rw [List.length_nil, Nat.zero_add] at this
  omega
theorem Paired.len {α β : Type} {R : α → β → Prop} {l : List α} {m : List β} (h : Paired R l m) : m.length = l.length := (Paired.length h).symm
theorem ok_dict {own : Bool} : RAOk W (rDictA W.K) (fDict own) := by
  intro F P S H ds vs Qd Q rs rr h k
  unfold fDict at h
  split at h
  · cases rr with
    | cons r t =>
      cases t
      split at h
      · rename_i kvs e
        cases r with
        | tup h1 r1 =>
          have z := tup_sz (xs := []) rs h1
          obtain ⟨ps, ws, rfl, rk, pp⟩ := asPairs_ok rs.sub r1 e
          rw [List.length_map] at z
          exact .inr (.inl ⟨_, ps, ws, rfl, rs.sub.tupP h1, pp, mkD_ok rs (dmerge_sz (by rw [Paired.len pp]; exact z)) (RpK.merge rk .nil) h k⟩)
      · exact h.elim
  · cases rr with
    | cons r t =>
      cases t
      split at h
      · rename_i xs e
        split at h
        · rename_i kvs e2
          obtain ⟨a, us, rfl, h1, r1⟩ := asL_ok rs r e
          have z := szRd rs.sz h1
          obtain ⟨ps, ws, rfl, rk, pp⟩ := asPairs_ok rs.sub r1 e2
          have z' : (ps.map V.ref).length ≤ sizeLine := z
          rw [List.length_map] at z'
          exact .inl ⟨_, ps, ws, rfl, .inl h1, pp, mkD_ok rs (dmerge_sz (by rw [Paired.len pp]; exact z')) (RpK.merge rk .nil) h k⟩
        · exact h.elim
      · split at h
        · rename_i kvs e
          obtain ⟨a, ws, rfl, h1, r1⟩ := asD_ok rs r e
          exact .inr (.inr ⟨a, ws, rfl, h1, mkD_ok rs (szRd rs.sz h1) r1 h k⟩)
        · exact h.elim
  · exact h.elim

/-! ### isinstance, one built-in class -/
def tyD (S : Store) : D → Option String
  | .non => some "NoneType"
  | .bl _ => some "bool"
  | .int _ => some "int"
  | .str _ => some "str"
  | .tup _ => some "tuple"
  | .lst _ => some "list"
  | .dct _ => some "dict"
  | .ins _ _ => none
  | .scr _ => none
  | .ref a => match S a with
    | some (.lst _) => some "list"
    | some (.dct _) => some "dict"
    | _ => none
theorem tyD_ok {d : D} {v : V} {T : String} (rs : RS W F P S H) (r : Rp W F d v) (h : tyD S d = some T) : TyX W.K H v (.type T) := by
  cases r with
  | non => cases h; exact .base .non
  | bl b => cases h; exact .base (.bl b)
  | int b => cases h; exact .base (.int b)
  | str b => cases h; exact .base (.str b)
  | tup h1 r1 =>
    cases h
    rcases rs.sub.tupP h1 with ⟨o, h, _⟩ | ⟨o, its, n, h1, h2, _⟩
    · exact .fTuple h
    · exact .kTuple h1 h2
  | lst h1 r1 =>
    cases h
    rcases rs.sub.rd h1 with h | ⟨o, h⟩
    · exact .base (.lst h)
    · exact .base (.frz h)
  | dct h1 r1 =>
    cases h
    rcases rs.sub.rd h1 with h | ⟨o, h⟩
    · exact .base (.dK h)
    · exact .fDict h
  | ins h1 c r1 => cases h
  | scr h1 => cases h
  | ref a =>
    simp only [tyD] at h
    split at h
    · rename_i xs e
      cases h
      obtain ⟨_, u, hu, ru⟩ := rs.obj _ _ e
      cases ru with
      | lst r => exact .base (.lst hu)
    · rename_i xs e
      cases h
      obtain ⟨_, u, hu, ru⟩ := rs.obj _ _ e
      cases ru with
      | dct r => exact .base (.dK hu)
    · cases h
def isiB (T C : String) : Bool := decide (T = C) || (decide (T = "bool") && decide (C = "int"))
def isiT : List String := ["NoneType", "bool", "int", "str", "tuple", "list", "dict"]
theorem isi_all : ∀ T ∈ isiT, ∀ C ∈ ["bool", "int", "str", "tuple", "list", "dict"], kitB T C = some (isiB T C) := by decide +kernel
theorem tyD_mem {d : D} {T : String} (h : tyD S d = some T) : T ∈ isiT := by
  cases d <;> simp only [tyD] at h
  case ref a =>
    split at h <;> first | (cases h; decide) | cases h
  all_goals first | (cases h; decide) | cases h
def fIsi (C : String) : F1 := fun d S Q => match tyD S d with
  | some T => Q (.bl (isiB T C)) S
  | none => False
theorem pe_isi {x p p2 pos e d} {C : String} (hu : Gl X "isinstance") (hm : X.mg "isinstance" = none) (hT : Gl X x) (hTm : X.mg x = none) (hTb : bootBuiltins x = some (.type C)) (hx : x ≠ "__name__") (hxd : (x == ("__debug__" : Str)) = false)
    (hC : C ∈ ["bool", "int", "str", "tuple", "list", "dict"]) (hK : X.K = W.K) (he : PE X e (LE W d)) (hs : starEach [e, .Name x p2] X.env = (false, eval e X.env) :: starEach [.Name x p2] X.env) : PE X (.Call (.Name "isinstance" p) [e, .Name x p2] [] pos) (LE W (dUn (fIsi C) d)) := by
  have hb : PE X (.Name x p2) (tC (.ty C)) := pe_bltn (v := .ty C) (u := .type C) hT hTm hTb rfl hx hxd
  have h := pe_callB (pos := pos) (p := p) (call_isi (X := X)) hu hm (show bootBuiltins "isinstance" = some (.builtin "isinstance") by decide +kernel) (pa_cons he (pa_cons hb pa_nil rfl) hs) (by decide) (by decide) hs rfl
  refine h.mono fun σ H Q ⟨F, P, sd, S, Qd, rs, rl, q, k⟩ => ?_
  refine ⟨F, P, sd, S, _, rs, rl, q, fun F1 S1 H1 dx x l1 rs1 rx q1 => ?_⟩
  show ∃ (x_1 c : V) (t u : Value) (b : Bool), [x, .ty C] = [x_1, c] ∧ ClsV c u ∧ TyX X.K H1 x_1 t ∧ PySem.W.kitOne X.K t u = some b ∧ Q (.bl b) H1
  unfold fIsi at q1
  split at q1
  · rename_i T e
    rw [hK]
    exact ⟨x, .ty C, .type T, .type C, isiB T C, rfl, .ty C, tyD_ok rs1 rx e, kit_ty (isi_all T (tyD_mem e) C hC), k F1 S1 H1 _ _ l1 rs1 (.bl _) q1⟩
  · exact q1.elim
end DL
set_option Elab.async false
set_option linter.all false
set_option maxRecDepth 100000
set_option maxHeartbeats 1000000
/-! DL5: tests, targets, statements, loops, comprehensions on data. -/
namespace DL
open PySem L2
variable {W : Wd} {F F' F'' P : Hp} {S S' : Store} {H H' : Hp} {X : Cx}

/-! ### tests -/
def truD (S : Store) : D → Option Bool
  | .non => some false
  | .bl b => some b
  | .int i => some (i != 0)
  | .tup xs => some (!xs.isEmpty)
  | .lst xs => some (!xs.isEmpty)
  | .dct xs => some (!xs.isEmpty)
  | .str x => if x.length ≤ sizeLine then some ((x.length : Int) != 0) else none
  | .ins _ _ => none
  | .scr _ => none
  | .ref a => match S a with
    | some (.lst xs) => some (!xs.isEmpty)
    | _ => none
theorem Rps.isEmpty : ∀ {ds : List D} {vs : List V}, Rps W F ds vs → ds.isEmpty = vs.isEmpty
  | _, _, .nil => rfl
  | _, _, .cons _ _ => rfl
theorem RpK.isEmpty : ∀ {ds : List (Key × D)} {vs : List (Key × V)}, RpK W F ds vs → ds.isEmpty = vs.isEmpty
  | _, _, .nil => rfl
  | _, _, .cons _ _ => rfl
/-- a dict's truth, locked or not -/
def TruX (K : PySem.W.Frag) (x : V) (H : Hp) (k : Bool) : Prop := TruV K x H k ∨ ∃ a kvs, x = .ref a ∧ Rd H a (.dK kvs) ∧ k = !kvs.isEmpty
theorem pt_truthX {a : Expr} {ta : TE} (ha : PE X a ta) (he : ∀ whole, isTrue a X.env whole = (do let v ← whole; standAt a.pos; holding [v] (truthy v))) :
    PT X a (fun σ H Q => ta σ H fun x H' => ∃ k, TruX X.K x H' k ∧ Q k H') := by
  refine ⟨fun pins s σ H Q I h => ?_⟩
  refine PyProof.Rows.isTrue_plain (thn (ha.run pins s σ H _ I h) fun v s1 ⟨x, H1, I1, r1, k, q1, q2⟩ => ?_) (he _)
  rcases q1 with q1 | ⟨p, kvs, rfl, hd, rfl⟩
  · exact tru_ok pins s1 σ H1 x v Q I1 r1 ⟨k, q1, q2⟩
  · cases r1
    exact d_truth I1 hd fun s' I' => ⟨H1, I', q2⟩
theorem truD_ok {d : D} {v : V} {k : Bool} (rs : RS W F P S H) (r : Rp W F d v) (h : truD S d = some k) : TruX W.K v H k := by
  cases r with
  | non => cases h; exact .inl rfl
  | bl b => cases h; exact .inl rfl
  | int i => cases h; exact .inl rfl
  | str x =>
    simp only [truD] at h
    split at h
    · cases h; exact .inl ⟨by assumption, rfl⟩
    · cases h
  | tup h1 r1 => cases h; exact .inl (.inr (.inl ⟨_, (rs.sub.tupP h1).sqt, by rw [r1.isEmpty]⟩))
  | lst h1 r1 => cases h; exact .inl (.inl ⟨_, .inl (rs.sub.rd h1), by rw [r1.isEmpty]⟩)
  | dct h1 r1 => cases h; exact .inr ⟨_, _, rfl, rs.sub.rd h1, by rw [r1.isEmpty]⟩
  | ins h1 c r1 => cases h
  | scr h1 => cases h
  | ref a =>
    simp only [truD] at h
    split at h
    · rename_i xs e
      cases h
      obtain ⟨_, u, hu, ru⟩ := rs.obj _ _ e
      cases ru with
      | lst r => exact .inl (.inl ⟨_, .of hu, by rw [r.isEmpty]⟩)
    · cases h
def tOf (d : DE) : DT := fun sd S Q => d sd S fun x S1 => match truD S1 x with | some k => Q k S1 | none => False
def tOfB (d : DE) : DT := fun sd S Q => d sd S fun x S1 => match x with | .bl k => Q k S1 | _ => False
theorem lt_truth {a : Expr} {d : DE} (hK : X.K = W.K) (ha : PE X a (LE W d)) (he : ∀ whole, isTrue a X.env whole = (do let v ← whole; standAt a.pos; holding [v] (truthy v))) : PT X a (LT W (tOf d)) :=
  (pt_truthX ha he).mono fun σ H Q ⟨F, P, sd, S, Qd, rs, rl, h, k⟩ => ⟨F, P, sd, S, _, rs, rl, h, fun F1 S1 H1 dv v l1 rs1 rv q => by
    split at q
    · rename_i b e
      exact ⟨b, by rw [hK]; exact truD_ok rs1 rv e, k F1 S1 H1 b l1 rs1 q⟩
    · exact q.elim⟩
theorem lt_cmp {op : CmpOp} {r : R2} {f : F2} {a b : Expr} {pos : Pos} {da db : DE} (ho : OpR X (compareOp op) r) (hr : R2Ok W r f) (ha : PE X a (LE W da)) (hb : PE X b (LE W db)) (hm : behindInMarks op b = false) : PT X (.Compare a [op] [b] pos) (LT W (tOfB (dOp f da db))) :=
  (pt_cmpR ho ha hb hm).mono fun σ H Q ⟨F, P, sd, S, Qd, rs, rl, h, k⟩ => lift2 hr σ H _ ⟨F, P, sd, S, _, rs, rl, h, fun F1 S1 H1 dv v l1 rs1 rv q => by
    split at q
    · cases rv; exact ⟨_, rfl, k F1 S1 H1 _ l1 rs1 q⟩
    · exact q.elim⟩
def dChain (f f' : F2) (da db dc : DE) : DE := fun sd S Q => da sd S fun x S1 => db sd S1 fun y S2 => f x y S2 fun z S3 => match z with
  | .bl k => if k = true then dc sd S3 fun w S4 => f' y w S4 Q else Q (.bl false) S3
  | _ => False
theorem lift_chain {r r' : R2} {f f' : F2} {da db dc : DE} (hr : R2Ok W r f) (hr' : R2Ok W r' f') : ∀ σ H Q, LE W (dChain f f' da db dc) σ H Q → tChain r r' (LE W da) (LE W db) (LE W dc) σ H Q := by
  rintro σ H Q ⟨F, P, sd, S, Qd, rs, rl, h, k⟩
  refine ⟨F, P, sd, S, _, rs, rl, h, fun F1 S1 H1 dx x l1 rs1 rx q1 => ⟨F1, P, sd, S1, _, rs1, rl.mono l1, q1, fun F2 S2 H2 dy y l2 rs2 ry q2 => ?_⟩⟩
  refine hr F2 P S2 H2 dx dy x y _ _ rs2 (rx.mono l2) ry q2 fun F3 S3 H3 dz z l3 rs3 rz q3 => ?_
  split at q3
  · cases rz
    rename_i kk
    refine ⟨kk, rfl, ?_⟩
    cases kk with
    | true =>
      simp only [if_true] at q3 ⊢
      exact ⟨F3, P, sd, S3, _, rs3, ((rl.mono l1).mono l2).mono l3, q3, fun F4 S4 H4 dw w l4 rs4 rw' q4 => hr' F4 P S4 H4 dy dw y w Qd Q rs4 ((ry.mono l3).mono l4) rw' q4 ((((k.le l1).le l2).le l3).le l4)⟩
    | false =>
      simp only [Bool.false_eq_true, if_false] at q3 ⊢
      exact k F3 S3 H3 _ _ ((l1.trans l2).trans l3) rs3 (.bl false) q3
  · exact q3.elim
theorem le_chain {op op' : CmpOp} {r r' : R2} {f f' : F2} {a b c : Expr} {pos : Pos} {da db dc : DE} (ho : OpR X (compareOp op) r) (ho' : OpR X (compareOp op') r') (hr : R2Ok W r f) (hr' : R2Ok W r' f') (ha : PE X a (LE W da)) (hb : PE X b (LE W db)) (hc : PE X c (LE W dc))
    (hm : lastMarks [op, op'] [b, c] = false) : PE X (.Compare a [op, op'] [b, c] pos) (LE W (dChain f f' da db dc)) := (pe_chain ho ho' ha hb hc hm).mono (lift_chain hr hr')
theorem lt_chain {op op' : CmpOp} {r r' : R2} {f f' : F2} {a b c : Expr} {pos : Pos} {da db dc : DE} (ho : OpR X (compareOp op) r) (ho' : OpR X (compareOp op') r') (hr : R2Ok W r f) (hr' : R2Ok W r' f') (ha : PE X a (LE W da)) (hb : PE X b (LE W db)) (hc : PE X c (LE W dc))
    (hm : lastMarks [op, op'] [b, c] = false) : PT X (.Compare a [op, op'] [b, c] pos) (LT W (tOfB (dChain f f' da db dc))) :=
  (pt_chain ho ho' ha hb hc hm).mono fun σ H Q ⟨F, P, sd, S, Qd, rs, rl, h, k⟩ => lift_chain hr hr' σ H _ ⟨F, P, sd, S, _, rs, rl, h, fun F1 S1 H1 dv v l1 rs1 rv q => by
    split at q
    · cases rv; exact ⟨_, rfl, k F1 S1 H1 _ l1 rs1 q⟩
    · exact q.elim⟩
def dNotT (t : DT) : DT := fun sd S Q => t sd S fun k S1 => Q (!k) S1
def dAndT (t u : DT) : DT := fun sd S Q => t sd S fun k S1 => if k = true then u sd S1 Q else Q false S1
def dOrT (t u : DT) : DT := fun sd S Q => t sd S fun k S1 => if k = true then Q true S1 else u sd S1 Q
theorem lt_not {a : Expr} {pos : Pos} {t : DT} (h : PT X a (LT W t)) : PT X (.UnaryOp .Not a pos) (LT W (dNotT t)) :=
  (pt_not h).mono fun σ H Q ⟨F, P, sd, S, Qd, rs, rl, h, k⟩ => ⟨F, P, sd, S, _, rs, rl, h, fun F1 S1 H1 b l1 rs1 q => k F1 S1 H1 _ l1 rs1 q⟩
theorem lw_and {a b : Expr} {rest : List Expr} {pos : Pos} {t u : DT} (ha : PT X a (LT W t)) (hb : PW X (.BoolOp .And (b :: rest) pos) (LT W u)) : PW X (.BoolOp .And (a :: b :: rest) pos) (LT W (dAndT t u)) :=
  (pw_and ha hb).mono fun σ H Q ⟨F, P, sd, S, Qd, rs, rl, h, k⟩ => ⟨F, P, sd, S, _, rs, rl, h, fun F1 S1 H1 b l1 rs1 q => by
    cases b with
    | true =>
      simp only [if_true] at q ⊢
      exact ⟨F1, P, sd, S1, _, rs1, rl.mono l1, q, fun F2 S2 H2 b l2 rs2 q2 => k F2 S2 H2 b (l1.trans l2) rs2 q2⟩
    | false =>
      simp only [Bool.false_eq_true, if_false] at q ⊢
      exact k F1 S1 H1 _ l1 rs1 q⟩
theorem lw_or {a b : Expr} {rest : List Expr} {pos : Pos} {t u : DT} (ha : PT X a (LT W t)) (hb : PW X (.BoolOp .Or (b :: rest) pos) (LT W u)) : PW X (.BoolOp .Or (a :: b :: rest) pos) (LT W (dOrT t u)) :=
  (pw_or ha hb).mono fun σ H Q ⟨F, P, sd, S, Qd, rs, rl, h, k⟩ => ⟨F, P, sd, S, _, rs, rl, h, fun F1 S1 H1 b l1 rs1 q => by
    cases b with
    | true =>
      simp only [if_true] at q ⊢
      exact k F1 S1 H1 _ l1 rs1 q
    | false =>
      simp only [Bool.false_eq_true, if_false] at q ⊢
      exact ⟨F1, P, sd, S1, _, rs1, rl.mono l1, q, fun F2 S2 H2 b l2 rs2 q2 => k F2 S2 H2 b (l1.trans l2) rs2 q2⟩⟩
/-- .. as values -/
def dNot (d : DE) : DE := fun sd S Q => d sd S fun x S1 => match x with | .bl k => Q (.bl (!k)) S1 | _ => False
def dAnd (d e : DE) : DE := fun sd S Q => d sd S fun x S1 => match x with | .bl k => if k = true then e sd S1 Q else Q (.bl false) S1 | _ => False
def dOr (d e : DE) : DE := fun sd S Q => d sd S fun x S1 => match x with | .bl k => if k = true then Q (.bl true) S1 else e sd S1 Q | _ => False
theorem le_not {a : Expr} {pos : Pos} {d : DE} (h : PE X a (LE W d)) : PE X (.UnaryOp .Not a pos) (LE W (dNot d)) :=
  (pe_not h).mono fun σ H Q ⟨F, P, sd, S, Qd, rs, rl, h, k⟩ => ⟨F, P, sd, S, _, rs, rl, h, fun F1 S1 H1 dv v l1 rs1 rv q => by
    split at q
    · cases rv; exact ⟨_, rfl, k F1 S1 H1 _ _ l1 rs1 (.bl _) q⟩
    · exact q.elim⟩
theorem le_and {a b : Expr} {rest : List Expr} {pos : Pos} {d e : DE} (ha : PE X a (LE W d)) (hb : PE X (.BoolOp .And (b :: rest) pos) (LE W e)) : PE X (.BoolOp .And (a :: b :: rest) pos) (LE W (dAnd d e)) :=
  (pe_and ha hb).mono fun σ H Q ⟨F, P, sd, S, Qd, rs, rl, h, k⟩ => ⟨F, P, sd, S, _, rs, rl, h, fun F1 S1 H1 dv v l1 rs1 rv q => by
    split at q
    · cases rv
      rename_i c
      refine ⟨_, rfl, ?_⟩
      cases c with
      | true =>
        simp only [if_true] at q ⊢
        exact ⟨F1, P, sd, S1, _, rs1, rl.mono l1, q, k.le l1⟩
      | false =>
        simp only [Bool.false_eq_true, if_false] at q ⊢
        exact k F1 S1 H1 _ _ l1 rs1 (.bl _) q
    · exact q.elim⟩
theorem le_or {a b : Expr} {rest : List Expr} {pos : Pos} {d e : DE} (ha : PE X a (LE W d)) (hb : PE X (.BoolOp .Or (b :: rest) pos) (LE W e)) : PE X (.BoolOp .Or (a :: b :: rest) pos) (LE W (dOr d e)) :=
  (pe_or ha hb).mono fun σ H Q ⟨F, P, sd, S, Qd, rs, rl, h, k⟩ => ⟨F, P, sd, S, _, rs, rl, h, fun F1 S1 H1 dv v l1 rs1 rv q => by
    split at q
    · cases rv
      rename_i c
      refine ⟨_, rfl, ?_⟩
      cases c with
      | true =>
        simp only [if_true] at q ⊢
        exact k F1 S1 H1 _ _ l1 rs1 (.bl _) q
      | false =>
        simp only [Bool.false_eq_true, if_false] at q ⊢
        exact ⟨F1, P, sd, S1, _, rs1, rl.mono l1, q, k.le l1⟩
    · exact q.elim⟩
def dIte (t : DT) (d e : DE) : DE := fun sd S Q => t sd S fun k S1 => if k = true then d sd S1 Q else e sd S1 Q
theorem le_ite {c a b : Expr} {pos : Pos} {t : DT} {d e : DE} (hc : PT X c (LT W t)) (ha : PE X a (LE W d)) (hb : PE X b (LE W e)) : PE X (.IfExp c a b pos) (LE W (dIte t d e)) :=
  (pe_ifExp hc ha hb).mono fun σ H Q ⟨F, P, sd, S, Qd, rs, rl, h, k⟩ => ⟨F, P, sd, S, _, rs, rl, h, fun F1 S1 H1 b l1 rs1 q => by
    cases b with
    | true =>
      simp only [if_true] at q ⊢
      exact ⟨F1, P, sd, S1, _, rs1, rl.mono l1, q, k.le l1⟩
    | false =>
      simp only [Bool.false_eq_true, if_false] at q ⊢
      exact ⟨F1, P, sd, S1, _, rs1, rl.mono l1, q, k.le l1⟩⟩
theorem le_un {op : UnaryOp} {r : V → Hp → VK → Prop} {f : F1} {a : Expr} {pos : Pos} {d : DE} (ho : UnR X (unaryOp op) r)
    (hr : ∀ F P S H dx x Qd Q, RS W F P S H → Rp W F dx x → f dx S Qd → Kont W F P Qd Q → r x H Q) (ha : PE X a (LE W d)) : PE X (.UnaryOp op a pos) (LE W (dUn f d)) :=
  (pe_un ho ha).mono fun σ H Q ⟨F, P, sd, S, Qd, rs, rl, h, k⟩ => ⟨F, P, sd, S, _, rs, rl, h, fun F1 S1 H1 dv v l1 rs1 rv q => hr F1 P S1 H1 dv v Qd Q rs1 rv q (k.le l1)⟩
def fNeg : F1 := fun d S Q => match d with | .int i => Q (.int (-i)) S | _ => False
theorem ok_neg : ∀ F P S H dx x Qd Q, RS W F P S H → Rp W F dx x → fNeg dx S Qd → Kont W F P Qd Q → rU (fun i => .int (-i)) x H Q := by
  intro F P S H dx x Qd Q rs rx h k
  unfold fNeg at h
  split at h
  · cases rx; exact ⟨_, rfl, k F S H _ _ (Le.refl F) rs (.int _) h⟩
  · exact h.elim

/-! ### targets: names and tuples of names -/
mutual
inductive CG where
  | slot (i : Nat)
  | tup (gs : CGs)
inductive CGs where
  | nil
  | cons (g : CG) (r : CGs)
end
mutual
def gset : CG → D → Slots → Option Slots
  | .slot i, d, sd => some (sd.set i (some d))
  | .tup gs, .tup xs, sd => gsets gs xs sd
  | _, _, _ => none
def gsets : CGs → List D → Slots → Option Slots
  | .nil, [], sd => some sd
  | .cons g r, x :: xs, sd => match gset g x sd with
    | some sd' => gsets r xs sd'
    | none => none
  | _, _, _ => none
end
mutual
def gslots : CG → List Nat
  | .slot i => [i]
  | .tup gs => gslotss gs
def gslotss : CGs → List Nat
  | .nil => []
  | .cons g r => gslots g ++ gslotss r
end
/-- what stands behind a store into g's names: all others are as they were -/
def Off (is : List Nat) (σ σ' : St) : Prop := σ'.length = σ.length ∧ ∀ i, i ∉ is → σ'[i]? = σ[i]?
theorem Off.refl {is : List Nat} {σ : St} : Off is σ σ := ⟨rfl, fun _ _ => rfl⟩
theorem Off.trans {is js : List Nat} {σ σ1 σ2 : St} (a : Off is σ σ1) (b : Off js σ1 σ2) : Off (is ++ js) σ σ2 :=
  ⟨b.1.trans a.1, fun i h => by
    rw [b.2 i (fun z => h (List.mem_append_right _ z)), a.2 i (fun z => h (List.mem_append_left _ z))]⟩
theorem wipe_get {σ : St} {i : Nat} : ∀ {vs : List Nat}, i ∉ vs → (wipe σ vs)[i]? = σ[i]?
  | [], _ => rfl
  | v :: vs, h => by
    unfold wipe
    rw [List.getElem?_set_ne (fun e => h (by simp [e])), wipe_get fun z => h (List.mem_cons_of_mem _ z)]
theorem wipe_at {σ : St} {i : Nat} : ∀ {vs : List Nat}, i ∈ vs → i < σ.length → (wipe σ vs)[i]? = some none
  | v :: vs, h, hl => by
    unfold wipe
    by_cases e : v = i
    · subst e; rw [List.getElem?_set_self (by rw [wipe_length]; exact hl)]
    · rw [List.getElem?_set_ne e]
      exact wipe_at ((List.mem_cons.mp h).resolve_left fun z => e z.symm) hl
theorem Off.wipe {is vs : List Nat} {σ σ' : St} (o : Off is σ σ') (h : ∀ i ∈ is, i ∈ vs) : wipe σ' vs = wipe σ vs := by
  apply List.ext_getElem?
  intro i
  by_cases hi : i ∈ vs
  · by_cases hl : i < σ.length
    · rw [wipe_at hi hl, wipe_at hi (by rw [o.1]; exact hl)]
    · rw [List.getElem?_eq_none (by rw [wipe_length, o.1]; omega), List.getElem?_eq_none (by rw [wipe_length]; omega)]
  · rw [wipe_get hi, wipe_get hi]
    exact o.2 i fun z => hi (h i z)
/-- an item that a loop gives: a datum, or a tuple that is only taken apart -/
def RpI (W : Wd) (F : Hp) (d : D) (v : V) : Prop := Rp W F d v ∨ ∃ a vs xs, d = .tup xs ∧ v = .ref a ∧ SqT W.K F a vs ∧ Rps W F xs vs
theorem RpI.mono (e : Le F F') {d : D} {v : V} (r : RpI W F d v) : RpI W F' d v := by
  rcases r with r | ⟨a, vs, xs, e1, e2, h, r⟩
  · exact .inl (r.mono e)
  · exact .inr ⟨a, vs, xs, e1, e2, e.sqt h, r.mono e⟩
theorem RSl.set {sd : Slots} {σ : St} (rl : RSl W F sd σ) {d : D} {v : V} (r : Rp W F d v) (i : Nat) : RSl W F (sd.set i (some d)) (σ.set i (some v)) := by
  refine ⟨by rw [List.length_set, List.length_set]; exact rl.len, fun j e h => ?_⟩
  by_cases hj : j = i
  · subst hj
    by_cases hl : j < sd.length
    · rw [List.getElem?_set_self hl] at h
      cases h
      exact ⟨v, by rw [List.getElem?_set_self (by rw [← rl.len]; exact hl)], r⟩
    · rw [List.getElem?_eq_none (by rw [List.length_set]; omega)] at h; cases h
  · rw [List.getElem?_set_ne (Ne.symm hj)] at h ⊢
    exact rl.at_ j e h
def isTupG : CG → Bool | .tup _ => true | _ => false
def LG (W : Wd) (g : CG) : TG := fun v σ H Q => ∃ F sd d sd', Sub F H ∧ RSl W F sd σ ∧ (Rp W F d v ∨ (isTupG g = true ∧ RpI W F d v)) ∧ gset g d sd = some sd' ∧ ∀ σ', RSl W F sd' σ' → Off (gslots g) σ σ' → Q σ' H
def LGs (W : Wd) (g : CGs) : TGs := fun vs σ H Q => ∃ F sd ds sd', Sub F H ∧ RSl W F sd σ ∧ Rps W F ds vs ∧ gsets g ds sd = some sd' ∧ ∀ σ', RSl W F sd' σ' → Off (gslotss g) σ σ' → Q σ' H
theorem PG.mono {e : Expr} {t t' : TG} (h : PG X e t) (m : ∀ v σ H Q, t' v σ H Q → t v σ H Q) : PG X e t' := ⟨fun pins s σ H v u Q I r q => h.run pins s σ H v u Q I r (m v σ H Q q)⟩
theorem PGs.mono {e : List Expr} {t t' : TGs} (h : PGs X e t) (m : ∀ v σ H Q, t' v σ H Q → t v σ H Q) : PGs X e t' := ⟨fun pins s σ H v u Q I r q => h.run pins s σ H v u Q I r (m v σ H Q q)⟩
theorem lg_name {i : Nat} {x : Str} {pos : Pos} (hN : X.N.Nodup) (hi : X.N[i]? = some x) (hx : Loc X.env.scope x) (hf : X.fn x = true ∨ X.env.scope.names.lookup x = some .local) : PG X (.Name x pos) (LG W (.slot i)) :=
  PG.mono (pg_name hN hi hx hf) fun v σ H Q ⟨F, sd, d, sd', sub, rl, r, e, k⟩ => by
    simp only [gset] at e
    cases e
    have r : Rp W F d v := by
      rcases r with r | ⟨z, _⟩
      · exact r
      · cases z
    exact k _ (rl.set r i) ⟨by rw [List.length_set], fun j hj => by rw [List.getElem?_set_ne (fun z => hj (by simp [gslots, z]))]⟩
theorem lgs_nil : PGs X [] (LGs W .nil) := PGs.mono pgs_nil fun vs σ H Q ⟨F, sd, ds, sd', sub, rl, r, e, k⟩ => by
  cases r with
  | nil => simp only [gsets] at e; cases e; exact ⟨rfl, k σ rl .refl⟩
  | cons _ _ => simp [gsets] at e
theorem lgs_cons {e : Expr} {es : List Expr} {g : CG} {r : CGs} (h1 : PG X e (LG W g)) (h2 : PGs X es (LGs W r)) (hs : (assignEach (e :: es) X.env).map (·.2) = assign e X.env :: (assignEach es X.env).map (·.2)) : PGs X (e :: es) (LGs W (.cons g r)) :=
  PGs.mono (pgs_cons h1 h2 hs) fun vs σ H Q ⟨F, sd, ds, sd', sub, rl, rr, e, k⟩ => by
    cases rr with
    | nil => simp [gsets] at e
    | cons rd rt =>
      simp only [gsets] at e
      split at e
      · rename_i sd1 e1
        exact ⟨_, _, rfl, F, sd, _, sd1, sub, rl, .inl rd, e1, fun σ1 rl1 o1 => ⟨F, sd1, _, sd', sub, rl1, rt, e, fun σ2 rl2 o2 => k σ2 rl2 (o1.trans o2)⟩⟩
      · cases e
theorem gsets_len : ∀ {g : CGs} {ds : List D} {sd sd' : Slots}, gsets g ds sd = some sd' → ∀ {es : List Expr} , True := fun _ => fun {_} => trivial
def glen : CGs → Nat
  | .nil => 0
  | .cons _ r => glen r + 1
theorem glen_of : ∀ {g : CGs} {ds : List D} {sd sd' : Slots}, gsets g ds sd = some sd' → ds.length = glen g
  | .nil, [], _, _, _ => rfl
  | .nil, _ :: _, _, _, h => by simp [gsets] at h
  | .cons _ _, [], _, _, h => by simp [gsets] at h
  | .cons g r, d :: ds, sd, sd', h => by
    simp only [gsets] at h
    split at h
    · rw [List.length_cons, glen_of h]; rfl
    · cases h
theorem lg_tup {es : List Expr} {k : Nat} {pos : Pos} {g : CGs} (hc : X.calm = true) (hK : X.K = W.K) (h : PGs X es (LGs W g)) (hn : (assignEach es X.env).length = glen g) (hst : (assignEach es X.env).findIdx? (·.1) = none) : PG X (.Tuple es k pos) (LG W (.tup g)) :=
  PG.mono (pg_tup hc h hn hst) fun v σ H Q ⟨F, sd, d, sd', sub, rl, r, e, k⟩ => by
    have r : RpI W F d v := by
      rcases r with r | ⟨_, r⟩
      · exact .inl r
      · exact r
    have fin : ∀ {a : Addr} {vs : List V} {xs : List D}, d = .tup xs → v = .ref a → SqT W.K F a vs → Rps W F xs vs → gTup X.K (glen g) (LGs W g) v σ H Q := by
      rintro a vs xs rfl rfl hq rr
      simp only [gset] at e
      exact ⟨a, vs, rfl, by rw [hK]; exact sub.sqt hq, by rw [← rr.length]; exact glen_of e, F, sd, xs, sd', sub, rl, rr, e, k⟩
    rcases r with r | ⟨a, vs, xs, e1, e2, hq, rr⟩
    · cases r with
      | tup h1 r1 => exact fin rfl rfl h1.sqt r1
      | _ => simp [gset] at e
    · exact fin e1 e2 hq rr
end DL
set_option Elab.async false
set_option linter.all false
set_option maxRecDepth 100000
set_option maxHeartbeats 1000000
/-! DL6: what is walked, loops, comprehensions, statements on data. -/
namespace DL
open PySem L2
variable {W : Wd} {F F' F'' P : Hp} {S S' : Store} {H H' : Hp} {X : Cx}

/-! ### sources -/
structure Src where
  chk : Store → Prop
  xs : List D
abbrev DI := Slots → Store → (Src → Store → Prop) → Prop
structure SrcOk (W : Wd) (F P : Hp) (J : It) (src : Src) : Prop where
  len : src.xs.length ≤ sizeLine
  go : ∀ F' P' S' H' i d, Le F F' → RS W F' P' S' H' → src.chk S' → src.xs[i]? = some d → J.go i H' ∧ ∀ x H'', J.yld i H' x H'' → ∃ F'', Le F' F'' ∧ RS W F'' P' S' H'' ∧ RpI W F'' d x
  stop : ∀ F' P' S' H', Le F F' → RS W F' P' S' H' → src.chk S' → J.stop src.xs.length H'
def LI (W : Wd) (tupOk : Bool) (d : DI) : TI := fun σ H R => ∃ F P sd S Rd, RS W F P S H ∧ RSl W F sd σ ∧ d sd S Rd ∧ ∀ F' S' H' J src, Le F F' → RS W F' P S' H' → SrcOk W F' P J src →
  (tupOk = false → ∀ F'' P' S'' H'' i d, Le F' F'' → RS W F'' P' S'' H'' → src.chk S'' → src.xs[i]? = some d → ∀ x H3, J.yld i H'' x H3 → ∃ F3, Le F'' F3 ∧ RS W F3 P' S'' H3 ∧ Rp W F3 d x) → Rd src S' → R J H'
theorem PI.mono {tg it : Expr} {t t' : TI} (h : PI X tg it t) (m : ∀ σ H R, t' σ H R → t σ H R) : PI X tg it t' := ⟨fun pins s σ H R I q => h.run pins s σ H R I (m σ H R q)⟩

/-- a list or a tuple -/
def fSeq : D → Store → (Src → Store → Prop) → Prop := fun d S R => match d with
  | .scr ns => R ⟨fun _ => True, ns.map D.int⟩ S
  | .tup xs => R ⟨fun _ => True, xs⟩ S
  | .lst xs => R ⟨fun _ => True, xs⟩ S
  | .ref a => match S a with
    | some (.lst xs) => R ⟨fun S' => S' a = some (.lst xs), xs⟩ S
    | _ => False
  | _ => False
def dSeq1 (d : DE) : DI := fun sd S R => d sd S fun x S1 => fSeq x S1 R
/-- over a list or a tuple, at once -/
def Itlt (K : PySem.W.Frag) (a : Addr) (tup : Bool) : It := if tup = true then Itt K a else Itl K a
theorem sqt_inj {K : PySem.W.Frag} {a : Addr} {xs ys : List V} (h : Rd H a (.lst xs)) (h' : Rd H a (.lst ys)) : xs = ys := by
  rcases h with h | ⟨_, h⟩ <;> rcases h' with h' | ⟨_, h'⟩ <;> rw [h] at h' <;> cases h' <;> rfl
/-- the items that a list gives (told by one of its readings: all are the same) -/
def Itl2 (K : PySem.W.Frag) (a : Addr) : It := Itl K a
theorem pi_listX {tg l : Expr} {tl : TE} (hl : PE X l tl) : PI X tg l (fun σ H R => tl σ H fun x H1 => ∃ a, x = .ref a ∧ ((∃ xs, SqL X.K H1 a xs) ∧ R (Itl X.K a) H1 ∨ (∃ xs, SqT X.K H1 a xs) ∧ R (Itt X.K a) H1)) := by
  refine ⟨fun pins s σ H R I h => ?_⟩
  refine thn (hl.run pins s σ H _ I h) fun v s1 ⟨x, H1, I1, r1, q1⟩ => ?_
  obtain ⟨a, e, q⟩ := q1
  subst e
  cases r1
  rcases q with ⟨⟨xs, hq⟩, q⟩ | ⟨⟨xs, hq⟩, q⟩
  · obtain ⟨its, rv, p, hz⟩ := I1.list hq
    refine wpAny_pyIter_list p.isList ?_
    refine ⟨s1.heap.objs.size, [s1.heap.objs.size], _, _, H1, rfl, I1.kept (t' := s1.toks) fun b o e => Heap.get?_push_of_some _ e, turn_list a _, ⟨_, Heap.get?_push_size _ rfl, rfl, rfl⟩, fun b hb => ?_, q⟩
    have e : b = s1.heap.objs.size := by simpa using hb
    subst e
    exact I1.fpOk (Nat.le_refl _) (I1.hok.fresh (Nat.le_refl _))
  · obtain ⟨its, rv, p, hz⟩ := I1.tuple hq
    refine wpAny_pyIter_tuple (show s1.heap.IsTuple a its.toArray from p) ?_
    refine ⟨s1.heap.objs.size, [s1.heap.objs.size], _, _, H1, rfl, I1.kept (t' := s1.toks) fun b o e => Heap.get?_push_of_some _ e, turn_tuple a _, ⟨_, Heap.get?_push_size _ rfl, rfl, rfl⟩, fun b hb => ?_, q⟩
    have e : b = s1.heap.objs.size := by simpa using hb
    subst e
    exact I1.fpOk (Nat.le_refl _) (I1.hok.fresh (Nat.le_refl _))
/-- a walk that leaves the heap as it is and gives at turn i what stands there -/
theorem SrcOk.list {K : PySem.W.Frag} {a : Addr} {xs : List D} {chk : Store → Prop} (hz : xs.length ≤ sizeLine)
    (h : ∀ F' P' S' H', Le F F' → RS W F' P' S' H' → chk S' → ∃ vs, SqL K H' a vs ∧ Rps W F' xs vs) : SrcOk W F P (Itl K a) ⟨chk, xs⟩ ∧
    ∀ F'' P' S'' H'' i d, Le F F'' → RS W F'' P' S'' H'' → chk S'' → xs[i]? = some d → ∀ x H3, (Itl K a).yld i H'' x H3 → ∃ F3, Le F'' F3 ∧ RS W F3 P' S'' H3 ∧ Rp W F3 d x := by
  have key : ∀ F'' P' S'' H'' i d, Le F F'' → RS W F'' P' S'' H'' → chk S'' → xs[i]? = some d → ∀ x H3, (Itl K a).yld i H'' x H3 → ∃ F3, Le F'' F3 ∧ RS W F3 P' S'' H3 ∧ Rp W F3 d x := by
    rintro F'' P' S'' H'' i d l rs c e x H3 ⟨rfl, y⟩
    obtain ⟨vs, hq, rr⟩ := h F'' P' S'' H3 l rs c
    obtain ⟨v, hv, rv⟩ := rr.get e
    have := y vs hq
    rw [hv] at this; cases this
    exact ⟨F'', Le.refl _, rs, rv⟩
  refine ⟨⟨hz, fun F' P' S' H' i d l rs c e => ?_, fun F' P' S' H' l rs c => ?_⟩, key⟩
  · obtain ⟨vs, hq, rr⟩ := h F' P' S' H' l rs c
    obtain ⟨v, hv, rv⟩ := rr.get e
    refine ⟨⟨vs, v, hq, hv⟩, fun x H'' y => ?_⟩
    obtain ⟨F3, l3, rs3, r3⟩ := key F' P' S' H' i d l rs c e x H'' y
    exact ⟨F3, l3, rs3, .inl r3⟩
  · obtain ⟨vs, hq, rr⟩ := h F' P' S' H' l rs c
    exact ⟨vs, hq, by rw [← rr.length]; exact Nat.le_refl _⟩
theorem SrcOk.tupl {K : PySem.W.Frag} {a : Addr} {xs : List D} {chk : Store → Prop} (hz : xs.length ≤ sizeLine)
    (h : ∀ F' P' S' H', Le F F' → RS W F' P' S' H' → chk S' → ∃ vs, SqT K H' a vs ∧ Rps W F' xs vs) : SrcOk W F P (Itt K a) ⟨chk, xs⟩ ∧
    ∀ F'' P' S'' H'' i d, Le F F'' → RS W F'' P' S'' H'' → chk S'' → xs[i]? = some d → ∀ x H3, (Itt K a).yld i H'' x H3 → ∃ F3, Le F'' F3 ∧ RS W F3 P' S'' H3 ∧ Rp W F3 d x := by
  have key : ∀ F'' P' S'' H'' i d, Le F F'' → RS W F'' P' S'' H'' → chk S'' → xs[i]? = some d → ∀ x H3, (Itt K a).yld i H'' x H3 → ∃ F3, Le F'' F3 ∧ RS W F3 P' S'' H3 ∧ Rp W F3 d x := by
    rintro F'' P' S'' H'' i d l rs c e x H3 ⟨rfl, y⟩
    obtain ⟨vs, hq, rr⟩ := h F'' P' S'' H3 l rs c
    obtain ⟨v, hv, rv⟩ := rr.get e
    have := y vs hq
    rw [hv] at this; cases this
    exact ⟨F'', Le.refl _, rs, rv⟩
  refine ⟨⟨hz, fun F' P' S' H' i d l rs c e => ?_, fun F' P' S' H' l rs c => ?_⟩, key⟩
  · obtain ⟨vs, hq, rr⟩ := h F' P' S' H' l rs c
    obtain ⟨v, hv, rv⟩ := rr.get e
    refine ⟨⟨vs, v, hq, hv⟩, fun x H'' y => ?_⟩
    obtain ⟨F3, l3, rs3, r3⟩ := key F' P' S' H' i d l rs c e x H'' y
    exact ⟨F3, l3, rs3, .inl r3⟩
  · obtain ⟨vs, hq, rr⟩ := h F' P' S' H' l rs c
    exact ⟨vs, hq, by rw [← rr.length]; exact Nat.le_refl _⟩
theorem li_seq {tg e : Expr} {d : DE} (hK : X.K = W.K) (h : PE X e (LE W d)) : PI X tg e (LI W false (dSeq1 d)) := by
  refine PI.mono (pi_listX h) fun σ H R ⟨F, P, sd, S, Rd, rs, rl, q, k⟩ => ?_
  refine ⟨F, P, sd, S, _, rs, rl, q, fun F1 S1 H1 dx x l1 rs1 rx q1 => ?_⟩
  unfold fSeq at q1
  split at q1
  · rename_i ns
    cases rx with
    | @scr _ a h1 =>
      have hz : (ns.map D.int).length ≤ sizeLine := by
        have z : (ns.map V.int).length ≤ sizeLine := sql_sz rs1 (rs1.sub.sql h1)
        rw [List.length_map] at z ⊢; exact z
      obtain ⟨ok, key⟩ := SrcOk.list (W := W) (F := F1) (P := P) (K := X.K) (a := a) (chk := fun _ => True) hz (fun F' P' S' H' l rs' _ => ⟨ns.map V.int, by rw [hK]; exact rs'.sub.sql (l.sql h1), rps_ints ns⟩)
      exact ⟨_, rfl, .inl ⟨⟨_, by rw [hK]; exact rs1.sub.sql h1⟩, k F1 S1 H1 _ _ l1 rs1 ok (fun _ => key) q1⟩⟩
  · cases rx with
    | tup h1 r1 =>
      have hz : _ ≤ sizeLine := Nat.le_trans (Nat.le_of_eq r1.length) (tup_sz (xs := []) rs1 h1)
      obtain ⟨ok, key⟩ := SrcOk.tupl (P := P) (K := X.K) (chk := fun _ => True) hz (fun F' P' S' H' l rs' _ => ⟨_, by rw [hK]; exact (rs'.sub.tupP (l.tupP h1)).sqt, r1.mono l⟩)
      exact ⟨_, rfl, .inr ⟨⟨_, by rw [hK]; exact (rs1.sub.tupP h1).sqt⟩, k F1 S1 H1 _ _ l1 rs1 ok (fun _ => key) q1⟩⟩
  · cases rx with
    | lst h1 r1 =>
      have hz : _ ≤ sizeLine := Nat.le_trans (Nat.le_of_eq r1.length) (szRd rs1.sz (rs1.sub.rd h1))
      obtain ⟨ok, key⟩ := SrcOk.list (P := P) (K := X.K) (chk := fun _ => True) hz (fun F' P' S' H' l rs' _ => ⟨_, .inl (rs'.sub.rd (l.rd h1)), r1.mono l⟩)
      exact ⟨_, rfl, .inl ⟨⟨_, .inl (rs1.sub.rd h1)⟩, k F1 S1 H1 _ _ l1 rs1 ok (fun _ => key) q1⟩⟩
  · cases rx
    rename_i a
    split at q1
    · rename_i xs e
      obtain ⟨_, u, hu, ru⟩ := rs1.obj _ _ e
      cases ru with
      | lst r1 =>
        have hz : _ ≤ sizeLine := Nat.le_trans (Nat.le_of_eq r1.length) (rs1.sz _ _ hu)
        obtain ⟨ok, key⟩ := SrcOk.list (F := F1) (P := P) (K := X.K) (a := a) (chk := fun S' => S' a = some (.lst xs)) hz (fun F' P' S' H' l rs' c => by
          obtain ⟨_, u', hu', ru'⟩ := rs'.obj _ _ c
          cases ru' with
          | lst r' => exact ⟨_, .of hu', r'⟩)
        exact ⟨_, rfl, .inl ⟨⟨_, .of hu⟩, k F1 S1 H1 _ _ l1 rs1 ok (fun _ => key) q1⟩⟩
    · exact q1.elim
  · exact q1.elim
/-- a range -/
def rangeD (lo hi : Int) : List D := (List.range (hi - lo).toNat).map fun i : Nat => D.int (lo + (i : Int))
def fRange1 : D → Store → (Src → Store → Prop) → Prop := fun x S R => match x with
  | .int j => j ≤ sizeLine ∧ -(2 ^ 62) ≤ j ∧ R ⟨fun _ => True, rangeD 0 j⟩ S
  | _ => False
def fRange2 : D → D → Store → (Src → Store → Prop) → Prop := fun x y S R => match x, y with
  | .int i, .int j => j - i ≤ sizeLine ∧ (-(2 ^ 62) ≤ i ∧ i < 2 ^ 62 ∧ -(2 ^ 62) ≤ j ∧ j < 2 ^ 62) ∧ R ⟨fun _ => True, rangeD i j⟩ S
  | _, _ => False
def dRange1 (d : DE) : DI := fun sd S R => d sd S fun x S1 => fRange1 x S1 R
def dRange2 (d e : DE) : DI := fun sd S R => d sd S fun x S1 => e sd S1 fun y S2 => fRange2 x y S2 R
theorem rangeD_get {lo hi : Int} {i : Nat} {d : D} (h : (rangeD lo hi)[i]? = some d) : d = .int (lo + i) ∧ i < (hi - lo).toNat := by
  unfold rangeD at h
  rw [List.getElem?_map] at h
  obtain ⟨j, e, rfl⟩ := Option.map_eq_some_iff.mp h
  obtain ⟨hj, e⟩ := List.getElem?_eq_some_iff.mp e
  rw [List.length_range] at hj
  rw [List.getElem_range] at e
  subst e
  exact ⟨rfl, hj⟩
theorem rangeD_len {lo hi : Int} : (rangeD lo hi).length = (hi - lo).toNat := by unfold rangeD; rw [List.length_map, List.length_range]
theorem SrcOk.range {lo hi : Int} (hz : hi - lo ≤ sizeLine) : SrcOk W F P (Itr lo (hi - lo).toNat) ⟨fun _ => True, rangeD lo hi⟩ ∧
    ∀ F'' P' S'' H'' i d, Le F F'' → RS W F'' P' S'' H'' → True → (rangeD lo hi)[i]? = some d → ∀ x H3, (Itr lo (hi - lo).toNat).yld i H'' x H3 → ∃ F3, Le F'' F3 ∧ RS W F3 P' S'' H3 ∧ Rp W F3 d x := by
  have key : ∀ F'' P' S'' H'' i d, Le F F'' → RS W F'' P' S'' H'' → True → (rangeD lo hi)[i]? = some d → ∀ x H3, (Itr lo (hi - lo).toNat).yld i H'' x H3 → ∃ F3, Le F'' F3 ∧ RS W F3 P' S'' H3 ∧ Rp W F3 d x := by
    rintro F'' P' S'' H'' i d l rs c e x H3 ⟨rfl, rfl⟩
    obtain ⟨rfl, _⟩ := rangeD_get e
    exact ⟨F'', Le.refl _, rs, .int _⟩
  refine ⟨⟨by show (rangeD lo hi).length ≤ _; rw [rangeD_len]; omega, fun F' P' S' H' i d l rs c e => ?_, fun F' P' S' H' l rs c => ?_⟩, key⟩
  · refine ⟨(rangeD_get e).2, fun x H'' y => ?_⟩
    obtain ⟨F3, l3, rs3, r3⟩ := key F' P' S' H' i d l rs c e x H'' y
    exact ⟨F3, l3, rs3, .inl r3⟩
  · show (hi - lo).toNat ≤ (rangeD lo hi).length
    rw [rangeD_len]; exact Nat.le_refl _
theorem sizeLine62 : (sizeLine : Int) < 2 ^ 62 := by rw [sizeLine_eq]; decide
theorem li_range1 {tg a : Expr} {d : DE} {p pos : Pos} (hg : Gl X "range") (hm : X.mg "range" = none) (ha : PE X a (LE W d)) (hs : starEach [a] X.env = [(false, eval a X.env)]) : PI X tg (.Call (.Name "range" p) [a] [] pos) (LI W false (dRange1 d)) := by
  refine PI.mono (pi_range1 hg hm (pa_cons ha pa_nil hs) hs) fun σ H R ⟨F, P, sd, S, Rd, rs, rl, q, k⟩ => ?_
  refine ⟨F, P, sd, S, _, rs, rl, q, fun F1 S1 H1 dx x l1 rs1 rx q1 => ?_⟩
  unfold fRange1 at q1
  split at q1
  · cases rx
    rename_i j
    obtain ⟨h1, h2, q1⟩ := q1
    have h62 := sizeLine62
    have e : j = j - 0 := by omega
    obtain ⟨ok, key⟩ := SrcOk.range (W := W) (F := F1) (P := P) (lo := 0) (hi := j) (by omega)
    refine ⟨j, rfl, h2, by omega, ?_⟩
    have z := k F1 S1 H1 (Itr 0 (j - 0).toNat) _ l1 rs1 ok (fun _ => key) q1
    rw [← e] at z
    exact z
  · exact q1.elim
theorem li_range2 {tg a b : Expr} {d e : DE} {p pos : Pos} (hg : Gl X "range") (hm : X.mg "range" = none) (ha : PE X a (LE W d)) (hb : PE X b (LE W e)) (hs : starEach [a, b] X.env = [(false, eval a X.env), (false, eval b X.env)]) (hs2 : starEach [b] X.env = [(false, eval b X.env)]) :
    PI X tg (.Call (.Name "range" p) [a, b] [] pos) (LI W false (dRange2 d e)) := by
  refine PI.mono (pi_range2 hg hm (pa_cons ha (pa_cons hb pa_nil hs2) (by rw [hs, hs2])) hs hs2) fun σ H R ⟨F, P, sd, S, Rd, rs, rl, q, k⟩ => ?_
  refine ⟨F, P, sd, S, _, rs, rl, q, fun F1 S1 H1 dx x l1 rs1 rx q1 => ⟨F1, P, sd, S1, _, rs1, rl.mono l1, q1, fun F2 S2 H2 dy y l2 rs2 ry q2 => ?_⟩⟩
  unfold fRange2 at q2
  split at q2
  · cases rx; cases ry
    obtain ⟨h1, h2, q2⟩ := q2
    obtain ⟨ok, key⟩ := SrcOk.range (W := W) (F := F2) (P := P) h1
    exact ⟨_, _, rfl, h2, k F2 S2 H2 _ _ (l1.trans l2) rs2 ok (fun _ => key) q2⟩
  · exact q2.elim

/-! ### statements -/
structure DEnds where
  nx : Slots → Store → Prop
  rt : DQ
  bk : Slots → Store → Prop := fun _ _ => False
  ct : Slots → Store → Prop := fun _ _ => False
abbrev DSt := DEnds → Slots → Store → Prop
structure KS (W : Wd) (F P : Hp) (Dd : DEnds) (D : Ends) : Prop where
  nx : ∀ F' sd S σ H, Le F F' → RS W F' P S H → RSl W F' sd σ → Dd.nx sd S → D.nx σ H
  rt : Kont W F P Dd.rt D.rt
  bk : ∀ F' sd S σ H, Le F F' → RS W F' P S H → RSl W F' sd σ → Dd.bk sd S → D.bk σ H
  ct : ∀ F' sd S σ H, Le F F' → RS W F' P S H → RSl W F' sd σ → Dd.ct sd S → D.ct σ H
theorem KS.le {Dd : DEnds} {D : Ends} (k : KS W F P Dd D) (e : Le F F') : KS W F' P Dd D :=
  ⟨fun F1 sd S σ H l => k.nx F1 sd S σ H (e.trans l), k.rt.le e, fun F1 sd S σ H l => k.bk F1 sd S σ H (e.trans l), fun F1 sd S σ H l => k.ct F1 sd S σ H (e.trans l)⟩
def LS (W : Wd) (d : DSt) : TS := fun D σ H => ∃ F P sd S Dd, RS W F P S H ∧ RSl W F sd σ ∧ d Dd sd S ∧ KS W F P Dd D
def sNext : DSt := fun D sd S => D.nx sd S
def sSeq (a b : DSt) : DSt := fun D sd S => a { D with nx := fun sd' S' => b D sd' S' } sd S
theorem ls_nil : PSs X [] (LS W sNext) := pss_nil.mono fun D σ H ⟨F, P, sd, S, Dd, rs, rl, h, k⟩ => k.nx F sd S σ H (Le.refl F) rs rl h
theorem ls_cons {st : Stmt} {rest : List Stmt} {a b : DSt} (h1 : PS X st (LS W a)) (h2 : PSs X rest (LS W b)) : PSs X (st :: rest) (LS W (sSeq a b)) :=
  (pss_cons h1 h2).mono fun D σ H ⟨F, P, sd, S, Dd, rs, rl, h, k⟩ => ⟨F, P, sd, S, _, rs, rl, h, ⟨fun F' sd' S' σ' H' l rs' rl' q => ⟨F', P, sd', S', Dd, rs', rl', q, k.le l⟩, k.rt, k.bk, k.ct⟩⟩
theorem ls_one {st : Stmt} {a : DSt} (h1 : PS X st (LS W a)) : PSs X [st] (LS W a) := pss_one h1
def sDrop (d : DE) : DSt := fun D sd S => d sd S fun _ S1 => D.nx sd S1
theorem ls_expr {e : Expr} {d : DE} {pos : Pos} (h : PE X e (LE W d)) (hs : swapsWith e none pos.line X.env = pure false) : PS X (.Expr e pos) (LS W (sDrop d)) :=
  (ps_expr h hs).mono fun D σ H ⟨F, P, sd, S, Dd, rs, rl, h, k⟩ => ⟨F, P, sd, S, _, rs, rl, h, fun F1 S1 H1 dv v l1 rs1 rv q => k.nx F1 sd S1 σ H1 l1 rs1 (rl.mono l1) q⟩
def sRet (d : DE) : DSt := fun D sd S => d sd S D.rt
theorem ls_ret {e : Expr} {d : DE} {pos : Pos} (h : PE X e (LE W d)) : PS X (.Return (some e) pos) (LS W (sRet d)) :=
  (ps_ret h).mono fun D σ H ⟨F, P, sd, S, Dd, rs, rl, h, k⟩ => ⟨F, P, sd, S, _, rs, rl, h, k.rt⟩
def sRetN : DSt := fun D _ S => D.rt .non S
theorem ls_retN {pos : Pos} : PS X (.Return none pos) (LS W sRetN) :=
  ps_retN.mono fun D σ H ⟨F, P, sd, S, Dd, rs, rl, h, k⟩ => k.rt F S H _ _ (Le.refl F) rs .non h
def sIf (t : DT) (a b : DSt) : DSt := fun D sd S => t sd S fun k S1 => if k = true then a D sd S1 else b D sd S1
theorem ls_if {c : Expr} {a b : List Stmt} {t : DT} {da db : DSt} {pos : Pos} (hc : PT X c (LT W t)) (ha : PSs X a (LS W da)) (hb : PSs X b (LS W db)) : PS X (.If c a b pos) (LS W (sIf t da db)) :=
  (ps_if hc ha hb).mono fun D σ H ⟨F, P, sd, S, Dd, rs, rl, h, k⟩ => ⟨F, P, sd, S, _, rs, rl, h, fun F1 S1 H1 b l1 rs1 q => by
    cases b with
    | true =>
      simp only [if_true] at q ⊢
      exact ⟨F1, P, sd, S1, Dd, rs1, rl.mono l1, q, k.le l1⟩
    | false =>
      simp only [Bool.false_eq_true, if_false] at q ⊢
      exact ⟨F1, P, sd, S1, Dd, rs1, rl.mono l1, q, k.le l1⟩⟩
def sBreak : DSt := fun D sd S => D.bk sd S
def sCont : DSt := fun D sd S => D.ct sd S
theorem ls_pass {pos : Pos} : PS X (.Pass pos) (LS W sNext) := ps_pass.mono fun D σ H ⟨F, P, sd, S, Dd, rs, rl, h, k⟩ => k.nx F sd S σ H (Le.refl F) rs rl h
theorem ls_break {pos : Pos} : PS X (.Break pos) (LS W sBreak) := ps_break.mono fun D σ H ⟨F, P, sd, S, Dd, rs, rl, h, k⟩ => k.bk F sd S σ H (Le.refl F) rs rl h
theorem ls_cont {pos : Pos} : PS X (.Continue pos) (LS W sCont) := ps_continue.mono fun D σ H ⟨F, P, sd, S, Dd, rs, rl, h, k⟩ => k.ct F sd S σ H (Le.refl F) rs rl h
/-- x = e -/
def sSet (i : Nat) (d : DE) : DSt := fun D sd S => d sd S fun x S1 => D.nx (sd.set i (some x)) S1
theorem ls_setT {i : Nat} {d : DE} : ∀ D σ H, LS W (sSet i d) D σ H → tAsg (LE W d) (gName i) D σ H := fun D σ H ⟨F, P, sd, S, Dd, rs, rl, h, k⟩ =>
  ⟨F, P, sd, S, _, rs, rl, h, fun F1 S1 H1 dv v l1 rs1 rv q => k.nx F1 _ S1 _ H1 l1 rs1 ((rl.mono l1).set rv i) q⟩
theorem ls_set {i : Nat} {x : Str} {e : Expr} {d : DE} {pos pos' : Pos} (hN : X.N.Nodup) (hi : X.N[i]? = some x) (hx : Loc X.env.scope x) (h : PE X e (LE W d)) (hs : swapsWith e (some (.Name x pos')) pos.line X.env = pure false) (hf : X.fn x = true ∨ X.env.scope.names.lookup x = some .local) :
    PS X (.Assign [.Name x pos'] e pos) (LS W (sSet i d)) := (ps_set hN hi hx h hs hf).mono ls_setT
/-- (a, b) = e -/
def sSetG (g : CG) (d : DE) : DSt := fun D sd S => d sd S fun x S1 => match gset g x sd with | some sd' => D.nx sd' S1 | none => False
theorem ls_setG {tg e : Expr} {g : CG} {d : DE} {pos : Pos} (h : PE X e (LE W d)) (hg : PG X tg (LG W g)) (hs : swapsWithSole [tg] e pos.line X.env = pure false) (hw : swappedStores [tg] e X.env = pure none)
    (h1 : (assignEach [tg] X.env).map (·.2) = [assign tg X.env]) : PS X (.Assign [tg] e pos) (LS W (sSetG g d)) :=
  (ps_asg h hg hs hw h1).mono fun D σ H ⟨F, P, sd, S, Dd, rs, rl, h, k⟩ => ⟨F, P, sd, S, _, rs, rl, h, fun F1 S1 H1 dv v l1 rs1 rv q => by
    split at q
    · rename_i sd' e
      exact ⟨F1, sd, dv, sd', rs1.sub, rl.mono l1, .inl rv, e, fun σ' rl' _ => k.nx F1 sd' S1 σ' H1 l1 rs1 rl' q⟩
    · exact q.elim⟩
/-- a, b = x, y: two plain local names -/
def sPar (i j : Nat) (d e : DE) : DSt := fun D sd S => d sd S fun x S1 => e sd S1 fun y S2 => D.nx ((sd.set i (some x)).set j (some y)) S2
theorem ls_par {i j : Nat} {x y : Str} {a b : Expr} {da db : DE} {px py pt pos : Pos} {kt k2 pt2} (hc : X.calm = true) (hN : X.N.Nodup) (hi : X.N[i]? = some x) (hj : X.N[j]? = some y) (hij : i ≠ j)
    (hx : X.env.scope.names.lookup x = some .local) (hy : X.env.scope.names.lookup y = some .local) (ha : PE X a (LE W da)) (hb : PE X b (LE W db)) (hs1 : starEach [a, b] X.env = (false, eval a X.env) :: starEach [b] X.env) (hs2 : starEach [b] X.env = (false, eval b X.env) :: starEach [] X.env)
    (hw : swappedStores [.Tuple [.Name x px, .Name y py] kt pt] (.Tuple [a, b] k2 pt2) X.env = pure (some [x, y]))
    (hs : swapsWithSole [.Tuple [.Name x px, .Name y py] kt pt] (.Tuple [a, b] k2 pt2) pos.line X.env = pure false) :
    PS X (.Assign [.Tuple [.Name x px, .Name y py] kt pt] (.Tuple [a, b] k2 pt2) pos) (LS W (sPar i j da db)) :=
  (ps_par hc hN hi hj hij hx hy (pa_cons ha (pa_cons hb pa_nil hs2) hs1) hw hs).mono fun D σ H ⟨F, P, sd, S, Dd, rs, rl, h, k⟩ => by
    refine ⟨F, P, sd, S, _, rs, rl, h, fun F1 S1 H1 dx x l1 rs1 rx q1 => ⟨F1, P, sd, S1, _, rs1, rl.mono l1, q1, fun F2 S2 H2 dy y l2 rs2 ry q2 => ⟨x, y, rfl, ?_⟩⟩⟩
    exact k.nx F2 _ S2 _ H2 (l1.trans l2) rs2 ((((rl.mono l1).mono l2).set (rx.mono l2) i).set ry j) q2
/-- x op= e -/
def sAug (i : Nat) (f : F2) (d : DE) : DSt := fun D sd S => match sd[i]? with
  | some (some x) => d sd S fun y S1 => f x y S1 fun z S2 => D.nx (sd.set i (some z)) S2
  | _ => False
theorem ls_aug {i : Nat} {x : Str} {e : Expr} {d : DE} {op : Operator} {r : R2} {f : F2} {pos pos' : Pos} (hN : X.N.Nodup) (hi : X.N[i]? = some x) (hx : Loc X.env.scope x) (h : PE X e (LE W d)) (ho : OpR X (inplaceOp op) r) (hr : R2Ok W r f) (hf : X.fn x = true ∨ X.env.scope.names.lookup x = some .local) :
    PS X (.AugAssign (.Name x pos') op e pos) (LS W (sAug i f d)) := by
  refine (ps_aug (ti := r) hN hi hx h (fun pins s σ H x y v u Q I rx ry q => ho pins s σ H x y v u Q I rx ry q) hf).mono fun D σ H ⟨F, P, sd, S, Dd, rs, rl, h, k⟩ => ?_
  unfold sAug at h
  split at h
  · rename_i dx e
    obtain ⟨v, hv, rv⟩ := rl.at_ i dx e
    refine ⟨v, hv, F, P, sd, S, _, rs, rl, h, fun F1 S1 H1 dy y l1 rs1 ry q1 => ?_⟩
    exact hr F1 P S1 H1 dx dy v y _ _ rs1 (rv.mono l1) ry q1 fun F2 S2 H2 dz z l2 rs2 rz q2 => k.nx F2 _ S2 _ H2 (l1.trans l2) rs2 (((rl.mono l1).mono l2).set rz i) q2
  · exact h.elim
/-- o[i] = e: a list, a dict -/
def fSetIx : D → D → D → Store → (Store → Prop) → Prop := fun o i v S Q => match o with
  | .ref a => match S a with
    | some (.lst xs) => match i with
      | .int k => match ixN xs.length k with
        | some j => Q (sup S a (.lst (xs.set j v)))
        | none => False
      | _ => False
    | some (.dct kvs) => match keyD i with
      | some k => kvs.length < sizeLine ∧ Q (sup S a (.dct (dput kvs k v)))
      | none => False
    | _ => False
  | _ => False
def sSetIx (o i d : DE) : DSt := fun D sd S => d sd S fun v S1 => o sd S1 fun x S2 => i sd S2 fun y S3 => fSetIx x y v S3 fun S4 => D.nx sd S4
def rSetA : TSet := fun o i v H Q => rSetL o i v H Q ∨ ∃ a H4, o = .ref a ∧ DPut H a i v H4 ∧ Q H4
theorem set_all (hu : X.A.units + 1 < cLine) : PSet X rSetA := by
  intro pins s σ H o i v ov iv u Q I ro ri rv h
  rcases h with h | ⟨a, H4, rfl, g, q⟩
  · exact set_list pins s σ H o i v ov iv u Q I ro ri rv h
  · cases ro
    exact d_setItem hu I g ri rv fun s' I' => ⟨H4, I', q⟩
theorem ls_setIx {o i e : Expr} {do_ di d : DE} {pos pos' : Pos} (hu : X.A.units + 1 < cLine) (ho : PE X o (LE W do_)) (hi : PE X i (LE W di)) (h : PE X e (LE W d))
    (ha : ∀ v, assign (.Subscript o i pos') X.env v = (do
      let ov ← holding [v] (eval o X.env)
      let iv ← holding [v, ov] (eval i X.env)
      standAt pos'
      holding [v, ov, iv] (setItem ov iv v)
      release [v, ov, iv] []))
    (hs : swapsWithSole [.Subscript o i pos'] e pos.line X.env = pure false) (hw : swappedStores [.Subscript o i pos'] e X.env = pure none)
    (h1 : (assignEach [.Subscript o i pos'] X.env).map (·.2) = [assign (.Subscript o i pos') X.env]) : PS X (.Assign [.Subscript o i pos'] e pos) (LS W (sSetIx do_ di d)) := by
  refine (ps_asg h (pg_sub ho hi (set_all hu) ha) hs hw h1).mono fun D σ H ⟨F, P, sd, S, Dd, rs, rl, h, k⟩ => ?_
  refine ⟨F, P, sd, S, _, rs, rl, h, fun F1 S1 H1 dv v l1 rs1 rv q1 => ⟨F1, P, sd, S1, _, rs1, rl.mono l1, q1, fun F2 S2 H2 dx x l2 rs2 rx q2 => ⟨F2, P, sd, S2, _, rs2, (rl.mono l1).mono l2, q2, fun F3 S3 H3 dy y l3 rs3 ry q3 => ?_⟩⟩⟩
  have rv3 := (rv.mono l2).mono l3
  have fin := fun S4 H4 rs4 q => k.nx F3 sd S4 σ H4 ((l1.trans l2).trans l3) rs4 (((rl.mono l1).mono l2).mono l3) q
  unfold fSetIx at q3
  split at q3
  · cases rx
    rename_i a
    split at q3
    · rename_i xs es
      split at q3
      · cases ry
        split at q3
        · rename_i j ej
          obtain ⟨_, u, hu', ru⟩ := rs3.obj _ _ es
          cases ru with
          | lst r =>
            refine .inl ⟨a, _, _, j, rfl, rfl, hu', by rw [← r.length]; exact ej, fin _ _ (rs3.wrote es ?_ (.lst (r.set rv3 j))) q3⟩
            show (_ : List V).length ≤ _
            rw [List.length_set]
            exact rs3.sz _ _ hu'
        · exact q3.elim
      · exact q3.elim
    · rename_i kvs es
      split at q3
      · rename_i kk ek
        obtain ⟨_, u, hu', ru⟩ := rs3.obj _ _ es
        cases ru with
        | dct r =>
          rename_i ws
          have hl : ws.length < sizeLine := by have := q3.1; rw [r.length] at this; exact this
          cases keyD_ok ry ek
          refine .inr ⟨a, _, rfl, DPut.k hu' hl, fin _ _ (rs3.wrote es ?_ (.dct (r.put rv3))) q3.2⟩
          show (_ : List (Key × V)).length ≤ _
          exact Nat.le_trans (length_putK _ _ _) hl
      · exact q3.elim
    · exact q3.elim
  · exact q3.elim
/-- while: some number of turns -/
def whileN (c : DT) (b : DSt) (D : DEnds) : Nat → Slots → Store → Prop
  | 0, _, _ => False
  | n + 1, sd, S => c sd S fun k S1 => if k = true then b { D with nx := fun sd' S' => whileN c b D n sd' S', ct := fun sd' S' => whileN c b D n sd' S', bk := D.nx } sd S1 else D.nx sd S1
def sWhile (c : DT) (b : DSt) : DSt := fun D sd S => ∃ n, whileN c b D n sd S
theorem ls_while {c : Expr} {body : List Stmt} {t : DT} {b : DSt} {pos : Pos} (hp : PassesOwn (model X.prog X.w) X.A X.env X.xe) (hc : PT X c (LT W t)) (hb : PSs X body (LS W b)) : PS X (.While c body [] pos) (LS W (sWhile t b)) := by
  refine (ps_while hp hc hb).mono fun D σ H ⟨F, P, sd, S, Dd, rs, rl, ⟨n, h⟩, k⟩ => ?_
  refine ⟨fun m σ H => ∃ F' sd' S', Le F F' ∧ RS W F' P S' H ∧ RSl W F' sd' σ ∧ whileN t b Dd m sd' S', ⟨n, F, sd, S, Le.refl F, rs, rl, h⟩, ?_⟩
  rintro m σ H ⟨F1, sd1, S1, l1, rs1, rl1, h1⟩
  cases m with
  | zero => exact h1.elim
  | succ m =>
    refine ⟨F1, P, sd1, S1, _, rs1, rl1, h1, fun F2 S2 H2 kk l2 rs2 q => ?_⟩
    cases kk with
    | false =>
      simp only [Bool.false_eq_true, if_false] at q ⊢
      exact k.nx F2 sd1 S2 σ H2 (l1.trans l2) rs2 (rl1.mono l2) q
    | true =>
      simp only [if_true] at q ⊢
      refine ⟨fun σ' H' => ∃ F' sd' S', Le F F' ∧ RS W F' P S' H' ∧ RSl W F' sd' σ' ∧ whileN t b Dd m sd' S', fun σ' H' w => ⟨m, Nat.lt_succ_self m, w⟩, ?_⟩
      have nxt : ∀ F' sd' S' σ' H', Le F2 F' → RS W F' P S' H' → RSl W F' sd' σ' → whileN t b Dd m sd' S' → ∃ F' sd' S', Le F F' ∧ RS W F' P S' H' ∧ RSl W F' sd' σ' ∧ whileN t b Dd m sd' S' :=
        fun F' sd' S' σ' H' l rs' rl' w => ⟨F', sd', S', (l1.trans l2).trans l, rs', rl', w⟩
      exact ⟨F2, P, sd1, S2, _, rs2, rl1.mono l2, q, ⟨nxt, (k.rt.le l1).le l2, fun F' sd' S' σ' H' l => k.nx F' sd' S' σ' H' ((l1.trans l2).trans l), nxt⟩⟩
/-- for -/
def forL (chk : Store → Prop) (g : CG) (b : DSt) (E : DEnds) : List D → Slots → Store → Prop
  | [], sd, S => chk S ∧ E.nx sd S
  | x :: xs, sd, S => chk S ∧ match gset g x sd with
    | some sd' => b { E with nx := fun sd2 S2 => forL chk g b E xs sd2 S2, ct := fun sd2 S2 => forL chk g b E xs sd2 S2, bk := E.nx } sd' S
    | none => False
def sFor (i : DI) (g : CG) (b : DSt) : DSt := fun D sd S => i sd S fun src S1 => forL src.chk g b D src.xs sd S1
theorem drop_cons {α : Type} {xs : List α} {i : Nat} (h : i < xs.length) : ∃ x, xs[i]? = some x ∧ xs.drop i = x :: xs.drop (i + 1) := ⟨xs[i], List.getElem?_eq_getElem h, List.drop_eq_getElem_cons h⟩
theorem ls_for {tg iter : Expr} {body : List Stmt} {g : CG} {di : DI} {b : DSt} {pos : Pos} {tk : Bool} (hp : PassesOwn (model X.prog X.w) X.A X.env X.xe) (hc : X.calm = true) (hi : PI X tg iter (LI W tk di)) (hg : PG X tg (LG W g)) (hb : PSs X body (LS W b)) (htk : tk = false ∨ isTupG g = true)
    (hs : ∀ x, foldedSetIterable iter X.env x = pure x) : PS X (.For tg iter body [] pos) (LS W (sFor di g b)) := by
  refine (ps_for hp hc hi hg hb hs).mono fun D σ H ⟨F, P, sd, S, Dd, rs, rl, h, k⟩ => ?_
  refine ⟨F, P, sd, S, _, rs, rl, h, fun F0 S0 H0 J src l0 rs0 ok key q0 => ?_⟩
  refine ⟨fun i m σ H => i ≤ src.xs.length ∧ m = src.xs.length - i ∧ ∃ F' sd' S', Le F0 F' ∧ RS W F' P S' H ∧ RSl W F' sd' σ ∧ forL src.chk g b Dd (src.xs.drop i) sd' S', ⟨src.xs.length, Nat.zero_le _, by simp, F0, sd, S0, Le.refl _, rs0, rl.mono l0, by simpa using q0⟩, ?_⟩
  rintro i m σ H ⟨hi, rfl, F1, sd1, S1, l1, rs1, rl1, h1⟩
  by_cases hlt : i < src.xs.length
  · obtain ⟨x, ex, ed⟩ := drop_cons hlt
    rw [ed] at h1
    obtain ⟨hchk, h1⟩ := h1
    obtain ⟨hgo, hy⟩ := ok.go F1 P S1 H i x l1 rs1 hchk ex
    refine .inr ⟨hgo, fun σ' H' => ∃ F' sd' S', Le F0 F' ∧ RS W F' P S' H' ∧ RSl W F' sd' σ' ∧ forL src.chk g b Dd (src.xs.drop (i + 1)) sd' S', fun σ' H' w => ⟨src.xs.length - (i + 1), by omega, hlt, rfl, w⟩, fun v H' y => ?_⟩
    split at h1
    · rename_i sd2 eg
      have fin : ∀ F2, Le F1 F2 → RS W F2 P S1 H' → (Rp W F2 x v ∨ (isTupG g = true ∧ RpI W F2 x v)) → LG W g v σ H' fun σ2 H2 => LS W b ⟨fun σ' H' => ∃ F' sd' S', Le F0 F' ∧ RS W F' P S' H' ∧ RSl W F' sd' σ' ∧ forL src.chk g b Dd (src.xs.drop (i + 1)) sd' S', D.rt, D.nx, fun σ' H' => ∃ F' sd' S', Le F0 F' ∧ RS W F' P S' H' ∧ RSl W F' sd' σ' ∧ forL src.chk g b Dd (src.xs.drop (i + 1)) sd' S'⟩ σ2 H2 := by
        intro F2 l2 rs2 r2
        refine ⟨F2, sd1, x, sd2, rs2.sub, rl1.mono l2, r2, eg, fun σ' rl' _ => ⟨F2, P, sd2, S1, _, rs2, rl', h1, ?_⟩⟩
        have l02 := l1.trans l2
        exact ⟨fun F' sd' S' σ' H' l rs' rl' w => ⟨F', sd', S', l02.trans l, rs', rl', w⟩, (k.rt.le l0).le l02, fun F' sd' S' σ' H' l => k.nx F' sd' S' σ' H' ((l0.trans l02).trans l), fun F' sd' S' σ' H' l rs' rl' w => ⟨F', sd', S', l02.trans l, rs', rl', w⟩⟩
      rcases htk with htk | htk
      · obtain ⟨F2, l2, rs2, r2⟩ := key htk F1 P S1 H i x l1 rs1 hchk ex v H' y
        exact fin F2 l2 rs2 (.inl r2)
      · obtain ⟨F2, l2, rs2, r2⟩ := hy v H' y
        exact fin F2 l2 rs2 (.inr ⟨htk, r2⟩)
    · exact h1.elim
  · have e : i = src.xs.length := by omega
    subst e
    rw [List.drop_length] at h1
    obtain ⟨hchk, h1⟩ := h1
    exact .inl ⟨ok.stop F1 P S1 H l1 rs1 hchk, k.nx F1 sd1 S1 σ H (l0.trans l1) rs1 rl1 h1⟩
/-- a name's mutable thing becomes a value (nothing of the text) -/
def frzD (S : Store) (a : Addr) : Option D := match S a with
  | some (.lst xs) => some (.lst xs)
  | some (.dct kvs) => some (.dct kvs)
  | _ => none
def sFrz (i : Nat) : DSt := fun D sd S => match sd[i]? with
  | some (some (.ref a)) => match frzD S a with
    | some d => D.nx (sd.set i (some d)) (sdel S a)
    | none => False
  | _ => False
theorem RS.frz (rs : RS W F P S H) {a : Addr} {d : D} (h : frzD S a = some d) : ∃ F', Le F F' ∧ RS W F' P (sdel S a) H ∧ Rp W F' d (.ref a) := by
  unfold frzD at h
  have go : ∀ (o : O) (u : HO), S a = some o → H a = some u → F a = Option.none → RpO W F o u → RS W (upd F a u) P (sdel S a) H := by
    intro o u hs hu nF r
    refine ⟨rs.sz, fun b q e => ?_, rs.prs, fun b q e => ?_, fun b q e => ?_⟩
    · by_cases z : b = a
      · subst z; rw [upd_same] at e; cases e; exact .inl hu
      · rw [upd_ne z] at e; exact rs.sub b q e
    · obtain ⟨h1, h2⟩ := rs.dis b q e
      have z : b ≠ a := by rintro rfl; rw [h1] at hs; cases hs
      refine ⟨by unfold sdel; rw [if_neg z]; exact h1, ?_⟩
      rw [upd_ne z]; exact h2
    · unfold sdel at e
      split at e
      · cases e
      · rename_i z
        obtain ⟨h1, w, h2, h3⟩ := rs.obj b q e
        exact ⟨by rw [upd_ne z]; exact h1, w, h2, h3.mono (Le.upd nF)⟩
  split at h
  · rename_i xs e
    cases h
    obtain ⟨nF, u, hu, ru⟩ := rs.obj _ _ e
    have rs' := go _ u e hu nF ru
    cases ru with
    | lst r => exact ⟨_, Le.upd nF, rs', .lst (.inl upd_same) (r.mono (Le.upd nF))⟩
  · rename_i xs e
    cases h
    obtain ⟨nF, u, hu, ru⟩ := rs.obj _ _ e
    have rs' := go _ u e hu nF ru
    cases ru with
    | dct r => exact ⟨_, Le.upd nF, rs', .dct (.inl upd_same) (r.mono (Le.upd nF))⟩
  · cases h
theorem ls_frz {i : Nat} {sts : List Stmt} {b : DSt} (h : PSs X sts (LS W b)) : PSs X sts (LS W (sSeq (sFrz i) b)) :=
  h.mono fun D σ H ⟨F, P, sd, S, Dd, rs, rl, q, k⟩ => by
    unfold sSeq sFrz at q
    split at q
    · rename_i a e
      split at q
      · rename_i d ed
        obtain ⟨F', l, rs', r⟩ := rs.frz ed
        obtain ⟨v, hv, rv⟩ := rl.at_ i _ e
        cases rv
        have hl : i < σ.length := (List.getElem?_eq_some_iff.mp hv).1
        have e2 : σ.set i (some (.ref a)) = σ := by
          apply List.ext_getElem?
          intro j
          by_cases z : j = i
          · subst z; rw [List.getElem?_set_self hl, hv]
          · rw [List.getElem?_set_ne (Ne.symm z)]
        have rl' := (rl.mono l).set r i
        rw [e2] at rl'
        exact ⟨F', P, _, _, Dd, rs', rl', q, k.le l⟩
      · exact q.elim
    · exact q.elim
end DL
set_option Elab.async false
set_option linter.all false
set_option maxRecDepth 100000
set_option maxHeartbeats 1000000
/-! DL7: comprehensions, enumerate, zip, calls of one's own defs, a def by its body. -/
namespace DL
open PySem L2
variable {W : Wd} {F F' F'' P : Hp} {S S' : Store} {H H' : Hp} {X : Cx}

/-! ### enumerate, zip: lists -/
def fEnum : D → Store → (Src → Store → Prop) → Prop := fun d S R => match d with
  | .lst xs => R ⟨fun _ => True, xs.zipIdx.map fun p => .tup [.int (p.2 : Nat), p.1]⟩ S
  | .ref a => match S a with
    | some (.lst xs) => R ⟨fun S' => S' a = some (.lst xs), xs.zipIdx.map fun p => .tup [.int (p.2 : Nat), p.1]⟩ S
    | _ => False
  | _ => False
def dEnum (d : DE) : DI := fun sd S R => d sd S fun x S1 => fEnum x S1 R
theorem enum_get {xs : List D} {i : Nat} {d : D} (h : (xs.zipIdx.map fun p => D.tup [.int (p.2 : Nat), p.1])[i]? = some d) : ∃ x, xs[i]? = some x ∧ d = .tup [.int (i : Nat), x] := by
  rw [List.getElem?_map, List.getElem?_zipIdx] at h
  cases e : xs[i]? with
  | none => rw [e] at h; cases h
  | some x => rw [e] at h; simp at h; exact ⟨x, rfl, h.symm⟩
/-- a new tuple that is only taken apart -/
theorem yld_tup (rs : RS W F P S H) {T : Addr} {ds : List D} {vs : List V} (n : H T = none) (z : vs.length ≤ sizeLine) (r : Rps W F ds vs) : ∃ F'', Le F F'' ∧ RS W F'' P S (upd H T (.tup vs)) ∧ RpI W F'' (.tup ds) (.ref T) := by
  obtain ⟨l, rs'⟩ := rs.frozen (u := .tup vs) n z
  exact ⟨_, l, rs', .inr ⟨T, vs, ds, rfl, rfl, .of upd_same, r.mono l⟩⟩
theorem two_sz {a b : V} : [a, b].length ≤ sizeLine := by show 2 ≤ sizeLine; decide
theorem SrcOk.enum {K : PySem.W.Frag} {a : Addr} {xs : List D} {chk : Store → Prop} (hz : xs.length ≤ sizeLine)
    (h : ∀ F' P' S' H', Le F F' → RS W F' P' S' H' → chk S' → ∃ vs, SqL K H' a vs ∧ Rps W F' xs vs) : SrcOk W F P (Ite K a) ⟨chk, xs.zipIdx.map fun p => .tup [.int (p.2 : Nat), p.1]⟩ := by
  refine ⟨by simpa using hz, fun F' P' S' H' i d l rs c e => ?_, fun F' P' S' H' l rs c => ?_⟩
  · obtain ⟨x, ex, rfl⟩ := enum_get e
    obtain ⟨vs, hq, rr⟩ := h F' P' S' H' l rs c
    obtain ⟨v, hv, rv⟩ := rr.get ex
    refine ⟨⟨vs, v, hq, hv⟩, ?_⟩
    rintro y H'' ⟨T, w, rfl, hT, rfl, hy⟩
    have := hy vs hq
    rw [hv] at this; cases this
    exact yld_tup rs hT two_sz (.cons (.int _) (.cons rv .nil))
  · obtain ⟨vs, hq, rr⟩ := h F' P' S' H' l rs c
    exact ⟨vs, hq, by simp [rr.length]⟩
theorem li_enum {e : Expr} {d : DE} {elts : List Expr} {kk : Nat} {tpos p pos : Pos} (hK : X.K = W.K) (hg : Gl X "enumerate") (hm : X.mg "enumerate" = none) (h : PE X e (LE W d)) (hs : starEach [e] X.env = [(false, eval e X.env)]) :
    PI X (.Tuple elts kk tpos) (.Call (.Name "enumerate" p) [e] [] pos) (LI W true (dEnum d)) := by
  refine PI.mono (pi_enum hg hm (pa_cons h pa_nil hs) hs) fun σ H R ⟨F, P, sd, S, Rd, rs, rl, q, k⟩ => ?_
  refine ⟨F, P, sd, S, _, rs, rl, q, fun F1 S1 H1 dx x l1 rs1 rx q1 => ?_⟩
  unfold fEnum at q1
  split at q1
  · cases rx with
    | lst h1 r1 =>
      have hz : _ ≤ sizeLine := Nat.le_trans (Nat.le_of_eq r1.length) (szRd rs1.sz (rs1.sub.rd h1))
      exact ⟨_, _, rfl, .inl (rs1.sub.rd h1), k F1 S1 H1 _ _ l1 rs1 (SrcOk.enum (P := P) (K := X.K) (chk := fun _ => True) hz (fun F' P' S' H' l rs' _ => ⟨_, .inl (rs'.sub.rd (l.rd h1)), r1.mono l⟩)) (fun z => nomatch z) q1⟩
  · cases rx
    rename_i a
    split at q1
    · rename_i xs e
      obtain ⟨_, u, hu, ru⟩ := rs1.obj _ _ e
      cases ru with
      | lst r1 =>
        have hz : _ ≤ sizeLine := Nat.le_trans (Nat.le_of_eq r1.length) (rs1.sz _ _ hu)
        exact ⟨_, _, rfl, .of hu, k F1 S1 H1 _ _ l1 rs1 (SrcOk.enum (F := F1) (P := P) (K := X.K) (a := a) (chk := fun S' => S' a = some (.lst xs)) hz (fun F' P' S' H' l rs' c => by
          obtain ⟨_, u', hu', ru'⟩ := rs'.obj _ _ c
          cases ru' with
          | lst r' => exact ⟨_, .of hu', r'⟩)) (fun z => nomatch z) q1⟩
    · exact q1.elim
  · exact q1.elim
def zipD : List D → List D → List D
  | x :: xs, y :: ys => .tup [x, y] :: zipD xs ys
  | _, _ => []
/-- a list, the state it must be in -/
def asLc (S : Store) : D → Option ((Store → Prop) × List D)
  | .lst xs => some (fun _ => True, xs)
  | .ref a => match S a with | some (.lst xs) => some (fun S' => S' a = some (.lst xs), xs) | _ => none
  | _ => none
theorem asLc_ok {d : D} {v : V} {c : Store → Prop} {xs : List D} (rs : RS W F P S H) (r : Rp W F d v) (h : asLc S d = some (c, xs)) : ∃ a, v = .ref a ∧ xs.length ≤ sizeLine ∧ c S ∧ ∀ F' P' S' H', Le F F' → RS W F' P' S' H' → c S' → ∃ vs, Rd H' a (.lst vs) ∧ Rps W F' xs vs := by
  cases r with
  | lst h1 r1 =>
    simp only [asLc] at h
    cases h
    exact ⟨_, rfl, Nat.le_trans (Nat.le_of_eq r1.length) (szRd rs.sz (rs.sub.rd h1)), trivial, fun F' P' S' H' l rs' _ => ⟨_, rs'.sub.rd (l.rd h1), r1.mono l⟩⟩
  | ref a =>
    simp only [asLc] at h
    split at h
    · rename_i ys e
      cases h
      obtain ⟨_, u, hu, ru⟩ := rs.obj _ _ e
      cases ru with
      | lst r1 =>
        refine ⟨a, rfl, Nat.le_trans (Nat.le_of_eq r1.length) (rs.sz _ _ hu), e, fun F' P' S' H' l rs' c => ?_⟩
        obtain ⟨_, u', hu', ru'⟩ := rs'.obj _ _ c
        cases ru' with
        | lst r' => exact ⟨_, .inl hu', r'⟩
    · cases h
  | _ => simp only [asLc] at h; cases h
def fZip : D → D → Store → (Src → Store → Prop) → Prop := fun x y S R => match asLc S x, asLc S y with
  | some (c, xs), some (c', ys) => R ⟨fun S' => c S' ∧ c' S', zipD xs ys⟩ S
  | _, _ => False
def dZip (d e : DE) : DI := fun sd S R => d sd S fun x S1 => e sd S1 fun y S2 => fZip x y S2 R
theorem zipD_get : ∀ {xs ys : List D} {i : Nat} {d : D}, (zipD xs ys)[i]? = some d → ∃ x y, xs[i]? = some x ∧ ys[i]? = some y ∧ d = .tup [x, y]
  | [], _, _, _, h => by simp [zipD] at h
  | _ :: _, [], _, _, h => by simp [zipD] at h
  | x :: xs, y :: ys, 0, d, h => by simp [zipD] at h; exact ⟨x, y, rfl, rfl, h.symm⟩
  | x :: xs, y :: ys, i + 1, d, h => by
    have h : (zipD xs ys)[i]? = some d := by simpa [zipD] using h
    obtain ⟨a, b, e1, e2, e3⟩ := zipD_get h
    exact ⟨a, b, by simpa using e1, by simpa using e2, e3⟩
theorem zipD_len : ∀ {xs ys : List D}, (zipD xs ys).length = min xs.length ys.length
  | [], _ => by simp [zipD]
  | _ :: _, [] => by simp [zipD]
  | x :: xs, y :: ys => by simp [zipD, zipD_len (xs := xs) (ys := ys)] <;> omega
theorem li_zip {e e2 : Expr} {d d2 : DE} {elts : List Expr} {kk : Nat} {tpos p pos : Pos} (hK : X.K = W.K) (hg : Gl X "zip") (hm : X.mg "zip" = none) (h : PE X e (LE W d)) (h2 : PE X e2 (LE W d2)) (hs : starEach [e, e2] X.env = (false, eval e X.env) :: starEach [e2] X.env) (hs2 : starEach [e2] X.env = (false, eval e2 X.env) :: starEach [] X.env) :
    PI X (.Tuple elts kk tpos) (.Call (.Name "zip" p) [e, e2] [] pos) (LI W true (dZip d d2)) := by
  refine PI.mono (pi_zip hg hm (pa_cons h (pa_cons h2 pa_nil hs2) hs) hs (by rw [hs2]; rfl)) fun σ H R ⟨F, P, sd, S, Rd, rs, rl, q, k⟩ => ?_
  refine ⟨F, P, sd, S, _, rs, rl, q, fun F1 S1 H1 dx x l1 rs1 rx q1 => ⟨F1, P, sd, S1, _, rs1, rl.mono l1, q1, fun F2 S2 H2 dy y l2 rs2 ry q2 => ?_⟩⟩
  unfold fZip at q2
  split at q2
  · rename_i c xs c' ys e1 e2
    obtain ⟨a, rfl, z1, c1, g1⟩ := asLc_ok rs2 (rx.mono l2) e1
    obtain ⟨b, rfl, z2, c2, g2⟩ := asLc_ok rs2 ry e2
    obtain ⟨vs, hv, rv⟩ := g1 F2 P S2 H2 (Le.refl _) rs2 c1
    obtain ⟨us, hu, ru⟩ := g2 F2 P S2 H2 (Le.refl _) rs2 c2
    refine ⟨a, b, vs, us, rfl, .inl hv, .inl hu, k F2 S2 H2 _ _ (l1.trans l2) rs2 ⟨?_, ?_, ?_⟩ (fun z => nomatch z) q2⟩
    · show (zipD xs ys).length ≤ _
      rw [zipD_len]; omega
    · intro F' P' S' H' i d l rs' c e
      obtain ⟨x, y, ex, ey, rfl⟩ := zipD_get e
      obtain ⟨vs', hv', rv'⟩ := g1 F' P' S' H' l rs' c.1
      obtain ⟨us', hu', ru'⟩ := g2 F' P' S' H' l rs' c.2
      obtain ⟨v, hv2, rv2⟩ := rv'.get ex
      obtain ⟨u, hu2, ru2⟩ := ru'.get ey
      refine ⟨⟨vs', us', v, u, .inl hv', .inl hu', hv2, hu2⟩, ?_⟩
      rintro z H'' ⟨T, x1, y1, rfl, hT, rfl, hy1, hy2⟩
      have t1 := hy1 vs' (.inl hv')
      have t2 := hy2 us' (.inl hu')
      rw [hv2] at t1; cases t1
      rw [hu2] at t2; cases t2
      exact yld_tup rs' hT two_sz (.cons rv2 (.cons ru2 .nil))
    · intro F' P' S' H' l rs' c
      obtain ⟨vs', hv', rv'⟩ := g1 F' P' S' H' l rs' c.1
      obtain ⟨us', hu', ru'⟩ := g2 F' P' S' H' l rs' c.2
      refine ⟨vs', us', .inl hv', .inl hu', ?_⟩
      show _ ≤ (zipD xs ys).length ∨ _
      rw [zipD_len, rv'.length, ru'.length]
      omega
  · exact q2.elim

/-! ### comprehensions -/
def dwipe (sd : Slots) : List Nat → Slots
  | [] => sd
  | v :: vs => (dwipe sd vs).set v none
theorem dwipe_len (sd : Slots) : ∀ vs, (dwipe sd vs).length = sd.length
  | [] => rfl
  | v :: vs => by unfold dwipe; rw [List.length_set, dwipe_len sd vs]
theorem RSl.wipe {sd : Slots} {σ : St} (rl : RSl W F sd σ) : ∀ vs, RSl W F (dwipe sd vs) (wipe σ vs)
  | [] => rl
  | v :: vs => by
    have ih := RSl.wipe rl vs
    refine ⟨by rw [dwipe_len, wipe_length]; exact rl.len, fun i d h => ?_⟩
    unfold dwipe at h
    unfold L2.wipe
    by_cases e : v = i
    · subst e
      by_cases hl : v < (dwipe sd vs).length
      · rw [List.getElem?_set_self hl] at h; cases h
      · rw [List.getElem?_eq_none (by rw [List.length_set]; omega)] at h; cases h
    · rw [List.getElem?_set_ne e] at h ⊢
      exact ih.at_ i d h
theorem RS.pin (rs : RS W F P S H) {p : Addr} {u : HO} (n : H p = Option.none) (z : szO u) : RS W F (upd P p u) S (upd H p u) := by
  obtain ⟨nF, nP, nS⟩ := rs.none n
  refine ⟨sz_upd rs.sz z, rs.sub.upd nF, fun a o h => ?_, fun a o h => ?_, fun a q h => ?_⟩
  · by_cases e : a = p
    · subst e; rw [upd_same] at h ⊢; exact h
    · rw [upd_ne e] at h ⊢; exact rs.prs _ _ h
  · by_cases e : a = p
    · subst e; exact ⟨nS, .inl nF⟩
    · rw [upd_ne e] at h; exact rs.dis _ _ h
  · obtain ⟨h1, w, h2, h3⟩ := rs.obj _ _ h
    exact ⟨h1, w, by rw [upd_ne (ne_of_none h2 n)]; exact h2, h3⟩
theorem RS.repin {p : Addr} {u u' : HO} (rs : RS W F (upd P p u) S H) (nf : ∀ o v, u ≠ .frz o v) (z : szO u') : RS W F (upd P p u') S (upd H p u') := by
  obtain ⟨nS, nF⟩ := rs.dis p u upd_same
  have nF : F p = Option.none := nF.resolve_right fun ⟨o, v, e⟩ => nf o v e
  refine ⟨sz_upd rs.sz z, rs.sub.upd nF, fun a o h => ?_, fun a o h => ?_, fun a q h => ?_⟩
  · by_cases e : a = p
    · subst e; rw [upd_same] at h ⊢; exact h
    · rw [upd_ne e] at h ⊢; exact rs.prs _ _ (by rw [upd_ne e]; exact h)
  · by_cases e : a = p
    · subst e; exact ⟨nS, .inl nF⟩
    · rw [upd_ne e] at h; exact rs.dis _ _ (by rw [upd_ne e]; exact h)
  · have e : a ≠ p := by rintro rfl; rw [nS] at h; cases h
    obtain ⟨h1, w, h2, h3⟩ := rs.obj _ _ h
    exact ⟨h1, w, by rw [upd_ne e]; exact h2, h3⟩
/-- the pinned thing is let loose: as a value -/
theorem RS.unpinF {p : Addr} {u : HO} (rs : RS W F (upd P p u) S H) (nP : P p = Option.none) (nf : ∀ o v, u ≠ .frz o v) : Le F (upd F p u) ∧ RS W (upd F p u) P S H := by
  obtain ⟨nS, nF⟩ := rs.dis p u upd_same
  have nF : F p = Option.none := nF.resolve_right fun ⟨o, v, e⟩ => nf o v e
  have hp : H p = some u := rs.prs p u upd_same
  refine ⟨Le.upd nF, rs.sz, fun a o h => ?_, fun a o h => ?_, fun a o h => ?_, fun a q h => ?_⟩
  · by_cases e : a = p
    · subst e; rw [upd_same] at h; cases h; exact .inl hp
    · rw [upd_ne e] at h; exact rs.sub _ _ h
  · exact rs.prs _ _ (by rw [upd_ne (ne_of_none h nP)]; exact h)
  · have e := ne_of_none h nP
    rw [upd_ne e]
    exact rs.dis _ _ (by rw [upd_ne e]; exact h)
  · have e : a ≠ p := by rintro rfl; rw [nS] at h; cases h
    obtain ⟨h1, w, h2, h3⟩ := rs.obj _ _ h
    exact ⟨by rw [upd_ne e]; exact h1, w, h2, h3.mono (Le.upd nF)⟩
/-- .. as a mutable thing -/
theorem RS.unpinS {p : Addr} {u : HO} {o : O} (rs : RS W F (upd P p u) S H) (nP : P p = Option.none) (nf : ∀ o v, u ≠ .frz o v) (r : RpO W F o u) : RS W F P (sup S p o) H := by
  obtain ⟨nS, nF⟩ := rs.dis p u upd_same
  have nF : F p = Option.none := nF.resolve_right fun ⟨o, v, e⟩ => nf o v e
  have hp : H p = some u := rs.prs p u upd_same
  refine ⟨rs.sz, rs.sub, fun a o h => ?_, fun a o h => ?_, fun a q h => ?_⟩
  · exact rs.prs _ _ (by rw [upd_ne (ne_of_none h nP)]; exact h)
  · have e := ne_of_none h nP
    rw [sup_ne e]
    exact rs.dis _ _ (by rw [upd_ne e]; exact h)
  · by_cases e : a = p
    · subst e; rw [sup_same] at h; cases h; exact ⟨nF, u, hp, r⟩
    · rw [sup_ne e] at h; exact rs.obj _ _ h
theorem RS.pinned {p : Addr} {u : HO} (rs : RS W F (upd P p u) S H) : H p = some u := rs.prs p u upd_same

def lcL (chk : Store → Prop) (g : CG) (vs : List Nat) (t : DT) (e : DE) (sd : Slots) : List D → List D → Store → (List D → Store → Prop) → Prop
  | [], acc, S, Q => chk S ∧ Q acc S
  | x :: xs, acc, S, Q => chk S ∧ match gset g x (dwipe sd vs) with
    | some sd' => t sd' S fun k S1 => if k = true then e sd' S1 fun y S2 => lcL chk g vs t e sd xs (acc ++ [y]) S2 Q else lcL chk g vs t e sd xs acc S1 Q
    | none => False
def dLc (own : Bool) (i : DI) (g : CG) (vs : List Nat) (t : DT) (e : DE) : DE := fun sd S Q => i sd S fun src S1 => lcL src.chk g vs t e sd src.xs [] S1 fun ys S2 => mkL own ys S2 Q
theorem nfrz_lst {vs : List V} : ∀ o v, HO.lst vs ≠ .frz o v := fun o v z => by cases z
theorem nfrz_dK {vs : List (Key × V)} : ∀ o v, HO.dK vs ≠ .frz o v := fun o v z => by cases z
theorem lift_lc {own : Bool} {tk : Bool} {di : DI} {g : CG} {vs : List Nat} {t : DT} {e : DE} (hsub : ∀ i ∈ gslots g, i ∈ vs) (htk : tk = false ∨ isTupG g = true) :
    ∀ σ H Q, LE W (dLc own di g vs t e) σ H Q → tLc (LI W tk di) (LG W g) (LT W t) (LE W e) vs σ H Q := by
  rintro σ H Q ⟨F, P, sd, S, Qd, rs, rl, h, k⟩
  refine ⟨F, P, sd, S, _, rs, rl, h, fun F0 S0 H0 J src l0 rs0 ok key q0 p hp => ?_⟩
  obtain ⟨nF0, nP0, nS0⟩ := rs0.none hp
  refine ⟨fun i m H => i ≤ src.xs.length ∧ m = src.xs.length - i ∧ ∃ F' S' acc us, Le F0 F' ∧ RS W F' (upd P p (.lst us)) S' H ∧ Rps W F' acc us ∧ acc.length ≤ i ∧
    lcL src.chk g vs t e sd (src.xs.drop i) acc S' (fun ys S2 => mkL own ys S2 Qd), ⟨src.xs.length, Nat.zero_le _, by simp, F0, S0, [], [], Le.refl _, rs0.pin hp (Nat.zero_le _), .nil, Nat.zero_le _, by simpa using q0⟩, ?_⟩
  rintro i m H ⟨hi, rfl, F1, S1, acc, us, l1, rs1, ra, hal, h1⟩
  by_cases hlt : i < src.xs.length
  · obtain ⟨x, ex, ed⟩ := drop_cons hlt
    rw [ed] at h1
    obtain ⟨hchk, h1⟩ := h1
    obtain ⟨hgo, hy⟩ := ok.go F1 _ S1 H i x l1 rs1 hchk ex
    refine .inr ⟨hgo, fun H' => ∃ F' S' acc us, Le F0 F' ∧ RS W F' (upd P p (.lst us)) S' H' ∧ Rps W F' acc us ∧ acc.length ≤ i + 1 ∧
      lcL src.chk g vs t e sd (src.xs.drop (i + 1)) acc S' (fun ys S2 => mkL own ys S2 Qd), fun H' w => ⟨src.xs.length - (i + 1), by omega, hlt, rfl, w⟩, fun v H' y => ?_⟩
    split at h1
    · rename_i sd2 eg
      have fin : ∀ F2, Le F1 F2 → RS W F2 (upd P p (.lst us)) S1 H' → (Rp W F2 x v ∨ (isTupG g = true ∧ RpI W F2 x v)) → LG W g v (wipe σ vs) H' fun σ2 H2 => wipe σ2 vs = wipe σ vs ∧ LT W t σ2 H2 fun b H3 =>
          if b = true then LE W e σ2 H3 fun y H4 => ∃ acc, H4 p = some (.lst acc) ∧ acc.length < sizeLine ∧ ∃ F' S' acc' us, Le F0 F' ∧ RS W F' (upd P p (.lst us)) S' (upd H4 p (.lst (acc ++ [y]))) ∧ Rps W F' acc' us ∧ acc'.length ≤ i + 1 ∧ lcL src.chk g vs t e sd (src.xs.drop (i + 1)) acc' S' (fun ys S2 => mkL own ys S2 Qd)
          else ∃ F' S' acc' us, Le F0 F' ∧ RS W F' (upd P p (.lst us)) S' H3 ∧ Rps W F' acc' us ∧ acc'.length ≤ i + 1 ∧ lcL src.chk g vs t e sd (src.xs.drop (i + 1)) acc' S' (fun ys S2 => mkL own ys S2 Qd) := by
        intro F2 l2 rs2 r2
        have l02 := l1.trans l2
        have rlw := ((rl.mono l0).mono l02).wipe vs
        refine ⟨F2, dwipe sd vs, x, sd2, rs2.sub, rlw, r2, eg, fun σ2 rl2 off => ⟨?_, F2, _, sd2, S1, _, rs2, rl2, h1, fun F3 S3 H3 b l3 rs3 q3 => ?_⟩⟩
        · rw [off.wipe hsub]
          apply List.ext_getElem?
          intro j
          by_cases hj : j ∈ vs
          · by_cases hl : j < σ.length
            · rw [wipe_at hj (by rw [wipe_length]; exact hl), wipe_at hj hl]
            · rw [List.getElem?_eq_none (by rw [wipe_length, wipe_length]; omega), List.getElem?_eq_none (by rw [wipe_length]; omega)]
          · rw [wipe_get hj]
        · cases b with
          | false =>
            simp only [Bool.false_eq_true, if_false] at q3 ⊢
            exact ⟨F3, S3, acc, us, l02.trans l3, rs3, (ra.mono l2).mono l3, by omega, q3⟩
          | true =>
            simp only [if_true] at q3 ⊢
            refine ⟨F3, _, sd2, S3, _, rs3, rl2.mono l3, q3, fun F4 S4 H4 dy y l4 rs4 ry q4 => ?_⟩
            have ra4 := ((ra.mono l2).mono l3).mono l4
            have hz : us.length < sizeLine := by
              have := ok.len
              rw [← ra4.length]; omega
            refine ⟨us, rs4.pinned, hz, F4, S4, acc ++ [dy], us ++ [y], (l02.trans l3).trans l4, rs4.repin nfrz_lst ?_, ra4.app (.cons ry .nil), by rw [List.length_append]; simp; omega, q4⟩
            show (us ++ [y]).length ≤ _
            rw [List.length_append]; exact hz
      rcases htk with htk | htk
      · obtain ⟨F2, l2, rs2, r2⟩ := key htk F1 _ S1 H i x l1 rs1 hchk ex v H' y
        exact fin F2 l2 rs2 (.inl r2)
      · obtain ⟨F2, l2, rs2, r2⟩ := hy v H' y
        exact fin F2 l2 rs2 (.inr ⟨htk, r2⟩)
    · exact h1.elim
  · have ei : i = src.xs.length := by omega
    subst ei
    rw [List.drop_length] at h1
    obtain ⟨hchk, h1⟩ := h1
    refine .inl ⟨ok.stop F1 _ S1 H l1 rs1 hchk, ?_⟩
    have k1 := (k.le l0).le l1
    unfold mkL at h1
    split at h1
    · exact k1 F1 _ _ _ _ (Le.refl _) (rs1.unpinS nP0 nfrz_lst (.lst ra)) (.ref p) (h1 p (rs1.dis p _ upd_same).1)
    · obtain ⟨l2, rs2⟩ := rs1.unpinF nP0 nfrz_lst
      exact k1 _ _ _ _ _ l2 rs2 (.lst (.inl upd_same) (ra.mono l2)) h1
/-- dict comprehensions -/
def dcL (chk : Store → Prop) (g : CG) (vs : List Nat) (t : DT) (ek ev : DE) (sd : Slots) : List D → List (Key × D) → Store → (List (Key × D) → Store → Prop) → Prop
  | [], acc, S, Q => chk S ∧ Q acc S
  | x :: xs, acc, S, Q => chk S ∧ match gset g x (dwipe sd vs) with
    | some sd' => t sd' S fun k S1 => if k = true then ek sd' S1 fun y S2 => ev sd' S2 fun z S3 => match keyD y with
        | some kk => dcL chk g vs t ek ev sd xs (dput acc kk z) S3 Q
        | none => False
      else dcL chk g vs t ek ev sd xs acc S1 Q
    | none => False
def dDc (own : Bool) (i : DI) (g : CG) (vs : List Nat) (t : DT) (ek ev : DE) : DE := fun sd S Q => i sd S fun src S1 => dcL src.chk g vs t ek ev sd src.xs [] S1 fun ys S2 => mkD own ys S2 Q
theorem length_dput (kvs : List (Key × D)) (k : Key) (v : D) : (dput kvs k v).length ≤ kvs.length + 1 := by
  unfold dput
  split
  · rw [List.length_map]; exact Nat.le_succ _
  · rw [List.length_append]; exact Nat.le_refl _
theorem lift_dc {own : Bool} {tk : Bool} {di : DI} {g : CG} {vs : List Nat} {t : DT} {e e2 : DE} (hsub : ∀ i ∈ gslots g, i ∈ vs) (htk : tk = false ∨ isTupG g = true) :
    ∀ σ H Q, LE W (dDc own di g vs t e e2) σ H Q → tDc (LI W tk di) (LG W g) (LT W t) (LE W e) (LE W e2) vs σ H Q := by
  rintro σ H Q ⟨F, P, sd, S, Qd, rs, rl, h, k⟩
  refine ⟨F, P, sd, S, _, rs, rl, h, fun F0 S0 H0 J src l0 rs0 ok key q0 p hp => ?_⟩
  obtain ⟨nF0, nP0, nS0⟩ := rs0.none hp
  refine ⟨fun i m H => i ≤ src.xs.length ∧ m = src.xs.length - i ∧ ∃ F' S' acc us, Le F0 F' ∧ RS W F' (upd P p (.dK us)) S' H ∧ RpK W F' acc us ∧ acc.length ≤ i ∧
    dcL src.chk g vs t e e2 sd (src.xs.drop i) acc S' (fun ys S2 => mkD own ys S2 Qd), ⟨src.xs.length, Nat.zero_le _, by simp, F0, S0, [], [], Le.refl _, rs0.pin hp (Nat.zero_le _), .nil, Nat.zero_le _, by simpa using q0⟩, ?_⟩
  rintro i m H ⟨hi, rfl, F1, S1, acc, us, l1, rs1, ra, hal, h1⟩
  by_cases hlt : i < src.xs.length
  · obtain ⟨x, ex, ed⟩ := drop_cons hlt
    rw [ed] at h1
    obtain ⟨hchk, h1⟩ := h1
    obtain ⟨hgo, hy⟩ := ok.go F1 _ S1 H i x l1 rs1 hchk ex
    refine .inr ⟨hgo, fun H' => ∃ F' S' acc us, Le F0 F' ∧ RS W F' (upd P p (.dK us)) S' H' ∧ RpK W F' acc us ∧ acc.length ≤ i + 1 ∧
      dcL src.chk g vs t e e2 sd (src.xs.drop (i + 1)) acc S' (fun ys S2 => mkD own ys S2 Qd), fun H' w => ⟨src.xs.length - (i + 1), by omega, hlt, rfl, w⟩, fun v H' y => ?_⟩
    split at h1
    · rename_i sd2 eg
      have fin : ∀ F2, Le F1 F2 → RS W F2 (upd P p (.dK us)) S1 H' → (Rp W F2 x v ∨ (isTupG g = true ∧ RpI W F2 x v)) → LG W g v (wipe σ vs) H' fun σ2 H2 => wipe σ2 vs = wipe σ vs ∧ LT W t σ2 H2 fun b H3 =>
          if b = true then LE W e σ2 H3 fun y H4 => LE W e2 σ2 H4 fun z H5 => ∃ kvs kk, y = kV kk ∧ H5 p = some (.dK kvs) ∧ kvs.length < sizeLine ∧ ∃ F' S' acc' us, Le F0 F' ∧ RS W F' (upd P p (.dK us)) S' (upd H5 p (.dK (putK kvs kk z))) ∧ RpK W F' acc' us ∧ acc'.length ≤ i + 1 ∧ dcL src.chk g vs t e e2 sd (src.xs.drop (i + 1)) acc' S' (fun ys S2 => mkD own ys S2 Qd)
          else ∃ F' S' acc' us, Le F0 F' ∧ RS W F' (upd P p (.dK us)) S' H3 ∧ RpK W F' acc' us ∧ acc'.length ≤ i + 1 ∧ dcL src.chk g vs t e e2 sd (src.xs.drop (i + 1)) acc' S' (fun ys S2 => mkD own ys S2 Qd) := by
        intro F2 l2 rs2 r2
        have l02 := l1.trans l2
        have rlw := ((rl.mono l0).mono l02).wipe vs
        refine ⟨F2, dwipe sd vs, x, sd2, rs2.sub, rlw, r2, eg, fun σ2 rl2 off => ⟨?_, F2, _, sd2, S1, _, rs2, rl2, h1, fun F3 S3 H3 b l3 rs3 q3 => ?_⟩⟩
        · rw [off.wipe hsub]
          apply List.ext_getElem?
          intro j
          by_cases hj : j ∈ vs
          · by_cases hl : j < σ.length
            · rw [wipe_at hj (by rw [wipe_length]; exact hl), wipe_at hj hl]
            · rw [List.getElem?_eq_none (by rw [wipe_length, wipe_length]; omega), List.getElem?_eq_none (by rw [wipe_length]; omega)]
          · rw [wipe_get hj]
        · cases b with
          | false =>
            simp only [Bool.false_eq_true, if_false] at q3 ⊢
            exact ⟨F3, S3, acc, us, l02.trans l3, rs3, (ra.mono l2).mono l3, by omega, q3⟩
          | true =>
            simp only [if_true] at q3 ⊢
            refine ⟨F3, _, sd2, S3, _, rs3, rl2.mono l3, q3, fun F4 S4 H4 dy y l4 rs4 ry q4 => ⟨F4, _, sd2, S4, _, rs4, (rl2.mono l3).mono l4, q4, fun F5 S5 H5 dz z l5 rs5 rz q5 => ?_⟩⟩
            split at q5
            · rename_i kk ek
              have ra5 := (((ra.mono l2).mono l3).mono l4).mono l5
              have hz : us.length < sizeLine := by
                have := ok.len
                rw [← ra5.length]; omega
              refine ⟨us, kk, keyD_ok (ry.mono l5) ek, rs5.pinned, hz, F5, S5, dput acc kk dz, putK us kk z, ((l02.trans l3).trans l4).trans l5, rs5.repin nfrz_dK ?_, ra5.put rz, ?_, q5⟩
              · show (putK us kk z).length ≤ _
                have := length_putK us kk z; omega
              · have := length_dput acc kk dz; omega
            · exact q5.elim
      rcases htk with htk | htk
      · obtain ⟨F2, l2, rs2, r2⟩ := key htk F1 _ S1 H i x l1 rs1 hchk ex v H' y
        exact fin F2 l2 rs2 (.inl r2)
      · obtain ⟨F2, l2, rs2, r2⟩ := hy v H' y
        exact fin F2 l2 rs2 (.inr ⟨htk, r2⟩)
    · exact h1.elim
  · have ei : i = src.xs.length := by omega
    subst ei
    rw [List.drop_length] at h1
    obtain ⟨hchk, h1⟩ := h1
    refine .inl ⟨ok.stop F1 _ S1 H l1 rs1 hchk, ?_⟩
    have k1 := (k.le l0).le l1
    unfold mkD at h1
    split at h1
    · exact k1 F1 _ _ _ _ (Le.refl _) (rs1.unpinS nP0 nfrz_dK (.dct ra)) (.ref p) (h1 p (rs1.dis p _ upd_same).1)
    · obtain ⟨l2, rs2⟩ := rs1.unpinF nP0 nfrz_dK
      exact k1 _ _ _ _ _ l2 rs2 (.dct (.inl upd_same) (ra.mono l2)) h1

/-! ### calls of one's own defs -/
abbrev DSp := List D → Store → DQ → Prop
def LSp (W : Wd) (n : Nat) (sp : DSp) : Sp := fun vs H Q _ => ∃ F P ds S Qd, RS W F P S H ∧ Rps W F ds vs ∧ ds.length = n ∧ sp ds S Qd ∧ Kont W F P Qd Q
def guardN (n : Nat) (sp : DSp) : FA := fun ds S Q => ds.length = n ∧ sp ds S Q
theorem le_call {k : Nat} {f : Addr} {fd : FuncData} {ps : List Str} {sp : DSp} {x : Str} {p pos : Pos} {e : Expr} {es : List Expr} {a : DA} {n : Nat} (G : FnOk X.prog X.w X.K X.mg X.base CX0 k f fd ps (LSp W n sp)) (hr : Room k X.A) (hg : Gl X x) (hm : X.mg x = some (.ref f)) (hk : PySem.W.keepIn X.K (.ref f) = true)
    (hb : Binds X.K fd ps []) (ha : PA X (e :: es) (LA W a)) (hdb : (x == ("__debug__" : Str)) = false) (he : starEach (e :: es) X.env = (false, eval e X.env) :: starEach es X.env) (hpl : (backTo pos (starEach es X.env)).any (·.1) = false) :
    PE X (.Call (.Name x p) (e :: es) [] pos) (LE W (dCall (guardN n sp) a)) :=
  (pe_call G hr hg hm hk hb .nil pass0 ha hdb he hpl).mono fun σ H Q ⟨F, P, sd, S, Qd, rs, rl, h, k⟩ => ⟨F, P, sd, S, _, rs, rl, h, fun F1 S1 H1 ds vs l1 rs1 rr q => by
    show LSp W n sp (vs ++ []) H1 Q E0
    rw [List.append_nil]
    exact ⟨F1, P, ds, S1, Qd, rs1, rr, q.1, q.2, k.le l1⟩⟩
theorem le_call0 {k : Nat} {f : Addr} {fd : FuncData} {ps : List Str} {sp : DSp} {x : Str} {p pos : Pos} {n : Nat} (G : FnOk X.prog X.w X.K X.mg X.base CX0 k f fd ps (LSp W n sp)) (hr : Room k X.A) (hg : Gl X x) (hm : X.mg x = some (.ref f)) (hk : PySem.W.keepIn X.K (.ref f) = true)
    (hb : Binds X.K fd ps []) (hdb : (x == ("__debug__" : Str)) = false) :
    PE X (.Call (.Name x p) [] [] pos) (LE W (dCall (guardN n sp) dNil)) :=
  (pe_call0 G hr hg hm hk hb .nil pass0 hdb).mono fun σ H Q ⟨F, P, sd, S, Qd, rs, rl, h, k⟩ => ⟨F, P, [], S, Qd, rs, .nil, h.1, h.2, k⟩

/-- what may be done to a result: some of the store forgotten, a mutable thing made a value -/
inductive Gh : D → Store → D → Store → Prop
  | refl {d : D} {S : Store} : Gh d S d S
  | forget {d d' : D} {S S1 S' : Store} (h : SLe S1 S) (t : Gh d S1 d' S') : Gh d S d' S'
  | frz {a : Addr} {d d' : D} {S S' : Store} (h : frzD S a = some d) (t : Gh d (sdel S a) d' S') : Gh (.ref a) S d' S'
theorem Gh.ok {P : Hp} {H : Hp} {v : V} {d d' : D} {S S' : Store} (g : Gh d S d' S') : ∀ {F : Hp}, RS W F P S H → Rp W F d v → ∃ F', Le F F' ∧ RS W F' P S' H ∧ Rp W F' d' v := by
  induction g with
  | refl => exact fun rs r => ⟨_, Le.refl _, rs, r⟩
  | forget h t ih => exact fun rs r => ih (rs.forget h) r
  | frz h t ih =>
    intro F rs r
    cases r
    obtain ⟨F1, l1, rs1, r1⟩ := rs.frz h
    obtain ⟨F2, l2, rs2, r2⟩ := ih rs1 r1
    exact ⟨F2, l1.trans l2, rs2, r2⟩
/-- the wish about a def's answer -/
def rtQ (Q : DQ) : DQ := fun d S => ∃ d' S', Gh d S d' S' ∧ Q d' S'
theorem rtQ.of {Q : DQ} {d : D} {S : Store} (h : Q d S) : rtQ Q d S := ⟨d, S, .refl, h⟩
def start0 (n : Nat) (ds : List D) : Slots := ds.map some ++ List.replicate (n - ds.length) none
theorem start_ok {N : List Str} {ds : List D} {vs : List V} (r : Rps W F ds vs) : RSl W F (start0 N.length ds) (L2.start N vs) := by
  have hl := r.length
  refine ⟨by unfold start0 L2.start; simp [hl], fun i d h => ?_⟩
  unfold start0 at h
  by_cases hi : i < ds.length
  · rw [List.getElem?_append_left (by simpa using hi), List.getElem?_map] at h
    cases e : ds[i]? with
    | none => rw [e] at h; cases h
    | some x =>
      rw [e] at h
      cases h
      obtain ⟨v, hv, rv⟩ := r.get e
      refine ⟨v, ?_, rv⟩
      unfold L2.start
      rw [List.getElem?_append_left (by simp; omega), List.getElem?_map, hv]
      rfl
  · rw [List.getElem?_append_right (by simpa using hi), List.getElem?_replicate] at h
    split at h <;> cases h
section
variable {P : Program} {w : World} {K : PySem.W.Frag} {mg : Str → Option Value} {base : Heap}
/-- THE RULE for a def: its body's reading on data -/
theorem fn_rule {x qual : Str} {st : Stmt} {f : Addr} {fd : FuncData} {N ps : List Str} {k : Nat} {sp : DSp} {b : DSt} (Fn : Fun K x qual st f fd) (Sc : FnScope N ps (defScope st))
    (hb : ∀ (cdv : Value) (A : Around) (outer : List Env) (s : Shared) (H : Hp) (E : XK), Room k (A.deeper (PyProof.Rows.envOfC qual (defScope st) s.heap.objs.size f cdv)) → PSs (cxOf CX0 P w K mg base N qual (defScope st) f cdv A outer s H E).nox (defBody st) (LS W b))
    (hsp : ∀ ds S Q, sp ds S Q → ds.length = ps.length → b { nx := fun _ S' => rtQ Q .non S', rt := rtQ Q } (start0 N.length ds) S) : FnOk P w K mg base CX0 (k + 1) f fd ps (LSp W ps.length sp) := by
  refine Fn.ok Sc (fun vs H Q E h => ?_) (fun cdv A outer s H vs Q E hr h => ?_)
  · obtain ⟨F, P', ds, S, Qd, rs, rr, hl, h, kk⟩ := h
    rw [← rr.length]; exact hl
  · obtain ⟨F, P', ds, S, Qd, rs, rr, hl, h, kk⟩ := h
    refine ⟨_, hb cdv A outer s H E hr, F, P', _, S, _, rs, start_ok rr, hsp ds S Qd h hl, ?_⟩
    refine ⟨fun F' sd S' σ H' l rs' rl' q => ?_, fun F' S' H' d v l rs' r q => ?_, fun _ _ _ _ _ _ _ _ q => q.elim, fun _ _ _ _ _ _ _ _ q => q.elim⟩
    · obtain ⟨d', S2, g, q⟩ := q
      obtain ⟨F2, l2, rs2, r2⟩ := g.ok rs' (.non : Rp W F' .non .non)
      exact kk F2 S2 H' d' _ (l.trans l2) rs2 r2 q
    · obtain ⟨d', S2, g, q⟩ := q
      obtain ⟨F2, l2, rs2, r2⟩ := g.ok rs' r
      exact kk F2 S2 H' d' _ (l.trans l2) rs2 r2 q
end
end DL
set_option Elab.async false
set_option linter.all false
set_option maxRecDepth 100000
set_option maxHeartbeats 1000000
/-! DL8: the core: a def's text without places, its check against the text, its reading on data. -/
namespace DL
open PySem L2

/-! ### what is seen of a piece of text -/
def noStar : Expr → Bool
  | .Starred .. => false
  | _ => true
theorem star_cons {e : Expr} {es : List Expr} {env : Env} (h : noStar e = true) : starEach (e :: es) env = (false, eval e env) :: starEach es env := by
  cases e <;> first | rfl | (cases h)
theorem star_plain {pos : Pos} {env : Env} : ∀ {es : List Expr}, (es.all noStar) = true → (backTo pos (starEach es env)).any (·.1) = false
  | [], _ => rfl
  | e :: es, h => by
    simp only [List.all_cons, Bool.and_eq_true] at h
    rw [star_cons h.1]
    show (false || (backTo pos (starEach es env)).any (·.1)) = false
    rw [star_plain h.2, Bool.false_or]
def plainT : Expr → Bool
  | .UnaryOp op _ _ => decide (op ≠ .Not)
  | .BoolOp .. => false
  | .IfExp .. => false
  | .Compare .. => false
  | _ => true
theorem plainT_is {e : Expr} {env : Env} (h : plainT e = true) : ∀ whole, isTrue e env whole = (do let v ← whole; standAt e.pos; holding [v] (truthy v)) := by
  intro whole
  cases e <;> first
    | rfl
    | (rename_i op x p; cases op <;> first | rfl | (cases h))
    | (cases h)
def noSuper : Expr → Bool
  | .Call (.Name _ _) [] [] _ => false
  | _ => true
theorem noSuper_is {e : Expr} {attr : Str} {env : Env} (h : noSuper e = true) : attributeBase e attr env (eval e env) = eval e env := by
  unfold attributeBase
  split
  · cases h
  · rfl
def noSet : Expr → Bool
  | .Set .. => false
  | _ => true
theorem noSet_iter {e : Expr} {env : Env} (h : noSet e = true) : ∀ x, foldedSetIterable e env x = pure x := by
  intro x
  cases e <;> first | rfl | (cases h)
theorem noSet_mark {e : Expr} {op : CmpOp} (h : noSet e = true) : behindInMarks op e = false := by
  cases e <;> first | rfl | (cases h)
def noSlice : Expr → Bool
  | .Slice .. => false
  | _ => true
theorem noSlice_is {e : Expr} (h : noSlice e = true) : PlainIx e := by
  intro o i
  cases e <;> first | rfl | (cases h)
def noComp : Expr → Bool
  | .ListComp .. => false | .SetComp .. => false | .DictComp .. => false
  | _ => true
theorem noComp_is {e : Expr} {t : Option Expr} {n : Nat} {env : Env} (h : noComp e = true) : swapsWith e t n env = pure false := by
  cases e <;> first | rfl | (cases h)
def noTup : Expr → Bool
  | .Tuple .. => false
  | _ => true

/-! ### the core -/
structure Cc where
  sc : Scope
  N : List Str
  fn : Str → Bool
  bl : List Str
  fns : List Str
  gls : List Str
def Cc.blk (c : Cc) (scope : Scope) : Cc := { c with sc := relS scope c.sc, fn := fun x => scope.names.lookup x == some .cell }
def Cc.vis (c : Cc) (x : Str) : Bool := match c.sc.names.lookup x with
  | some .local => true | some .cell => true | some .free => true | _ => false
def Cc.loc (c : Cc) (x : Str) : Bool := match c.sc.names.lookup x with
  | some .local => true | some .cell => true | _ => false
def Cc.isLocal (c : Cc) (x : Str) : Bool := match c.sc.names.lookup x with
  | some .local => true | _ => false
def Cc.gl (c : Cc) (x : Str) : Bool := match c.sc.names.lookup x with
  | some .globalImplicit => true | _ => false
def Cc.isFn (c : Cc) : Bool := match c.sc.kind with | .function => true | _ => false
def okName (x : Str) : Bool := !(x == ("__debug__" : Str)) && !(x == ("__classdict__" : Str)) && decide (x ≠ "__name__")

structure Tb where
  fn : Nat → Option (Nat × DSp)
  kw : Nat → List (List Str × List Nat)
  glb : Nat → Option D

inductive TyC where | bool | int | str | tuple | list | dict
  deriving DecidableEq
def TyC.name : TyC → String
  | .bool => "bool" | .int => "int" | .str => "str" | .tuple => "tuple" | .list => "list" | .dict => "dict"
theorem TyC.boot (t : TyC) : bootBuiltins (Str.ofString t.name) = some (.type t.name) := by cases t <;> decide +kernel
theorem TyC.mem (t : TyC) : t.name ∈ ["bool", "int", "str", "tuple", "list", "dict"] := by cases t <;> decide
def Blt.name : Blt → String
  | .len => "len" | .abs => "abs" | .int => "int" | .sum => "sum" | .all => "all" | .any => "any" | .sorted => "sorted" | .tuple => "tuple" | .list => "list" | .dict => "dict" | .max => "max" | .min => "min"
def Blt.isTy : Blt → Bool
  | .int => true | .tuple => true | .list => true | .dict => true | _ => false
theorem Blt.boot (b : Blt) : bootBuiltins (Str.ofString b.name) = some (if b.isTy = true then .type b.name else .builtin b.name) := by cases b <;> decide +kernel
def fBlt (own : Bool) : Blt → FA
  | .len => fLen | .abs => fAbs | .int => fInt1 | .sum => fL1 asInts fun ns => .int ns.sum
  | .all => fL1 asBls fun ns => .bl (ns.all id) | .any => fL1 asBls fun ns => .bl (ns.any id)
  | .sorted => fSorted own | .tuple => fTuple | .list => fList own | .dict => fDict own | .max => fMax | .min => fMin
def fBin (own : Bool) : Operator → F2
  | .Add => fAdd own | .Sub => fSub | .Mult => fMul own | .FloorDiv => fDiv | .Mod => fMod | .Pow => fPow
  | _ => fun _ _ _ _ => False
def okAug : Operator → Bool
  | .Add => true | .Sub => true | _ => false
def okBin : Operator → Bool
  | .Add => true | .Sub => true | .Mult => true | .FloorDiv => true | .Mod => true | .Pow => true | _ => false
def fInD (neg : Bool) : F2 := fun dx dy S Q => match asD S dy, keyD dx with
  | some kvs, some k => Q (.bl (if neg = true then !(dget kvs k).isSome else (dget kvs k).isSome)) S
  | _, _ => False
def fCmp : CmpOp → F2
  | .Eq => fEq | .NotEq => fNe | .Lt => fLt | .LtE => fLe | .Gt => fGt | .GtE => fGe | .Is => fIs | .IsNot => fIsNot | .In => fInD false | .NotIn => fInD true
def fGet (dflt : Option D) : D → D → Store → DQ → Prop := fun o k S Q => match asD S o, keyD k with
  | some kvs, some kk => Q ((dget kvs kk).getD (dflt.getD .non)) S
  | _, _ => False
def fApp : D → D → Store → DQ → Prop := fun o x S Q => match o with
  | .ref a => match S a with
    | some (.lst xs) => xs.length < sizeLine ∧ Q .non (sup S a (.lst (xs ++ [x])))
    | _ => False
  | _ => False
def dGet1 (d e : DE) : DE := fun sd S Q => d sd S fun x S1 => (asD S1 x).isSome = true ∧ e sd S1 fun y S2 => fGet none x y S2 Q
def dGet2 (d e f : DE) : DE := fun sd S Q => d sd S fun x S1 => (asD S1 x).isSome = true ∧ e sd S1 fun y S2 => f sd S2 fun z S3 => fGet (some z) x y S3 Q
def isLs (S : Store) : D → Bool
  | .ref a => match S a with | some (.lst _) => true | _ => false
  | _ => false
def dApp (d e : DE) : DE := fun sd S Q => d sd S fun x S1 => isLs S1 x = true ∧ e sd S1 fun y S2 => fApp x y S2 Q
def keyDat : Key → D
  | .inl i => .int i
  | .inr s => .str s
def fLenSet : D → Store → DQ → Prop := fun d S Q => match asL S d with
  | some xs => match asInts xs with
    | some ns => ns.length ≤ 4000 ∧ Q (.int (PyProof.Rows.firstMet (fun i => ns.getD i 0) ns.length).length) S
    | none => False
  | none => False
/-- sorted(d.items()), int keys -/
def refD : D → Bool
  | .tup _ => true | .lst _ => true | .dct _ => true | .ref _ => true | .scr _ => true | .ins .. => true
  | _ => false
def fSItems (own : Bool) : D → Store → DQ → Prop := fun d S Q => match asD S d with
  | some kvs => match intKeys kvs with
    | some ks => own = false ∧ ks.Nodup ∧ ks.length < 64 ∧ kvs.all (fun kv => refD kv.2) = true ∧ Q (.lst ((isort ks).map fun k => .tup [.int k, (dget kvs (.inl k)).getD .non])) S
    | none => False
  | none => False
/-- how many different ones -/
def dedupI : List Int → List Int
  | [] => []
  | x :: r => if r.contains x = true then dedupI r else x :: dedupI r

mutual
inductive CE where
  | slot (i : Nat) | int (i : Int) | bl (b : Bool) | non | str (s : Str) | glb (j : Nat)
  | op (own : Bool) (o : Operator) (a b : CE) | neg (a : CE)
  | cmp (o : CmpOp) (a b : CE) | chain (o o' : CmpOp) (a b c : CE)
  | not (a : CE) | and (a b : CE) | or (a b : CE) | last (a : CE) | ite (c a b : CE)
  | tup (es : CEs) | lst (own : Bool) (es : CEs)
  | ix (a b : CE) | cut (own : Bool) (a : CE) (lo hi : CO)
  | call (j : Nat) (es : CEs) | callk (j : Nat) (ks : List Str) (perm : List Nat) (es : CEs)
  | blt (own : Bool) (b : Blt) (es : CEs) | isi (t : TyC) (a : CE)
  | get1 (o k : CE) | get2 (o k d : CE) | app (o x : CE)
  | dict0 (own : Bool) | lenset (a : CE) | sitems (own : Bool) (a : CE)
  | lc (own : Bool) (vs : List (Str × Nat)) (g : CG) (it : CI) (t : CT) (e : CE)
  | dc (own : Bool) (vs : List (Str × Nat)) (g : CG) (it : CI) (t : CT) (k v : CE)
inductive CEs where | nil | cons (e : CE) (r : CEs)
inductive CO where | no | one (e : CE)
inductive CT where | no | one (e : CE)
inductive CI where | seq (e : CE) | range1 (e : CE) | range2 (e f : CE) | enum (e : CE) | zip (e f : CE)
end
structure DV where
  v : DE
  t : DT
def DV.of (d : DE) : DV := ⟨d, tOf d⟩
def DV.ofB (d : DE) : DV := ⟨d, tOfB d⟩
def dFail : DE := fun _ _ _ => False
def permV {α : Type} (perm : List Nat) (us ws : List α) : List α := perm.filterMap fun i => ws[i]?
def dOp3 (f : D → D → D → Store → DQ → Prop) (a b c : DE) : DE := fun sd S Q => a sd S fun x S1 => b sd S1 fun y S2 => c sd S2 fun z S3 => f x y z S3 Q
mutual
def den (T : Tb) : CE → DV
  | .slot i => .of (dVar i) | .int i => .of (dC (.int i)) | .bl b => .of (dC (.bl b)) | .non => .of (dC .non) | .str s => .of (dC (.str s))
  | .glb j => .of (match T.glb j with | some d => dC d | none => dFail)
  | .op own o a b => .of (dOp (fBin own o) (den T a).v (den T b).v)
  | .neg a => .of (dUn fNeg (den T a).v)
  | .cmp o a b => .ofB (dOp (fCmp o) (den T a).v (den T b).v)
  | .chain o o' a b c => .ofB (dChain (fCmp o) (fCmp o') (den T a).v (den T b).v (den T c).v)
  | .not a => ⟨dNot (den T a).v, dNotT (den T a).t⟩
  | .and a b => ⟨dAnd (den T a).v (den T b).v, dAndT (den T a).t (den T b).t⟩
  | .or a b => ⟨dOr (den T a).v (den T b).v, dOrT (den T a).t (den T b).t⟩
  | .last a => den T a
  | .ite c a b => ⟨dIte (den T c).t (den T a).v (den T b).v, fun _ _ _ => False⟩
  | .tup es => .of (dTup (dens T es))
  | .lst own es => .of (dLst own (dens T es))
  | .ix a b => .of (dOp fIx (den T a).v (den T b).v)
  | .cut own a lo hi => .of (dCut own (den T a).v (denO T lo) (denO T hi))
  | .call j es => .of (match T.fn j with | some (n, sp) => dCall (guardN n sp) (dens T es) | none => dFail)
  | .callk j ks perm es => .of (match T.fn j with | some (n, sp) => if (T.kw j).contains (ks, perm) = true then dCall (fun ds S Q => ds.length = ks.length ∧ guardN n sp (permV perm [] ds) S Q) (dens T es) else dFail | none => dFail)
  | .blt own b es => .of (dCall (fBlt own b) (dens T es))
  | .isi t a => .of (dUn (fIsi t.name) (den T a).v)
  | .get1 o k => .of (dGet1 (den T o).v (den T k).v)
  | .get2 o k d => .of (dGet2 (den T o).v (den T k).v (den T d).v)
  | .app o x => .of (dApp (den T o).v (den T x).v)
  | .dict0 own => .of (fun _ S Q => mkD own [] S Q)
  | .lenset a => .of (dUn fLenSet (den T a).v)
  | .sitems own a => .of (dUn (fSItems own) (den T a).v)
  | .lc own vs g it t e => .of (dLc own (denI T it) g (vs.map (·.2)) (denT T t) (den T e).v)
  | .dc own vs g it t k v => .of (dDc own (denI T it) g (vs.map (·.2)) (denT T t) (den T k).v (den T v).v)
def dens (T : Tb) : CEs → DA
  | .nil => dNil
  | .cons e r => dCons (den T e).v (dens T r)
def denO (T : Tb) : CO → DO
  | .no => dNoPart
  | .one e => dPart (den T e).v
def denT (T : Tb) : CT → DT
  | .no => fun _ S Q => Q true S
  | .one e => (den T e).t
def denI (T : Tb) : CI → DI
  | .seq e => dSeq1 (den T e).v
  | .range1 e => dRange1 (den T e).v
  | .range2 e f => dRange2 (den T e).v (den T f).v
  | .enum e => dEnum (den T e).v
  | .zip e f => dZip (den T e).v (den T f).v
end
def CI.tk : CI → Bool
  | .enum _ => true | .zip _ _ => true | _ => false

/-! ### statements -/
mutual
inductive CS where
  | expr (e : CE) | ret (e : CE) | retn | set (i : Nat) (e : CE)
  | setlc (i : Nat) (own : Bool) (vs : List (Str × Nat)) (g : CG) (it : CI) (t : CT) (e : CE)
  | setg (g : CG) (e : CE) | par (i j : Nat) (a b : CE) | par3 (i j l : Nat) (a b c : CE) | setix (o i e : CE)
  | aug (i : Nat) (o : Operator) (e : CE)
  | ifs (c : CE) (a b : CSs) | for_ (g : CG) (it : CI) (b : CSs) | forkeys (g : CG) (i : Nat) (b : CSs) | while_ (c : CE) (b : CSs) | pass | brk | cont
inductive CSs where
  | nil | cons (s : CS) (r : CSs) | frz (i : Nat) (r : CSs)
end
def sPar3 (i j l : Nat) (d e f : DE) : DSt := fun D sd S => d sd S fun x S1 => e sd S1 fun y S2 => f sd S2 fun z S3 => D.nx (((sd.set i (some x)).set j (some y)).set l (some z)) S3
def sForKeys (i : Nat) (g : CG) (b : DSt) : DSt := fun D sd S => match sd[i]? with
  | some (some (.dct kvs)) => forL (fun _ => True) g b D (kvs.map fun kv => keyDat kv.1) sd S
  | _ => False
def fAug : Operator → F2
  | .Add => fInt0 fun i j => .int (i + j) | .Sub => fSub | _ => fun _ _ _ _ => False
mutual
def denS (T : Tb) : CS → DSt
  | .expr e => sDrop (den T e).v
  | .ret e => sRet (den T e).v
  | .retn => sRetN
  | .set i e => sSet i (den T e).v
  | .setlc i own vs g it t e => sSet i (dLc own (denI T it) g (vs.map (·.2)) (denT T t) (den T e).v)
  | .setg g e => sSetG g (den T e).v
  | .par i j a b => sPar i j (den T a).v (den T b).v
  | .par3 i j l a b c => sPar3 i j l (den T a).v (den T b).v (den T c).v
  | .setix o i e => sSetIx (den T o).v (den T i).v (den T e).v
  | .aug i o e => sAug i (fAug o) (den T e).v
  | .ifs c a b => sIf (den T c).t (denSs T a) (denSs T b)
  | .for_ g it b => sFor (denI T it) g (denSs T b)
  | .forkeys g i b => sForKeys i g (denSs T b)
  | .while_ c b => sWhile (den T c).t (denSs T b)
  | .pass => sNext | .brk => sBreak | .cont => sCont
def denSs (T : Tb) : CSs → DSt
  | .nil => sNext
  | .cons s r => sSeq (denS T s) (denSs T r)
  | .frz i r => sSeq (sFrz i) (denSs T r)
end

/-! ### the check -/
mutual
def chkG : CG → Cc → Expr → Bool
  | .slot i, c, .Name x _ => decide (c.N[i]? = some x) && c.loc x && (c.fn x || c.isLocal x)
  | .tup gs, c, .Tuple es _ _ => es.all noStar && chkGs gs c es
  | _, _, _ => false
def chkGs : CGs → Cc → List Expr → Bool
  | .nil, _, [] => true
  | .cons g r, c, e :: es => chkG g c e && chkGs r c es
  | _, _, _ => false
end
mutual
def chk : CE → Cc → Expr → Bool
  | .slot i, c, .Name x _ => decide (c.N[i]? = some x) && c.vis x && okName x
  | .int i, _, .Constant (.int j) _ _ => decide (i = j)
  | .bl i, _, .Constant (.bool j) _ _ => decide (i = j)
  | .non, _, .Constant .none _ _ => true
  | .str i, _, .Constant (.str j) _ _ => decide (i = j)
  | .glb j, c, .Name y _ => decide (c.gls[j]? = some y) && c.gl y && okName y
  | .op _ o a b, c, .BinOp l o' r _ => decide (o = o') && okBin o && chk a c l && chk b c r
  | .neg a, c, .UnaryOp .USub l _ => chk a c l
  | .cmp o a b, c, .Compare l [o'] [r] _ => decide (o = o') && noSet r && chk a c l && chk b c r
  | .chain o o2 a b d, c, .Compare l [o', o2'] [r, r2] _ => decide (o = o') && decide (o2 = o2') && noSet r2 && chk a c l && chk b c r && chk d c r2
  | .not a, c, .UnaryOp .Not l _ => chk a c l
  | .and a b, c, .BoolOp .And (x :: y :: r) pos => chk a c x && chk b c (.BoolOp .And (y :: r) pos)
  | .or a b, c, .BoolOp .Or (x :: y :: r) pos => chk a c x && chk b c (.BoolOp .Or (y :: r) pos)
  | .last a, c, .BoolOp _ [x] _ => chk a c x
  | .ite t a b, c, .IfExp t' x y _ => chk t c t' && chk a c x && chk b c y
  | .tup es, c, .Tuple xs _ _ => chks es c xs
  | .lst _ es, c, .List xs _ => chks es c xs
  | .ix a b, c, .Subscript x y _ => noSlice y && chk a c x && chk b c y
  | .cut _ a lo hi, c, .Subscript x (.Slice l h none _) _ => chk a c x && chkO lo c l && chkO hi c h
  | .call j es, c, .Call (.Name x _) args [] _ => decide (c.fns[j]? = some x) && c.gl x && okName x && chks es c args
  | .callk j ks perm es, c, .Call (.Name x _) [] kws _ => decide (c.fns[j]? = some x) && c.gl x && okName x && decide (kws.map (·.arg) = ks.map some) && chks es c (kws.map (·.value))
  | .blt _ b es, c, .Call (.Name x _) args [] _ => decide (x = Str.ofString b.name) && c.gl x && c.bl.contains x && !args.isEmpty && chks es c args
  | .isi t a, c, .Call (.Name f _) [e, .Name x _] [] _ => decide (f = "isinstance") && c.gl f && c.bl.contains f && decide (x = Str.ofString t.name) && c.gl x && c.bl.contains x && noStar e && chk a c e
  | .get1 o k, c, .Call (.Attribute e m ap) [x] [] cp => decide (m = "get") && noSuper e && noStar x && (ap.endLine == cp.line) && chk o c e && chk k c x
  | .get2 o k d, c, .Call (.Attribute e m ap) [x, y] [] cp => decide (m = "get") && noSuper e && noStar x && noStar y && (ap.endLine == cp.line) && chk o c e && chk k c x && chk d c y
  | .app o k, c, .Call (.Attribute e m ap) [x] [] cp => decide (m = "append") && noSuper e && noStar x && (ap.endLine == cp.line) && chk o c e && chk k c x
  | .dict0 _, _, .Dict [] [] _ => true
  | .lenset a, c, .Call (.Name f _) [.Call (.Name g _) [x] [] _] [] _ => decide (f = "len") && c.gl f && c.bl.contains f && decide (g = "set") && c.gl g && c.bl.contains g && noStar x && chk a c x
  | .sitems _ a, c, .Call (.Name f _) [.Call (.Attribute e m ap) [] [] cp] [] _ => decide (f = "sorted") && c.gl f && c.bl.contains f && decide (m = "items") && noSuper e && (ap.endLine == cp.line) && chk a c e
  | .lc _ vs g it t e, c, .ListComp elt [⟨tg, iter, ifs, a⟩] scope _ =>
    (a == 0) && blkC c.N c.sc scope vs && noSet iter && (gslots g).all (fun i => (vs.map (·.2)).contains i) && (!it.tk || isTupG g) &&
    chkI it c tg iter && chkG g (c.blk scope) tg && chkT t (c.blk scope) ifs && chk e (c.blk scope) elt
  | .dc _ vs g it t k v, c, .DictComp kx vx [⟨tg, iter, ifs, a⟩] scope _ =>
    (a == 0) && blkC c.N c.sc scope vs && noSet iter && (gslots g).all (fun i => (vs.map (·.2)).contains i) && (!it.tk || isTupG g) &&
    chkI it c tg iter && chkG g (c.blk scope) tg && chkT t (c.blk scope) ifs && chk k (c.blk scope) kx && chk v (c.blk scope) vx
  | _, _, _ => false
def chks : CEs → Cc → List Expr → Bool
  | .nil, _, [] => true
  | .cons e r, c, x :: xs => noStar x && chk e c x && chks r c xs
  | _, _, _ => false
def chkO : CO → Cc → Option Expr → Bool
  | .no, _, none => true
  | .one e, c, some x => chk e c x
  | _, _, _ => false
def chkT : CT → Cc → List Expr → Bool
  | .no, _, [] => true
  | .one e, c, [x] => chk e c x
  | _, _, _ => false
def chkI : CI → Cc → Expr → Expr → Bool
  | .seq e, c, _, x => chk e c x
  | .range1 e, c, _, .Call (.Name f _) [x] [] _ => decide (f = "range") && c.gl f && c.bl.contains f && noStar x && chk e c x
  | .range2 e e2, c, _, .Call (.Name f _) [x, y] [] _ => decide (f = "range") && c.gl f && c.bl.contains f && noStar x && noStar y && chk e c x && chk e2 c y
  | .enum e, c, .Tuple _ _ _, .Call (.Name f _) [x] [] _ => decide (f = "enumerate") && c.gl f && c.bl.contains f && noStar x && chk e c x
  | .zip e e2, c, .Tuple _ _ _, .Call (.Name f _) [x, y] [] _ => decide (f = "zip") && c.gl f && c.bl.contains f && noStar x && noStar y && chk e c x && chk e2 c y
  | _, _, _, _ => false
end
/-- the stores of (a, b) = x, y are turned about: both sides written, all plain locals on one line, not all constants -/
def swp (c : Cc) (ts vs : List Expr) (names : List Str) : Bool :=
  c.isFn && (ts.length == 2 || ts.length == 3) && vs.length == ts.length && vs.all noStar && ts.all (fun t => match t with | .Name id pos => c.isLocal id && (pos.line == (ts.head?.map (·.pos.line)).getD 0) | _ => false) &&
    decide (names = ts.filterMap fun t => match t with | .Name id _ => some id | _ => none) && decide (names.eraseDups.length = names.length) && !(vs.all (foldedForSure 8)) && !(vs.all (constantsAlone 8))
/-- .. or they are not -/
def noSwp (tg e : Expr) : Bool := noTup e || (match tg with | .Tuple ts _ _ => !(ts.length == 2 || ts.length == 3) | _ => false)
mutual
def chkS : CS → Cc → Stmt → Bool
  | .expr e, c, .Expr x _ => noComp x && chk e c x
  | .ret e, c, .Return (some x) _ => chk e c x
  | .retn, _, .Return none _ => true
  | .set i e, c, .Assign [.Name x _] y _ => decide (c.N[i]? = some x) && c.loc x && (c.fn x || c.isLocal x) && (noComp y || !c.isLocal x) && chk e c y
  | .setlc i _ vs g it t e, c, .Assign [.Name x px] (.ListComp elt [⟨tg, iter, ifs, a⟩] scope pos) _ =>
    decide (c.N[i]? = some x) && c.isLocal x && c.isFn && (px.line == pos.line) && !(scope.names.any fun (n, k) => n == x && (k == .local || k == .cell)) &&
    (a == 0) && blkC c.N c.sc scope vs && noSet iter && (gslots g).all (fun i => (vs.map (·.2)).contains i) && (!it.tk || isTupG g) &&
    chkI it c tg iter && chkG g (c.blk scope) tg && chkT t (c.blk scope) ifs && chk e (c.blk scope) elt
  | .setg g e, c, .Assign [tg] y _ => isTupG g && chkG g c tg && noComp y && noSwp tg y && chk e c y
  | .par i j a b, c, .Assign [.Tuple [.Name x px, .Name y py] _ _] (.Tuple [u, v] _ _) _ => decide (c.N[i]? = some x) && decide (c.N[j]? = some y) && decide (i ≠ j) && noStar u && noStar v && swp c [.Name x px, .Name y py] [u, v] [x, y] && chk a c u && chk b c v
  | .par3 i j l a b d, c, .Assign [.Tuple [.Name x px, .Name y py, .Name z pz] _ _] (.Tuple [u, v, w] _ _) _ => decide (c.N[i]? = some x) && decide (c.N[j]? = some y) && decide (c.N[l]? = some z) && decide (i ≠ j) && decide (i ≠ l) && decide (j ≠ l) &&
    noStar u && noStar v && noStar w && swp c [.Name x px, .Name y py, .Name z pz] [u, v, w] [x, y, z] && chk a c u && chk b c v && chk d c w
  | .setix o i e, c, .Assign [.Subscript x y _] z _ => noSlice y && noComp z && chk o c x && chk i c y && chk e c z
  | .aug i o e, c, .AugAssign (.Name x _) o' y _ => decide (o = o') && okAug o && decide (c.N[i]? = some x) && c.loc x && (c.fn x || c.isLocal x) && chk e c y
  | .ifs t a b, c, .If t' x y _ => chk t c t' && chkSs a c x && chkSs b c y
  | .for_ g it b, c, .For tg iter body [] _ => noSet iter && (!it.tk || isTupG g) && chkI it c tg iter && chkG g c tg && chkSs b c body
  | .forkeys g i b, c, .For tg (.Name x _) body [] _ => decide (c.N[i]? = some x) && c.vis x && okName x && chkG g c tg && chkSs b c body
  | .while_ t b, c, .While t' body [] _ => chk t c t' && chkSs b c body
  | .pass, _, .Pass _ => true
  | .brk, _, .Break _ => true
  | .cont, _, .Continue _ => true
  | _, _, _ => false
def chkSs : CSs → Cc → List Stmt → Bool
  | .nil, _, [] => true
  | .cons s r, c, x :: xs => chkS s c x && chkSs r c xs
  | .frz _ r, c, xs => chkSs r c xs
  | _, _, _ => false
end
end DL
set_option Elab.async false
set_option linter.all false
set_option maxRecDepth 100000
set_option maxHeartbeats 1000000
/-! DL9: the check is sound: expressions. -/
namespace DL
open PySem L2

theorem Vals.getI {zs : List V} {ws : List Value} (r : Vals zs ws) (i : Nat) : (∃ v u, zs[i]? = some v ∧ ws[i]? = some u ∧ RelV v u) ∨ (zs[i]? = none ∧ ws[i]? = none) := by
  cases e : zs[i]? with
  | none => exact .inr ⟨rfl, r.none_of e⟩
  | some v => obtain ⟨u, h1, h2⟩ := r.get e; exact .inl ⟨v, u, rfl, h1, h2⟩
theorem permV_rel {vs : List V} {us : List Value} {zs : List V} {ws : List Value} (r : Vals zs ws) : ∀ perm : List Nat, Vals (permV perm vs zs) (permV perm us ws)
  | [] => .nil
  | i :: p => by
    unfold permV
    rcases Vals.getI r i with ⟨v, u, e1, e2, rv⟩ | ⟨e1, e2⟩
    · rw [List.filterMap_cons_some e1, List.filterMap_cons_some e2]; exact .cons rv (permV_rel (vs := vs) (us := us) r p)
    · rw [List.filterMap_cons_none e1, List.filterMap_cons_none e2]; exact permV_rel (vs := vs) (us := us) r p
theorem permD_rel {W : Wd} {F : Hp} {zs : List D} {ws : List V} (r : Rps W F zs ws) : ∀ perm : List Nat, Rps W F (permV perm [] zs) (permV perm [] ws)
  | [] => .nil
  | i :: p => by
    unfold permV
    cases e : zs[i]? with
    | none =>
      have e2 : ws[i]? = none := by
        have := List.getElem?_eq_none_iff.mp e
        exact List.getElem?_eq_none_iff.mpr (by rw [← r.length]; exact this)
      rw [List.filterMap_cons_none e, List.filterMap_cons_none e2]; exact permD_rel r p
    | some d =>
      obtain ⟨u, h1, h2⟩ := r.get e
      rw [List.filterMap_cons_some e, List.filterMap_cons_some h1]; exact .cons h2 (permD_rel r p)

structure Ok (W : Wd) (T : Tb) (X : Cx) (c : Cc) : Prop where
  K : X.K = W.K
  sc : X.env.scope = c.sc
  N : X.N = c.N
  nd : c.N.Nodup
  calm : X.calm = true
  hu : X.A.units + 64 < cLine
  fnm : ∀ x, c.fn x = true → X.fn x = true
  xe : X.xe = fun _ _ => False
  fns : ∀ j f n sp, T.fn j = some (n, sp) → c.fns[j]? = some f → ∃ k a fd ps, FnOk X.prog X.w X.K X.mg X.base CX0 k a fd ps (LSp W n sp) ∧ Room k X.A ∧ X.mg f = some (.ref a) ∧ PySem.W.keepIn X.K (.ref a) = true ∧ Binds X.K fd ps [] ∧
    ∀ kp ∈ T.kw j, KBn X.K fd ps 0 kp.1 (permV kp.2) (permV kp.2)
  glb : ∀ j x d, T.glb j = some d → c.gls[j]? = some x → ∃ u v, X.mg x = some u ∧ RelV v u ∧ ∀ F, Rp W F d v
  blt : ∀ x, c.bl.contains x = true → X.mg x = none
section
variable {W : Wd} {T : Tb} {X : Cx} {c : Cc}
theorem Ok.blk (h : Ok W T X c) (s : Shared) (H : Hp) (scope : Scope) (cl : List (Str × Addr)) (C : Addr) (fp : List Addr) : Ok W T (X.blk s H scope (compEnvC scope cl C X.env) fp) (c.blk scope) :=
  ⟨h.K, by show relS scope X.env.scope = relS scope c.sc; rw [h.sc], h.N, h.nd, h.calm, h.hu, fun x z => z, rfl, h.fns, h.glb, h.blt⟩
theorem Ok.hu1 (h : Ok W T X c) : X.A.units + 1 < cLine := Nat.lt_of_le_of_lt (Nat.add_le_add_left (by decide) _) h.hu
theorem Ok.gl (h : Ok W T X c) {x : Str} (g : c.gl x = true) : Gl X x := by
  unfold Cc.gl at g
  show X.env.scope.names.lookup x = some .globalImplicit
  rw [h.sc]
  split at g
  · assumption
  · cases g
theorem Ok.vis (h : Ok W T X c) {x : Str} (g : c.vis x = true) : Vis X.env.scope x := by
  unfold Cc.vis at g
  rw [h.sc]
  split at g
  · exact .inl (by assumption)
  · exact .inr (.inl (by assumption))
  · exact .inr (.inr (by assumption))
  · cases g
theorem Ok.loc (h : Ok W T X c) {x : Str} (g : c.loc x = true) : Loc X.env.scope x := by
  unfold Cc.loc at g
  rw [h.sc]
  split at g
  · exact .inl (by assumption)
  · exact .inr (by assumption)
  · cases g
theorem Ok.isLocal (h : Ok W T X c) {x : Str} (g : c.isLocal x = true) : X.env.scope.names.lookup x = some .local := by
  unfold Cc.isLocal at g
  rw [h.sc]
  split at g
  · assumption
  · cases g
theorem Ok.isFn (h : Ok W T X c) (g : c.isFn = true) : X.env.scope.kind = .function := by
  unfold Cc.isFn at g
  rw [h.sc]
  split at g
  · assumption
  · cases g
theorem Ok.fnl (h : Ok W T X c) {x : Str} (g : (c.fn x || c.isLocal x) = true) : X.fn x = true ∨ X.env.scope.names.lookup x = some .local := by
  rw [Bool.or_eq_true] at g
  rcases g with g | g
  · exact .inl (h.fnm x g)
  · exact .inr (h.isLocal g)
end
theorem okName_is {x : Str} (h : okName x = true) : (x == ("__debug__" : Str)) = false ∧ (x == ("__classdict__" : Str)) = false ∧ x ≠ "__name__" := by
  unfold okName at h
  simp only [Bool.and_eq_true, Bool.not_eq_true', decide_eq_true_eq] at h
  exact ⟨h.1.1, h.1.2, h.2⟩

section
variable (W : Wd) (T : Tb)
structure SE1 (X : Cx) (e : Expr) (d : DV) : Prop where
  v : PE X e (LE W d.v)
  t : PT X e (LT W d.t)
  w : ∀ o es pos, e = .BoolOp o es pos → PW X e (LT W d.t)
def SE (ce : CE) : Prop := ∀ X c e, Ok W T X c → chk ce c e = true → SE1 W X e (den T ce)
def SEs (ces : CEs) : Prop := ∀ X c es, Ok W T X c → chks ces c es = true → PA X es (LA W (dens T ces)) ∧ es.all noStar = true
def SO (co : CO) : Prop := ∀ X c e, Ok W T X c → chkO co c e = true → PO X e (LO W (denO T co))
def ST (ct : CT) : Prop := ∀ X c es, Ok W T X c → chkT ct c es = true → PTs X es (LT W (denT T ct))
def SI (ci : CI) : Prop := ∀ X c tg e, Ok W T X c → chkI ci c tg e = true → PI X tg e (LI W ci.tk (denI T ci))
end
section
variable {W : Wd} {T : Tb} {X : Cx} {c : Cc}
/-- an expression whose test is its value's truth -/
theorem SE1.of {e : Expr} {d : DE} (ok : Ok W T X c) (h : PE X e (LE W d)) (p : plainT e = true) : SE1 W X e (.of d) :=
  ⟨h, lt_truth ok.K h (plainT_is p), fun o es pos z => by subst z; cases p⟩

/-! ### targets -/
theorem assignEach_len {env : Env} : ∀ {es : List Expr}, es.all noStar = true → (assignEach es env).length = es.length ∧ (assignEach es env).findIdx? (·.1) = none
  | [], _ => ⟨rfl, rfl⟩
  | e :: es, h => by
    simp only [List.all_cons, Bool.and_eq_true] at h
    obtain ⟨h1, h2⟩ := assignEach_len (env := env) h.2
    have e2 : assignEach (e :: es) env = (false, assign e env) :: assignEach es env := by cases e <;> first | rfl | (cases h.1)
    rw [e2]
    refine ⟨by rw [List.length_cons, List.length_cons, h1], ?_⟩
    rw [List.findIdx?_cons, h2]
    rfl
theorem assignEach_map {env : Env} {e : Expr} {es : List Expr} (h : noStar e = true) : (assignEach (e :: es) env).map (·.2) = assign e env :: (assignEach es env).map (·.2) := by
  cases e <;> first | rfl | (cases h)
theorem chkGs_len : ∀ {gs : CGs} {es : List Expr}, chkGs gs c es = true → glen gs = es.length
  | .nil, [], _ => rfl
  | .nil, _ :: _, h => by cases h
  | .cons _ _, [], h => by cases h
  | .cons g r, e :: es, h => by
    have h : (chkG g c e && chkGs r c es) = true := h
    simp only [Bool.and_eq_true] at h
    show glen r + 1 = es.length + 1
    rw [chkGs_len h.2]
theorem chkG_star : ∀ {g : CG} {e : Expr}, chkG g c e = true → noStar e = true
  | .slot _, e, h => by cases e <;> first | rfl | (cases h)
  | .tup _, e, h => by cases e <;> first | rfl | (cases h)
mutual
theorem sG (ok : Ok W T X c) : ∀ {g : CG} {e : Expr}, chkG g c e = true → PG X e (LG W g)
  | .slot i, e, h => by
    cases e <;> first | (cases h; done) | skip
    rename_i x p
    have h : (decide (c.N[i]? = some x) && c.loc x && (c.fn x || c.isLocal x)) = true := h
    simp only [Bool.and_eq_true, decide_eq_true_eq] at h
    exact lg_name (by rw [ok.N]; exact ok.nd) (by rw [ok.N]; exact h.1.1) (ok.loc h.1.2) (ok.fnl h.2)
  | .tup gs, e, h => by
    cases e <;> first | (cases h; done) | skip
    rename_i es k p
    have h : (es.all noStar && chkGs gs c es) = true := h
    simp only [Bool.and_eq_true] at h
    obtain ⟨h1, h2⟩ := assignEach_len (env := X.env) h.1
    exact lg_tup ok.calm ok.K (sGs ok h.2) (by rw [h1, chkGs_len h.2]) h2
theorem sGs (ok : Ok W T X c) : ∀ {g : CGs} {es : List Expr}, chkGs g c es = true → PGs X es (LGs W g)
  | .nil, [], _ => lgs_nil
  | .nil, _ :: _, h => by cases h
  | .cons _ _, [], h => by cases h
  | .cons g r, e :: es, h => by
    have h : (chkG g c e && chkGs r c es) = true := h
    simp only [Bool.and_eq_true] at h
    exact lgs_cons (sG ok h.1) (sGs ok h.2) (assignEach_map (chkG_star h.1))
end

/-! ### one lemma a construct -/
theorem se_slot {i : Nat} : SE W T (.slot i) := fun X c e ok h => by
  cases e <;> first | (cases h; done) | skip
  rename_i x p
  have h : (decide (c.N[i]? = some x) && c.vis x && okName x) = true := h
  simp only [Bool.and_eq_true, decide_eq_true_eq] at h
  obtain ⟨n1, n2, _⟩ := okName_is h.2
  exact .of ok (le_var (by rw [ok.N]; exact h.1.1) (ok.vis h.1.2) n1 n2) rfl
theorem se_int {i : Int} : SE W T (.int i) := fun X c e ok h => by
  cases e <;> first | (cases h; done) | skip
  rename_i k n p
  cases k <;> first | (cases h; done) | skip
  cases of_decide_eq_true h
  exact .of ok (le_const pe_int fun _ => .int _) rfl
theorem se_bl {i : Bool} : SE W T (.bl i) := fun X c e ok h => by
  cases e <;> first | (cases h; done) | skip
  rename_i k n p
  cases k <;> first | (cases h; done) | skip
  cases of_decide_eq_true h
  exact .of ok (le_const pe_bl fun _ => .bl _) rfl
theorem se_non : SE W T .non := fun X c e ok h => by
  cases e <;> first | (cases h; done) | skip
  rename_i k n p
  cases k <;> first | (cases h; done) | skip
  exact .of ok (le_const pe_non fun _ => .non) rfl
theorem se_str {i : Str} : SE W T (.str i) := fun X c e ok h => by
  cases e <;> first | (cases h; done) | skip
  rename_i k n p
  cases k <;> first | (cases h; done) | skip
  cases of_decide_eq_true h
  exact .of ok (le_const pe_str fun _ => .str _) rfl
theorem le_fail {e : Expr} : PE X e (LE W dFail) := ⟨fun pins s σ H Q I ⟨F, P, sd, S, Qd, rs, rl, h, k⟩ => h.elim⟩
theorem se_glb {j : Nat} : SE W T (.glb j) := fun X c e ok h => by
  cases e <;> first | (cases h; done) | skip
  rename_i y p
  have h : (decide (c.gls[j]? = some y) && c.gl y && okName y) = true := h
  simp only [Bool.and_eq_true, decide_eq_true_eq] at h
  obtain ⟨⟨h0, h1⟩, h2⟩ := h
  refine .of ok ?_ rfl
  show PE X _ (LE W (match T.glb j with | some d => dC d | none => dFail))
  cases e : T.glb j with
  | none => exact le_fail
  | some d =>
    obtain ⟨u, v, hm, r, hr⟩ := ok.glb j y d e h0
    exact le_const (pe_glob (ok.gl h1) hm r (okName_is h2).1) hr
theorem se_op {own : Bool} {o : Operator} {a b : CE} (ha : SE W T a) (hb : SE W T b) : SE W T (.op own o a b) := fun X c e ok h => by
  cases e <;> first | (cases h; done) | skip
  rename_i l o' r p
  have h : (decide (o = o') && okBin o && chk a c l && chk b c r) = true := h
  simp only [Bool.and_eq_true, decide_eq_true_eq] at h
  obtain ⟨⟨⟨rfl, h1⟩, h2⟩, h3⟩ := h
  have pa := (ha X c l ok h2).v
  have pb := (hb X c r ok h3).v
  refine .of ok ?_ rfl
  cases o <;> first | (cases h1; done) | skip
  · exact le_op (op := .Add) op_addA (by rw [ok.K]; exact ok_add) pa pb
  · exact le_op (op := .Sub) op_sub ok_sub pa pb
  · exact le_op (op := .Mult) op_mulA ok_mul pa pb
  · exact le_op (op := .Mod) op_mod ok_int pa pb
  · exact le_op (op := .Pow) op_pow ok_int pa pb
  · exact le_op (op := .FloorDiv) op_fdivW ok_int pa pb
theorem se_neg {a : CE} (ha : SE W T a) : SE W T (.neg a) := fun X c e ok h => by
  cases e <;> first | (cases h; done) | skip
  rename_i o l p
  cases o <;> first | (cases h; done) | skip
  exact .of ok (le_un un_neg ok_neg (ha X c l ok h).v) rfl
theorem ok_inD {neg : Bool} : R2Ok W (fun y x H Q => ∃ a o, x = .ref a ∧ DGet H a y o ∧ Q (.bl (if neg = true then !o.isSome else o.isSome)) H) (fInD neg) := by
  intro F P S H dx dy x y Qd Q rs rx ry h k
  unfold fInD at h
  split at h
  · rename_i kvs kk e1 e2
    obtain ⟨a, ws, rfl, h1, r1⟩ := asD_ok rs ry e1
    cases keyD_ok rx e2
    refine ⟨a, _, rfl, DGet.rd h1, k F S H _ _ (Le.refl F) rs ?_ h⟩
    rw [dget_some r1]
    exact .bl _
  · exact h.elim
theorem cmp_rule (ok : Ok W T X c) (o : CmpOp) : ∃ r : R2, OpR X (compareOp o) r ∧ R2Ok W r (fCmp o) := by
  cases o
  · exact ⟨_, op_eqD ok.hu, by rw [ok.K]; exact ok_eq⟩
  · exact ⟨_, op_neD ok.hu, by rw [ok.K]; exact ok_ne⟩
  · exact ⟨_, op_lt, ok_lt⟩
  · exact ⟨_, op_le, ok_le⟩
  · exact ⟨_, op_gt, ok_gt⟩
  · exact ⟨_, op_ge, ok_ge⟩
  · exact ⟨_, op_isA, ok_is⟩
  · exact ⟨_, op_isNotA, ok_isNot⟩
  · exact ⟨_, op_inD ok.hu1, ok_inD (neg := false)⟩
  · exact ⟨_, op_notInD ok.hu1, ok_inD (neg := true)⟩
theorem se_cmp {o : CmpOp} {a b : CE} (ha : SE W T a) (hb : SE W T b) : SE W T (.cmp o a b) := fun X c e ok h => by
  cases e <;> first | (cases h; done) | skip
  rename_i l ops rs pos
  rcases ops with _ | ⟨o', _ | ⟨_, _⟩⟩ <;> rcases rs with _ | ⟨r, _ | ⟨_, _⟩⟩ <;> first | (cases h; done) | skip
  have h : (decide (o = o') && noSet r && chk a c l && chk b c r) = true := h
  simp only [Bool.and_eq_true, decide_eq_true_eq] at h
  obtain ⟨⟨⟨rfl, h1⟩, h2⟩, h3⟩ := h
  obtain ⟨r, ho, hr⟩ := cmp_rule ok o
  have pa := (ha X c _ ok h2).v
  have pb := (hb X c _ ok h3).v
  exact ⟨le_cmp ho hr pa pb (noSet_mark h1), lt_cmp ho hr pa pb (noSet_mark h1), fun _ _ _ z => nomatch z⟩
theorem se_chain {o o2 : CmpOp} {a b d : CE} (ha : SE W T a) (hb : SE W T b) (hd : SE W T d) : SE W T (.chain o o2 a b d) := fun X c e ok h => by
  cases e <;> first | (cases h; done) | skip
  rename_i l ops rs pos
  rcases ops with _ | ⟨o', _ | ⟨o2', _ | ⟨_, _⟩⟩⟩ <;> rcases rs with _ | ⟨r, _ | ⟨r2, _ | ⟨_, _⟩⟩⟩ <;> first | (cases h; done) | skip
  have h : (decide (o = o') && decide (o2 = o2') && noSet r2 && chk a c l && chk b c r && chk d c r2) = true := h
  simp only [Bool.and_eq_true, decide_eq_true_eq] at h
  obtain ⟨⟨⟨⟨⟨rfl, rfl⟩, h1⟩, h2⟩, h3⟩, h4⟩ := h
  obtain ⟨_, ho, hr⟩ := cmp_rule ok o
  obtain ⟨_, ho2, hr2⟩ := cmp_rule ok o2
  have pa := (ha X c _ ok h2).v
  have pb := (hb X c _ ok h3).v
  have pd := (hd X c _ ok h4).v
  have m : lastMarks [o, o2] [r, r2] = false := by
    show behindInMarks o2 r2 = false
    exact noSet_mark h1
  exact ⟨le_chain ho ho2 hr hr2 pa pb pd m, lt_chain ho ho2 hr hr2 pa pb pd m, fun _ _ _ z => nomatch z⟩
theorem se_not {a : CE} (ha : SE W T a) : SE W T (.not a) := fun X c e ok h => by
  cases e <;> first | (cases h; done) | skip
  rename_i o l p
  cases o <;> first | (cases h; done) | skip
  have s := ha X c l ok h
  exact ⟨le_not s.v, lt_not s.t, fun _ _ _ z => nomatch z⟩
theorem se_and {a b : CE} (ha : SE W T a) (hb : SE W T b) : SE W T (.and a b) := fun X c e ok h => by
  cases e <;> first | (cases h; done) | skip
  rename_i o es p
  cases o <;> first | (cases h; done) | skip
  rcases es with _ | ⟨x, _ | ⟨y, r⟩⟩ <;> first | (cases h; done) | skip
  have h : (chk a c x && chk b c (.BoolOp .And (y :: r) p)) = true := h
  simp only [Bool.and_eq_true] at h
  have s1 := ha X c x ok h.1
  have s2 := hb X c _ ok h.2
  have w := lw_and s1.t (s2.w _ _ _ rfl)
  exact ⟨le_and s1.v s2.v, w.pt, fun _ _ _ _ => w⟩
theorem se_or {a b : CE} (ha : SE W T a) (hb : SE W T b) : SE W T (.or a b) := fun X c e ok h => by
  cases e <;> first | (cases h; done) | skip
  rename_i o es p
  cases o <;> first | (cases h; done) | skip
  rcases es with _ | ⟨x, _ | ⟨y, r⟩⟩ <;> first | (cases h; done) | skip
  have h : (chk a c x && chk b c (.BoolOp .Or (y :: r) p)) = true := h
  simp only [Bool.and_eq_true] at h
  have s1 := ha X c x ok h.1
  have s2 := hb X c _ ok h.2
  have w := lw_or s1.t (s2.w _ _ _ rfl)
  exact ⟨le_or s1.v s2.v, w.pt, fun _ _ _ _ => w⟩
theorem se_last {a : CE} (ha : SE W T a) : SE W T (.last a) := fun X c e ok h => by
  cases e <;> first | (cases h; done) | skip
  rename_i o es p
  rcases es with _ | ⟨x, _ | ⟨_, _⟩⟩ <;> first | (cases h; done) | skip
  have s := ha X c x ok h
  have w : PW X (.BoolOp o [x] p) (LT W (den T a).t) := by
    cases o
    · exact pw_and1 s.t
    · exact pw_or1 s.t
  exact ⟨pe_one s.v, w.pt, fun _ _ _ _ => w⟩
theorem se_ite {t a b : CE} (ht : SE W T t) (ha : SE W T a) (hb : SE W T b) : SE W T (.ite t a b) := fun X c e ok h => by
  cases e <;> first | (cases h; done) | skip
  rename_i t' x y p
  have h : (chk t c t' && chk a c x && chk b c y) = true := h
  simp only [Bool.and_eq_true] at h
  exact ⟨le_ite (ht X c _ ok h.1.1).t (ha X c _ ok h.1.2).v (hb X c _ ok h.2).v, ⟨fun pins s σ H Q I ⟨F, P, sd, S, Qd, rs, rl, h, k⟩ => h.elim⟩, fun _ _ _ z => nomatch z⟩
theorem se_tup {es : CEs} (hs : SEs W T es) : SE W T (.tup es) := fun X c e ok h => by
  cases e <;> first | (cases h; done) | skip
  exact .of ok (le_tup (hs X c _ ok h).1) rfl
theorem se_lst {own : Bool} {es : CEs} (hs : SEs W T es) : SE W T (.lst own es) := fun X c e ok h => by
  cases e <;> first | (cases h; done) | skip
  exact .of ok (le_lst (hs X c _ ok h).1) rfl
theorem se_ix {a b : CE} (ha : SE W T a) (hb : SE W T b) : SE W T (.ix a b) := fun X c e ok h => by
  cases e <;> first | (cases h; done) | skip
  rename_i x y p
  have h' : noSlice y = true ∧ chk a c x = true ∧ chk b c y = true := by
    have h : (noSlice y && chk a c x && chk b c y) = true := h
    simp only [Bool.and_eq_true] at h
    exact ⟨h.1.1, h.1.2, h.2⟩
  exact .of ok (le_ix ok.hu1 ok.K (ha X c _ ok h'.2.1).v (hb X c _ ok h'.2.2).v (noSlice_is h'.1)) rfl
theorem se_cut {own : Bool} {a : CE} {lo hi : CO} (ha : SE W T a) (hl : SO W T lo) (hh : SO W T hi) : SE W T (.cut own a lo hi) := fun X c e ok h => by
  cases e <;> first | (cases h; done) | skip
  rename_i x y p
  cases y <;> first | (cases h; done) | skip
  rename_i l u st p2
  cases st <;> first | (cases h; done) | skip
  have h : (chk a c x && chkO lo c l && chkO hi c u) = true := h
  simp only [Bool.and_eq_true] at h
  exact .of ok (le_cut ok.K (ha X c _ ok h.1.1).v (hl X c _ ok h.1.2) (hh X c _ ok h.2)) rfl
theorem ses_nil : SEs W T .nil := fun X c es ok h => by
  cases es with
  | nil => exact ⟨la_nil, rfl⟩
  | cons _ _ => cases h
theorem ses_cons {e : CE} {r : CEs} (he : SE W T e) (hr : SEs W T r) : SEs W T (.cons e r) := fun X c es ok h => by
  cases es with
  | nil => cases h
  | cons x xs =>
    have h : (noStar x && chk e c x && chks r c xs) = true := h
    simp only [Bool.and_eq_true] at h
    have s := hr X c xs ok h.2
    exact ⟨la_cons (he X c x ok h.1.2).v s.1 (star_cons h.1.1), by rw [List.all_cons, h.1.1, s.2]; rfl⟩
theorem so_no : SO W T .no := fun X c e ok h => by
  cases e with
  | none => exact lo_none
  | some _ => cases h
theorem so_one {e : CE} (he : SE W T e) : SO W T (.one e) := fun X c x ok h => by
  cases x with
  | none => cases h
  | some y => exact lo_some (he X c y ok h).v
theorem st_no : ST W T .no := fun X c es ok h => by
  cases es with
  | nil => exact ⟨fun pins s σ H Q I ⟨F, P, sd, S, Qd, rs, rl, h, k⟩ => pts_nil.run pins s σ H Q I (k F S H true (Le.refl F) rs h)⟩
  | cons _ _ => cases h
theorem st_one {e : CE} (he : SE W T e) : ST W T (.one e) := fun X c es ok h => by
  rcases es with _ | ⟨x, _ | ⟨_, _⟩⟩ <;> first | (cases h; done) | skip
  exact pts_one (he X c x ok h).t
theorem se_call {j : Nat} {es : CEs} (hs : SEs W T es) : SE W T (.call j es) := fun X c e ok h => by
  cases e <;> first | (cases h; done) | skip
  rename_i g args kws p
  cases g <;> first | (cases h; done) | skip
  cases kws <;> first | (cases h; done) | skip
  rename_i x xp
  have h : (decide (c.fns[j]? = some x) && c.gl x && okName x && chks es c args) = true := h
  simp only [Bool.and_eq_true, decide_eq_true_eq] at h
  obtain ⟨⟨⟨h0, h1⟩, h2⟩, h3⟩ := h
  have s := hs X c args ok h3
  refine .of ok ?_ rfl
  show PE X _ (LE W (match T.fn j with | some (n, sp) => dCall (guardN n sp) (dens T es) | none => dFail))
  cases e : T.fn j with
  | none => exact le_fail
  | some ns =>
    obtain ⟨n, sp⟩ := ns
    obtain ⟨k, a, fd, ps, G, hr, hm, hk, hb, _⟩ := ok.fns j x n sp e h0
    cases args with
    | nil =>
      cases es with
      | nil => exact le_call0 G hr (ok.gl h1) hm hk hb (okName_is h2).1
      | cons _ _ => cases h3
    | cons x xs =>
      have al := s.2
      simp only [List.all_cons, Bool.and_eq_true] at al
      exact le_call G hr (ok.gl h1) hm hk hb s.1 (okName_is h2).1 (star_cons al.1) (star_plain al.2)
end
end DL
set_option Elab.async false
set_option linter.all false
set_option maxRecDepth 100000
set_option maxHeartbeats 1000000
/-! DL10: the check is sound: calls, comprehensions, sources; all expressions. -/
namespace DL
open PySem L2
section
variable {X : Cx}
theorem kw_some {pos : Pos} {env : Env} : ∀ {kws : List Keyword} {ks : List Str}, kws.map (·.arg) = ks.map some →
    ((backToKw pos (keywordEach kws env)).all (·.1.isSome)) = true ∧ (backToKw pos (keywordEach kws env)).filterMap (·.1) = ks ∧ (backToKw pos (keywordEach kws env)).any (·.1.isNone) = false
  | [], [], _ => ⟨rfl, rfl, rfl⟩
  | [], _ :: _, h => by cases h
  | _ :: _, [], h => by cases h
  | ⟨a, v, p⟩ :: kws, k :: ks, h => by
    have h1 : a = some k := (List.cons.inj h).1
    have h2 := (List.cons.inj h).2
    subst h1
    obtain ⟨e1, e2, e3⟩ := kw_some (pos := pos) (env := env) h2
    have u : keywordEach (⟨some k, v, p⟩ :: kws) env = (some k, eval v env) :: keywordEach kws env := by rfl
    rw [u]
    have w : backToKw pos ((some k, eval v env) :: keywordEach kws env) = (some k, do let x ← eval v env; standAt pos; pure x) :: backToKw pos (keywordEach kws env) := rfl
    rw [w]
    refine ⟨?_, ?_, ?_⟩
    · rw [List.all_cons, e1]; rfl
    · show k :: List.filterMap _ _ = _
      rw [e2]
    · rw [List.any_cons, e3]; rfl
theorem pe_callK0 {k : Nat} {f : Addr} {fd : FuncData} {ps ks : List Str} {sp : Sp} {x : Str} {p pos : Pos} {kws : List Keyword} {tk : TA} {g : List Value → List Value → List Value} {gV : List V → List V → List V}
    (F : FnOk X.prog X.w X.K X.mg X.base CX0 k f fd ps sp) (hr : Room k X.A) (hg : Gl X x) (hm : X.mg x = some (.ref f)) (hk : PySem.W.keepIn X.K (.ref f) = true) (hb : KBn X.K fd ps 0 ks g gV)
    (hkw : PK X kws tk) (hks : kws.map (·.arg) = ks.map some) (hdb : (x == ("__debug__" : Str)) = false) :
    PE X (.Call (.Name x p) [] kws pos) (fun σ H Q => tk σ H fun zs H1 => zs.length = ks.length ∧ sp (gV [] zs) H1 Q E0) := by
  obtain ⟨e1, e2, e3⟩ := kw_some (pos := pos) (env := X.env) hks
  refine ⟨fun pins s σ H Q I h => ?_⟩
  refine wpAny_Call_Name_kw (ld_glob I hg hm ?_ hdb)
  refine PySem.W.callWith_KW0 (h₀ := X.base) I.ok.mod.kin hk e1 (thn (hkw.run pos pins s σ H _ I h) fun ws s2 ⟨zs, H2, I2, rz, l2, q2⟩ => ⟨I2.kIn, ?_⟩) (by rw [e3]; rfl)
  rw [e2]
  exact run_fnN (us := []) (vs := []) F hr hb pass0 I2 .nil rz rfl l2 q2
end
/-- the values of keywords, as expressions of one's own -/
inductive AllSE (W : Wd) (T : Tb) : CEs → Prop
  | nil : AllSE W T .nil
  | cons {e : CE} {r : CEs} (h : SE W T e) (t : AllSE W T r) : AllSE W T (.cons e r)
section
variable {W : Wd} {T : Tb}
theorem pk_all {X : Cx} {c : Cc} (ok : Ok W T X c) : ∀ {es : CEs}, AllSE W T es → ∀ {kws : List Keyword}, chks es c (kws.map (·.value)) = true → PK X kws (LA W (dens T es)) := by
  intro es a
  induction a with
  | nil =>
    intro kws h
    cases kws with
    | nil => exact ⟨fun pos pins s σ H Q I q => (pk_nil (X := X)).run pos pins s σ H Q I (by obtain ⟨F, P, sd, S, Qd, rs, rl, h, k⟩ := q; exact k F S H _ _ (Le.refl F) rs .nil h)⟩
    | cons _ _ => cases h
  | @cons e es he _ ih =>
    intro kws h
    cases kws with
    | nil => cases h
    | cons kw r =>
      obtain ⟨nm, v, kp⟩ := kw
      have h : (noStar v && chk e c v && chks es c (r.map (·.value))) = true := h
      simp only [Bool.and_eq_true] at h
      have h1 := (he X c v ok h.1.2).v
      have h2 := ih h.2
      exact ⟨fun pos pins s σ Hh Q I ⟨F, P, sd, S, Qd, rs, rl, q, k⟩ => (pk_cons (nm := nm) (kpos := kp) h1 h2).run pos pins s σ Hh Q I ⟨F, P, sd, S, _, rs, rl, q, fun F1 S1 H1 d v l1 rs1 rv q1 =>
        ⟨F1, P, sd, S1, _, rs1, rl.mono l1, q1, fun F2 S2 H2 ds vs l2 rs2 rvs q2 => k F2 S2 H2 _ _ (l1.trans l2) rs2 (.cons (rv.mono l2) rvs) q2⟩⟩⟩
theorem AllSE.ses {es : CEs} (a : AllSE W T es) : SEs W T es := by
  induction a with
  | nil => exact ses_nil
  | cons h _ ih => exact ses_cons h ih

theorem se_callk {j : Nat} {ks : List Str} {perm : List Nat} {es : CEs} (hs : AllSE W T es) : SE W T (.callk j ks perm es) := fun X c e ok h => by
  cases e <;> first | (cases h; done) | skip
  rename_i g args kws p
  cases g <;> first | (cases h; done) | skip
  cases args <;> first | (cases h; done) | skip
  rename_i x xp
  have h : (decide (c.fns[j]? = some x) && c.gl x && okName x && decide (kws.map (·.arg) = ks.map some) && chks es c (kws.map (·.value))) = true := h
  simp only [Bool.and_eq_true, decide_eq_true_eq] at h
  obtain ⟨⟨⟨⟨h0, h1⟩, h2⟩, h3⟩, h4⟩ := h
  have pk := pk_all ok hs h4
  refine .of ok ?_ rfl
  show PE X _ (LE W (match T.fn j with | some (n, sp) => if (T.kw j).contains (ks, perm) = true then dCall (fun ds S Q => ds.length = ks.length ∧ guardN n sp (permV perm [] ds) S Q) (dens T es) else dFail | none => dFail))
  cases e : T.fn j with
  | none => exact le_fail
  | some ns =>
    obtain ⟨n, sp⟩ := ns
    obtain ⟨k, a, fd, ps, G, hr, hm, hk, hb, hkb⟩ := ok.fns j x n sp e h0
    show PE X _ (LE W (if (T.kw j).contains (ks, perm) = true then _ else dFail))
    split
    · rename_i hc
      have hb0 := hkb (ks, perm) (List.contains_iff_mem.mp hc)
      refine (pe_callK0 G hr (ok.gl h1) hm hk hb0 pk h3 (okName_is h2).1).mono fun σ H Q ⟨F, P, sd, S, Qd, rs, rl, q, k⟩ => ?_
      refine ⟨F, P, sd, S, _, rs, rl, q, fun F1 S1 H1 ds vs l1 rs1 rr q1 => ⟨rr.length.symm.trans q1.1, ?_⟩⟩
      exact ⟨F1, P, _, S1, Qd, rs1, permD_rel rr perm, q1.2.1, q1.2.2, k.le l1⟩
    · exact le_fail
theorem blt_rule {X : Cx} {c : Cc} (ok : Ok W T X c) (own : Bool) (b : Blt) : ∃ r, CallR X (if b.isTy = true then .type b.name else .builtin b.name) r ∧ RAOk W r (fBlt own b) := by
  cases b
  · exact ⟨_, cr_len, by rw [ok.K]; exact ok_len⟩
  · exact ⟨_, call_abs, ok_abs⟩
  · exact ⟨_, call_int1, ok_int1⟩
  · exact ⟨_, cr_sum ok.calm, by rw [ok.K]; exact ok_sum⟩
  · exact ⟨_, cr_all ok.calm, by rw [ok.K]; exact ok_all⟩
  · exact ⟨_, cr_any ok.calm, by rw [ok.K]; exact ok_any⟩
  · exact ⟨_, cr_sortA ok.calm, by rw [ok.K]; exact ok_sorted⟩
  · exact ⟨_, cr_tupleP, by rw [ok.K]; exact ok_tuple⟩
  · exact ⟨_, call_list_of, by rw [ok.K]; exact ok_list⟩
  · exact ⟨_, cr_dictA ok.calm, by rw [ok.K]; exact ok_dict⟩
  · exact ⟨_, call_max2 ok.calm, ok_max⟩
  · exact ⟨_, call_min2 ok.calm, ok_min⟩
theorem blt_name (b : Blt) : Str.ofString b.name ≠ "__name__" ∧ (Str.ofString b.name == ("__debug__" : Str)) = false := by cases b <;> decide +kernel
theorem ty_name (b : TyC) : Str.ofString b.name ≠ "__name__" ∧ (Str.ofString b.name == ("__debug__" : Str)) = false := by cases b <;> decide +kernel
theorem se_blt {own : Bool} {b : Blt} {es : CEs} (hs : SEs W T es) : SE W T (.blt own b es) := fun X c e ok h => by
  cases e <;> first | (cases h; done) | skip
  rename_i g args kws p
  cases g <;> first | (cases h; done) | skip
  cases kws <;> first | (cases h; done) | skip
  rename_i x xp
  have h : (decide (x = Str.ofString b.name) && c.gl x && c.bl.contains x && !args.isEmpty && chks es c args) = true := h
  simp only [Bool.and_eq_true, decide_eq_true_eq] at h
  obtain ⟨⟨⟨⟨rfl, h1⟩, h2⟩, h3⟩, h4⟩ := h
  have s := hs X c args ok h4
  refine .of ok ?_ rfl
  cases args with
  | nil => cases h3
  | cons y ys =>
    obtain ⟨r, hc, hr⟩ := blt_rule ok own b
    obtain ⟨n1, n2⟩ := blt_name b
    have al := s.2
    simp only [List.all_cons, Bool.and_eq_true] at al
    have bt := b.boot
    cases e : b.isTy
    · rw [e] at hc bt
      simp only [Bool.false_eq_true, if_false] at hc bt
      exact (pe_callB hc (ok.gl h1) (ok.blt _ h2) bt s.1 n1 n2 (star_cons al.1) (star_plain al.2)).mono (liftA hr)
    · rw [e] at hc bt
      simp only [if_true] at hc bt
      exact (pe_callTy hc (ok.gl h1) (ok.blt _ h2) bt s.1 n1 n2 (star_cons al.1) (star_plain al.2)).mono (liftA hr)
theorem se_isi {t : TyC} {a : CE} (ha : SE W T a) : SE W T (.isi t a) := fun X c e ok h => by
  cases e <;> first | (cases h; done) | skip
  rename_i g args kws p
  cases g <;> first | (cases h; done) | skip
  rename_i f fp
  rcases args with _ | ⟨y, _ | ⟨z, _ | ⟨_, _⟩⟩⟩ <;> first | (cases h; done) | (cases z <;> first | (cases h; done) | skip)
  cases kws <;> first | (cases h; done) | skip
  rename_i x xp
  have h : (decide (f = "isinstance") && c.gl f && c.bl.contains f && decide (x = Str.ofString t.name) && c.gl x && c.bl.contains x && noStar y && chk a c y) = true := h
  simp only [Bool.and_eq_true, decide_eq_true_eq] at h
  obtain ⟨⟨⟨⟨⟨⟨⟨rfl, h1⟩, h2⟩, rfl⟩, h3⟩, h4⟩, h5⟩, h6⟩ := h
  obtain ⟨n1, n2⟩ := ty_name t
  exact .of ok (pe_isi (ok.gl h1) (ok.blt _ h2) (ok.gl h3) (ok.blt _ h4) t.boot n1 n2 t.mem ok.K (ha X c y ok h6).v (star_cons h5)) rfl
theorem asD_IsD {F P H : Hp} {S : Store} {d : D} {v : V} (rs : RS W F P S H) (r : Rp W F d v) (h : (asD S d).isSome = true) : ∃ a, v = .ref a ∧ IsD H a := by
  cases e : asD S d with
  | none => rw [e] at h; cases h
  | some kvs =>
    obtain ⟨a, ws, rfl, h1, _⟩ := asD_ok rs r e
    exact ⟨a, rfl, .inl ⟨ws, h1⟩⟩
theorem se_get1 {o k : CE} (ho : SE W T o) (hk : SE W T k) : SE W T (.get1 o k) := fun X c e ok h => by
  cases e <;> first | (cases h; done) | skip
  rename_i g args kws p
  cases g <;> first | (cases h; done) | skip
  rename_i e m ap
  rcases args with _ | ⟨y, _ | ⟨_, _⟩⟩ <;> first | (cases h; done) | skip
  cases kws <;> first | (cases h; done) | skip
  have h : (decide (m = "get") && noSuper e && noStar y && (ap.endLine == p.line) && chk o c e && chk k c y) = true := h
  simp only [Bool.and_eq_true, decide_eq_true_eq] at h
  obtain ⟨⟨⟨⟨⟨rfl, h1⟩, h2⟩, h3⟩, h4⟩, h5⟩ := h
  have tr : starEach [y] X.env = [(false, eval y X.env)] := star_cons h2
  refine .of ok ((pe_dget1 ok.hu1 (ho X c e ok h4).v (hk X c y ok h5).v ⟨noSuper_is h1, by rw [tr]; rfl, h3, by rw [tr]; rfl⟩).mono fun σ H Q ⟨F, P, sd, S, Qd, rs, rl, q, kt⟩ => ?_) rfl
  refine ⟨F, P, sd, S, _, rs, rl, q, fun F1 S1 H1 dx x l1 rs1 rx q1 => ?_⟩
  obtain ⟨a, rfl, hd⟩ := asD_IsD rs1 rx q1.1
  refine ⟨a, rfl, hd, F1, P, sd, S1, _, rs1, rl.mono l1, q1.2, fun F2 S2 H2 dy y l2 rs2 ry q2 => ?_⟩
  unfold fGet at q2
  split at q2
  · rename_i kvs kk e1 e2
    obtain ⟨b, ws, eb, h1, r1⟩ := asD_ok rs2 (rx.mono l2) e1
    cases eb
    cases keyD_ok ry e2
    refine ⟨_, DGet.rd h1, kt F2 S2 H2 _ _ (l1.trans l2) rs2 ?_ q2⟩
    cases eq : dget kvs kk with
    | none => rw [(dget_ok r1 kk).2 eq]; exact .non
    | some d => obtain ⟨v, h1, h2⟩ := (dget_ok r1 kk).1 d eq; rw [h1]; exact h2
  · exact q2.elim
theorem se_get2 {o k dd : CE} (ho : SE W T o) (hk : SE W T k) (hd : SE W T dd) : SE W T (.get2 o k dd) := fun X c e ok h => by
  cases e <;> first | (cases h; done) | skip
  rename_i g args kws p
  cases g <;> first | (cases h; done) | skip
  rename_i e m ap
  rcases args with _ | ⟨y, _ | ⟨z, _ | ⟨_, _⟩⟩⟩ <;> first | (cases h; done) | skip
  cases kws <;> first | (cases h; done) | skip
  have h : (decide (m = "get") && noSuper e && noStar y && noStar z && (ap.endLine == p.line) && chk o c e && chk k c y && chk dd c z) = true := h
  simp only [Bool.and_eq_true, decide_eq_true_eq] at h
  obtain ⟨⟨⟨⟨⟨⟨⟨rfl, h1⟩, h2⟩, h2b⟩, h3⟩, h4⟩, h5⟩, h6⟩ := h
  have tr1 : starEach [z] X.env = [(false, eval z X.env)] := star_cons h2b
  have tr : starEach [y, z] X.env = [(false, eval y X.env), (false, eval z X.env)] := by rw [star_cons h2, tr1]
  refine .of ok ((pe_dget2 ok.hu1 (ho X c e ok h4).v (hk X c y ok h5).v (hd X c z ok h6).v ⟨noSuper_is h1, by rw [tr]; rfl, h3, by rw [tr]; rfl⟩).mono fun σ H Q ⟨F, P, sd, S, Qd, rs, rl, q, kt⟩ => ?_) rfl
  refine ⟨F, P, sd, S, _, rs, rl, q, fun F1 S1 H1 dx x l1 rs1 rx q1 => ?_⟩
  obtain ⟨a, rfl, hdd⟩ := asD_IsD rs1 rx q1.1
  refine ⟨a, rfl, hdd, F1, P, sd, S1, _, rs1, rl.mono l1, q1.2, fun F2 S2 H2 dy y l2 rs2 ry q2 => ⟨F2, P, sd, S2, _, rs2, (rl.mono l1).mono l2, q2, fun F3 S3 H3 dz z l3 rs3 rz q3 => ?_⟩⟩
  unfold fGet at q3
  split at q3
  · rename_i kvs kk e1 e2
    obtain ⟨b, ws, eb, h1, r1⟩ := asD_ok rs3 ((rx.mono l2).mono l3) e1
    cases eb
    cases keyD_ok ry e2
    refine ⟨_, DGet.rd h1, kt F3 S3 H3 _ _ ((l1.trans l2).trans l3) rs3 ?_ q3⟩
    cases eq : dget kvs kk with
    | none => rw [(dget_ok r1 kk).2 eq]; exact rz
    | some d => obtain ⟨v, h1, h2⟩ := (dget_ok r1 kk).1 d eq; rw [h1]; exact h2
  · exact q3.elim
theorem few_one {X : Cx} {y : Expr} {cpos : Pos} (h : noStar y = true) : ((backTo cpos (starEach [y] X.env)).all (fun x => !x.1) && (backToKw cpos (keywordEach [] X.env)).all (fun x => x.1.isSome)
      && decide (([y] : List Expr).length + ([] : List Keyword).length + (if ([] : List Keyword).isEmpty then 0 else 1) < 30)) = true := by
  rw [star_cons h]; rfl
theorem se_app {o k : CE} (ho : SE W T o) (hk : SE W T k) : SE W T (.app o k) := fun X c e ok h => by
  cases e <;> first | (cases h; done) | skip
  rename_i g args kws p
  cases g <;> first | (cases h; done) | skip
  rename_i e m ap
  rcases args with _ | ⟨y, _ | ⟨_, _⟩⟩ <;> first | (cases h; done) | skip
  cases kws <;> first | (cases h; done) | skip
  have h : (decide (m = "append") && noSuper e && noStar y && (ap.endLine == p.line) && chk o c e && chk k c y) = true := h
  simp only [Bool.and_eq_true, decide_eq_true_eq] at h
  obtain ⟨⟨⟨⟨⟨rfl, h1⟩, h2⟩, h3⟩, h4⟩, h5⟩ := h
  refine .of ok ((pe_bm PySem.F.plainAttrs_list PySem.F.slot_list_append PySem.F.type_list_append mt_append (ho X c e ok h4).v (pa_cons (hk X c y ok h5).v pa_nil (star_cons h2)) (noSuper_is h1) (few_one h2) h3 (star_cons h2) (star_plain (es := []) rfl)).mono fun σ H Q ⟨F, P, sd, S, Qd, rs, rl, q, kt⟩ => ?_) rfl
  refine ⟨F, P, sd, S, _, rs, rl, q, fun F1 S1 H1 dx x l1 rs1 rx q1 => ?_⟩
  have hx := q1.1
  unfold isLs at hx
  split at hx <;> first | (cases hx; done) | skip
  rename_i a
  split at hx <;> first | (cases hx; done) | skip
  rename_i xs es
  cases rx
  obtain ⟨_, u, hu, ro⟩ := rs1.obj _ _ es
  cases ro with
  | lst r0 =>
    refine ⟨.inl ⟨rfl, _, .inl (.inl hu)⟩, F1, P, sd, S1, _, rs1, rl.mono l1, q1.2, fun F2 S2 H2 dy y l2 rs2 ry q2 => ?_⟩
    unfold fApp at q2
    simp only at q2
    split at q2
    · rename_i xs2 es2
      obtain ⟨nF, u2, hu2, ro2⟩ := rs2.obj _ _ es2
      cases ro2 with
      | lst r2 =>
        refine ⟨a, _, y, rfl, rfl, hu2, by rw [← r2.length]; exact q2.1, ?_⟩
        exact kt F2 _ _ _ _ (l1.trans l2) (rs2.wrote es2 (by show (_ ++ [y]).length ≤ sizeLine; rw [List.length_append, ← r2.length]; exact q2.1) (.lst (r2.app (.cons ry .nil)))) .non q2.2
    · exact q2.elim
theorem se_dict0 {own : Bool} : SE W T (.dict0 own) := fun X c e ok h => by
  cases e <;> first | (cases h; done) | skip
  rename_i ks vs p
  cases ks <;> first | (cases h; done) | skip
  cases vs <;> first | (cases h; done) | skip
  exact .of ok (pe_dnewK.mono fun σ H Q ⟨F, P, sd, S, Qd, rs, rl, q, kt⟩ => mkD_ok rs (Nat.zero_le _) .nil q kt) rfl
end
end DL
set_option Elab.async false
set_option linter.all false
set_option maxRecDepth 100000
set_option maxHeartbeats 1000000
/-! DL19: sorted(d.items()), the keys whole numbers. -/
namespace DL
open PySem L2 PyProof.Rows
section
variable {prog : Program} {w : World} {A : Around} {E : Value → Shared → Prop} {s : Shared}
theorem eqb_ref {b : Addr} {Q : Bool → Shared → Prop} (h : Q true s) : wpAny (model prog w) A (eqBool (.ref b) (.ref b)) Q E s := by
  unfold eqBool
  refine wpAny_holding ?_
  have e : (Value.ref b == Value.ref b) = true := by simp
  rw [if_pos e]
  exact wpAny_bind (wpAny_rule (wpAny_pure h))
/-- v is a pair of the whole number i and the thing at b -/
def PairI (h : Heap) (v : Value) (i : Int) (b : Addr) : Prop := ∃ (a : Addr) (o : Obj) (n : Nat) (t : Tok), v = .ref a ∧ h.get? a = some o ∧ o.cls = .type "tuple" ∧ o.data = .seq #[.int i t, .ref b] n
theorem firsts_i {h : Heap} : ∀ vs : List Value, (∀ v ∈ vs, ∃ i b, PairI h v i b) → ∃ fs : List Value, PySem.W.KatTups h vs fs ∧ fs.length = vs.length ∧ ∀ f ∈ fs, ∃ i t, f = Value.int i t
  | [], _ => ⟨[], PySem.W.KatTups.nil, rfl, fun f hf => by simp at hf⟩
  | v :: vs, x => by
    obtain ⟨fs, k, hl, hi⟩ := firsts_i vs fun u hu => x u (List.mem_cons_of_mem _ hu)
    obtain ⟨i, b, a, o, n, t, rfl, ho, hc, hd⟩ := x v List.mem_cons_self
    refine ⟨.int i t :: fs, PySem.W.KatTups.cons ho hc hd rfl k, by rw [List.length_cons, List.length_cons, hl], fun f hf => ?_⟩
    rcases List.mem_cons.mp hf with rfl | hf
    · exact ⟨i, t, rfl⟩
    · exact hi f hf
theorem mem_zs {α : Type} {p : α × α} : ∀ {vs : List α}, p ∈ vs.zip vs → p.1 ∈ vs
  | [], h => by cases h
  | v :: vs, h => by
    rcases List.mem_cons.mp h with rfl | h
    · exact List.mem_cons_self
    · exact List.mem_cons_of_mem _ (mem_zs h)
theorem kind_i {vs : List Value} {r : Value → Int} (h2 : 2 ≤ vs.length) (x : ∀ v ∈ vs, ∃ b, PairI s.heap v (r v) b) (inj : ∀ v ∈ vs, ∀ u ∈ vs, r v = r u → v = u) (Q : SortKind → Shared → Prop)
    (h : ∀ κ, TS.Cmp prog w A s κ (pairsOf vs) r → Q κ s) : wpAny (model prog w) A (keyKind' vs.toArray) Q E s := by
  obtain ⟨fs, k, hl, hi⟩ := firsts_i vs fun v hv => let ⟨b, hb⟩ := x v hv; ⟨r v, b, hb⟩
  refine PySem.W.kat_kind (T := Value.type "int") k (by omega) (fun f hf => ?_) rfl (h _ ?_)
  · obtain ⟨n, t, rfl⟩ := hi f hf
    exact PySem.W.Looks.of_pure rfl
  · intro p q hp hq Q' E' hQ
    rw [pairsOf_toList] at hp hq
    have mp := mem_zs hp
    have mq := mem_zs hq
    obtain ⟨b, a, o, n, t, e1, ho, hc, hd⟩ := x _ mp
    obtain ⟨b', a', o', n', t', e2, ho', hc', hd'⟩ := x _ mq
    have hQ : Q' (decide (r p.1 < r q.1)) s := hQ
    by_cases e : r p.1 = r q.1
    · have epq := inj _ mp _ mq e
      rw [← epq] at e2 hQ
      rw [epq] at e1
      have ea : a = a' := by
        have := (epq ▸ e1 : q.1 = .ref a)
        rw [epq] at e2
        rw [this] at e2
        cases e2; rfl
      subst ea
      rw [ho] at ho'; cases ho'
      rw [hd] at hd'
      rw [epq, e1]
      refine PySem.W.kat_lt ho hd ho hd ?_
      rw [decide_eq_false (Int.lt_irrefl _)] at hQ
      show PySem.W.KatLex prog w A _ (decide (2 < 2)) Q' [(Value.int _ t, Value.int _ t), (Value.ref b, Value.ref b)] 0 s
      refine PySem.W.kat_cons (wpAny_eqBool_int ?_)
      rw [beq_self_eq_true]
      refine PySem.W.kat_yes (PySem.W.kat_cons (eqb_ref ?_))
      exact PySem.W.kat_yes (PySem.W.kat_nil hQ)
    · rw [e1, e2]
      refine PySem.W.kat_lt ho hd ho' hd' ?_
      show PySem.W.KatLex prog w A _ (decide (2 < 2)) Q' [(Value.int (r p.1) t, Value.int (r q.1) t'), (Value.ref b, Value.ref b')] 0 s
      refine PySem.W.kat_cons (wpAny_eqBool_int ?_)
      rw [show (r p.1 == r q.1) = false from beq_eq_false_iff_ne.mpr e]
      exact PySem.W.kat_no (TS.oneLt_ints _ hQ)
end
/-! ### the walk -/
def kI : Key → Int
  | .inl i => i
  | .inr _ => 0
/-- what is behind: a new list l of new pairs ps -/
structure Sorted (H : Hp) (kvs : List (Key × V)) (H' : Hp) (l : Addr) (ps : List (Addr × Key × V)) : Prop where
  keep : ∀ b o, H b = some o → H' b = some o
  perm : (ps.map (·.2)).Perm kvs
  up : ps.Pairwise fun x y => kI x.2.1 ≤ kI y.2.1
  l0 : H l = none
  l1 : H' l = some (.lst (ps.map fun z => V.ref z.1))
  at_ : ∀ z ∈ ps, H z.1 = none ∧ z.1 ≠ l ∧ ∃ o, H' z.1 = some (.frz o (.tup [kV z.2.1, z.2.2])) ∧ o.dict = none
  sz : ∀ b o, H' b = some o → szO o
def rSItems : V → Hp → VK → Prop := fun x H Q => ∃ (d : Addr) (kvs : List (Key × V)), x = .ref d ∧ Rd H d (.dK kvs) ∧ (∀ kv ∈ kvs, ∃ i b, kv = (.inl i, .ref b)) ∧ kvs.length < 64 ∧ (∀ b o, H b = some o → szO o) ∧
  ∀ H' l ps, Sorted H kvs H' l ps → Q (.ref l) H'
theorem pairs_at {P : Program} {w : World} : ∀ {es : List DictEntry} {vs : List (Key × Value)} {j : Nat} {e : DictEntry}, Pairs (mixKind P w) es vs → es[j]? = some e → ∃ k v, vs[j]? = some (k, v) ∧ (mixKind P w).is k e.key = true ∧ e.val = v
  | _, _, _, _, .nil, h => by simp at h
  | _, _, 0, e, .cons h1 h2 t, h => by simp at h; subst h; exact ⟨_, _, rfl, h1, h2⟩
  | _, _, j + 1, e, .cons h1 h2 t, h => by
    obtain ⟨k, v, e1, e2⟩ := pairs_at (j := j) t (by simpa using h)
    exact ⟨k, v, by simpa using e1, e2⟩
theorem szO_of {P : Program} {w : World} {H : Hp} {h : Heap} {a : Addr} (o : HO) : ObjOk P w H h a o → szO o := by
  induction o with
  | lst xs => exact fun k => k.1
  | tup xs => exact fun k => k.1
  | dK xs => exact fun k => k.1
  | frz o u ih => exact fun k => ih k.2
  | _ => intro _; trivial
end DL
set_option Elab.async false
set_option linter.all false
set_option maxRecDepth 100000
set_option maxHeartbeats 1000000
/-! DL20: sorted(d.items()): the walk. -/
namespace DL
open PySem L2 PyProof.Rows
def rkOf (l : List (Addr × Key × V)) : Value → Int
  | .ref a => ((l.find? fun z => decide (z.1 = a)).map fun z => kI z.2.1).getD 0
  | _ => 0
theorem rk_at {l : List (Addr × Key × V)} {z : Addr × Key × V} (hn : (l.map (·.1)).Nodup) (hz : z ∈ l) : rkOf l (.ref z.1) = kI z.2.1 := by
  induction l with
  | nil => cases hz
  | cons y l ih =>
    have hn : (y.1 :: l.map (·.1)).Nodup := hn
    obtain ⟨h1, h2⟩ := List.nodup_cons.mp hn
    show (((y :: l).find? fun q => decide (q.1 = z.1)).map fun q => kI q.2.1).getD 0 = _
    by_cases e : y.1 = z.1
    · rw [List.find?_cons_of_pos (by simpa using e)]
      rcases List.mem_cons.mp hz with rfl | hz
      · rfl
      · exact absurd (by rw [e]; exact List.mem_map_of_mem hz) h1
    · rw [List.find?_cons_of_neg (by simpa using e)]
      rcases List.mem_cons.mp hz with rfl | hz
      · exact absurd rfl e
      · exact ih h2 hz
/-- tuples already laid are tracked, as objects -/
theorem takeF {X : Cx} {pins : List (Addr × Obj)} {σ : L2.St} {H0 : Hp} {s : Shared} {h' : Heap} {tk : Nat} {P : Addr → List V → Prop} (I0 : L2.Inv X pins σ H0 s) : ∀ (L : List Addr) (H1 : Hp), L2.Inv X pins σ H1 { s with heap := h', toks := tk } → L.Nodup →
    (∀ a ∈ L, s.heap.objs.size ≤ a ∧ H1 a = none ∧ ∃ o vs, P a vs ∧ o.dict = none ∧ ∀ H2, ObjOk X.prog X.w H2 h' a (.frz o (.tup vs))) →
    ∃ H2, L2.Inv X pins σ H2 { s with heap := h', toks := tk } ∧ (∀ b o, H1 b = some o → H2 b = some o) ∧ ∀ a ∈ L, ∃ o vs, P a vs ∧ o.dict = none ∧ H2 a = some (.frz o (.tup vs))
  | [], H1, I1, _, _ => ⟨H1, I1, fun _ _ e => e, fun _ h => nomatch h⟩
  | a :: L, H1, I1, hn, h => by
    obtain ⟨hb, hnone, o, vs, hP, hd, ok⟩ := h a List.mem_cons_self
    have I2 : L2.Inv X pins σ (upd H1 a (.frz o (.tup vs))) { s with heap := h', toks := tk } := I1.take (h' := h') (t' := tk) (fun b ob _ e => e) (I0.fpOk hb hnone) (ok _)
    obtain ⟨n1, n2⟩ := List.nodup_cons.mp hn
    obtain ⟨H2, I3, g, q⟩ := takeF I0 L (upd H1 a (.frz o (.tup vs))) I2 n2 fun c hc => by
      obtain ⟨c1, c2, c3⟩ := h c (List.mem_cons_of_mem _ hc)
      exact ⟨c1, by rw [upd_ne (fun z => n1 (by rw [← z]; exact hc))]; exact c2, c3⟩
    refine ⟨H2, I3, fun b u e => g b u (by rw [upd_ne (ne_of_none e hnone)]; exact e), fun c hc => ?_⟩
    rcases List.mem_cons.mp hc with rfl | hc
    · exact ⟨o, vs, hP, hd, g _ _ upd_same⟩
    · exact q c hc
theorem kv_keys : ∀ {kvs : List (Key × V)} {vs : List (Key × Value)}, KV kvs vs → kvs.map (·.1) = vs.map (·.1)
  | _, _, .nil => rfl
  | _, _, .cons h t => by rw [List.map_cons, List.map_cons, h.1, kv_keys t]
section
variable {X : Cx} {e : Expr} {te : TE} {p apos cpos pos : Pos}
theorem pe_sitems (hc : X.calm = true) (he : PE X e te) (hg : Gl X "sorted") (hm : X.mg "sorted" = none) (hbase : attributeBase e "items" X.env (eval e X.env) = eval e X.env) (hline : (apos.endLine == cpos.line) = true) :
    PE X (.Call (.Name "sorted" p) [.Call (.Attribute e "items" apos) [] [] cpos] [] pos) (fun σ H Q => te σ H fun x H1 => rSItems x H1 Q) := by
  refine ⟨fun pins s0 σ H0 Q I0 hq => ?_⟩
  have hs : starEach [.Call (.Attribute e "items" apos) [] [] cpos] X.env = (false, eval (.Call (.Attribute e "items" apos) [] [] cpos) X.env) :: starEach [] X.env := rfl
  refine wpAny_Call_Name_kw (ld_blt I0 hg hm boot_sorted ?_)
  refine PyProof.Rows.callWith_builtin1 ?_ hs rfl
  rw [hs]
  show wpAny _ _ (spliced ((false, eval (.Call (.Attribute e "items" apos) [] [] cpos) X.env) :: backTo pos (starEach [] X.env))) _ _ s0
  refine Calls.spliced_cons ?_
  refine wpAny_Call_method (T := "dict") (id := "dict.items") hbase rfl hline F.plainAttrs_dict F.slot_dict_items F.type_dict_items (thn (he.run pins s0 σ H0 _ I0 hq) fun u s1 ⟨x, H, I1, rx, d, kvs, ex, hd, hkv, h64, hsz, q⟩ => ?_)
  subst ex
  obtain rfl : u = Value.ref d := rx
  obtain ⟨hz, hs0, vs, kv, hdo⟩ := dk_rd I1.hok hd
  obtain ⟨o, es, ep, ho, hx, hdat, hkeys, hprs, hnd⟩ := id hdo
  have lk : kvs.length = vs.length := Paired.length kv
  have le : es.size = vs.length := by rw [← Array.length_toList]; exact hprs.length
  have I : Inv X pins σ H { s1 with heap := s1.heap.push { cls := .type "dict_items", data := .fields #[.ref d] } } := I1.kept (t' := s1.toks) fun b ob q => Heap.get?_push_of_some _ q
  refine ⟨hdo.typeIs, hdo.mapOf.noDict, ?_⟩
  show wpAny _ _ (callWith cpos (.builtin "dict.items") [.ref d] [] []) _ X.xe s1
  refine method_meetsIn F.slot_dict_items F.entry_dict_items rfl (PySem.evalArgs_none ⟨rfl, hdo.typeIs, F.args_dict_items_1 _, _, meets_dict_items (mixKind X.prog X.w) d hs0, ⟨vs, hdo⟩, ?_⟩)
  refine Calls.spliced_nil ?_
  have hview : (s1.heap.push { cls := .type "dict_items", data := .fields #[.ref d] }).IsItemsView s1.heap.objs.size d := ⟨_, Heap.get?_push_size _ rfl, rfl, rfl⟩
  have hraw : DT.Raw (s1.heap.push { cls := .type "dict_items", data := .fields #[.ref d] }) d es ep := ⟨o, Heap.get?_push_of_some _ ho, hx, hdat⟩
  generalize hS : ({ s1 with heap := s1.heap.push { cls := .type "dict_items", data := .fields #[.ref d] } } : Shared) = s at I ⊢
  have hview : s.heap.IsItemsView s1.heap.objs.size d := by rw [← hS]; exact hview
  have hraw : DT.Raw s.heap d es ep := by rw [← hS]; exact hraw
  refine DT.sortedI (es := es) (ep := ep) (I1.ok.hd hc) hview hraw (by omega) fun h' tk as hk hlt hl hG => ?_
  have lak : as.length = kvs.length := by omega
  have nd : as.Nodup := List.Pairwise.imp (fun h => Nat.ne_of_lt h) hG.rise
  have pr : ∀ (j : Nat) (b : Addr), as[j]? = some b → ∃ (i : Int) (bv : Addr) (t : Tok), kvs[j]? = some (.inl i, .ref bv) ∧ h'.get? b = some { cls := .type "tuple", data := .seq #[Value.int i t, Value.ref bv] } := by
    intro j b hj
    obtain ⟨en, hen, hgt⟩ := hG.pairs j b hj
    rw [← Array.getElem?_toList] at hen
    obtain ⟨k, v, e1, e2, e3⟩ := pairs_at hprs hen
    have hjl : j < kvs.length := by rw [← lak]; exact (List.getElem?_eq_some_iff.mp hj).1
    have ek : kvs[j]? = some kvs[j] := List.getElem?_eq_getElem hjl
    obtain ⟨qv, g1, g2, g3⟩ := LiI.paired_get kv ek
    rw [e1] at g1; cases g1
    obtain ⟨i, bv, ei⟩ := hkv _ (List.getElem_mem hjl)
    rw [ei] at g2 g3 ek
    have g2 : (Sum.inl i : Key) = k := g2
    subst g2
    obtain ⟨t, ht⟩ := (show RelV (V.int i) en.key from relV_key (show keyIs (.inl i) en.key = true from e2))
    have g3 : v = Value.ref bv := g3
    refine ⟨i, bv, t, ek, ?_⟩
    rw [hgt, ht, e3, g3]
  have zipn : ((as.zip kvs).map (·.1)).Nodup := by rw [List.map_fst_zip (by omega)]; exact nd
  have rk : ∀ (j : Nat) (b : Addr) (i : Int) (bv : Addr), as[j]? = some b → kvs[j]? = some (.inl i, .ref bv) → rkOf (as.zip kvs) (.ref b) = i := fun j b i bv h1 h2 =>
    rk_at (z := (b, .inl i, .ref bv)) zipn (List.mem_of_getElem? (i := j) (List.getElem?_zip_eq_some.mpr ⟨h1, h2⟩))
  have hob : (h'.push { cls := .type "list", data := .seq (as.map Value.ref).toArray }).get? h'.objs.size = some (seqObj "list" (as.map Value.ref).toArray 0) := Heap.get?_push_size _ rfl
  have ne0 : ∀ b o, h'.get? b = some o → b ≠ h'.objs.size := fun b o e => Nat.ne_of_lt (Heap.lt_size e)
  generalize hh2 : h'.push { cls := .type "list", data := .seq (as.map Value.ref).toArray } = h2 at hob ⊢
  have ka : ∀ b o, h'.get? b = some o → h2.get? b = some o := fun b o e => by rw [← hh2]; exact Heap.get?_push_of_some _ e
  have at_ : ∀ v ∈ as.map Value.ref, ∃ (j : Nat) (b : Addr) (i : Int) (bv : Addr) (t : Tok), v = .ref b ∧ as[j]? = some b ∧ kvs[j]? = some (.inl i, .ref bv) ∧ h'.get? b = some { cls := .type "tuple", data := .seq #[Value.int i t, Value.ref bv] } := by
    intro v hv'
    obtain ⟨b, hb, rfl⟩ := List.mem_map.mp hv'
    obtain ⟨j, hj⟩ := List.mem_iff_getElem?.mp hb
    obtain ⟨i, bv, t, h1, h2⟩ := pr j b hj
    exact ⟨j, b, i, bv, t, rfl, hj, h1, h2⟩
  have kn : (kvs.map (·.1)).Nodup := by
    rw [kv_keys kv]; exact hnd
  refine wpAny_call_entry PyProof.Rows.slot_list_sort ⟨_, hob, rfl⟩ PyProof.Rows.entry_list_sort
    (SK.plain_sort (s := { s with heap := h2, toks := tk }) (r := rkOf (as.zip kvs)) hob (by rw [List.length_map]; omega) (fun h2' Qk hQk => ?_) fun ps out o1 o2 o3 => ⟨.none, rfl, ?_⟩) (PyProof.Rows.args_list_sort _)
  · refine kind_i (s := { s with heap := TS.midHeap h2 h'.objs.size (as.map Value.ref), toks := tk }) h2' (fun v hv' => ?_) (fun v hv' u hu' hr => ?_) Qk hQk
    · obtain ⟨j, b, i, bv, t, rfl, hj, h1, h2⟩ := at_ v hv'
      rw [rk j b i bv hj h1]
      exact ⟨bv, b, _, 0, t, rfl, TS.midHeap_old (ne0 _ _ h2) (ka _ _ h2), rfl, rfl⟩
    · obtain ⟨j, b, i, bv, t, rfl, hj, h1, h2⟩ := at_ v hv'
      obtain ⟨j2, b2, i2, bv2, t2, rfl, hj2, h12, h22⟩ := at_ u hu'
      rw [rk j b i bv hj h1, rk j2 b2 i2 bv2 hj2 h12] at hr
      subst hr
      have g1 : (kvs.map (·.1))[j]? = some (.inl i) := by rw [List.getElem?_map, h1]; rfl
      have g2 : (kvs.map (·.1))[j2]? = some (.inl i) := by rw [List.getElem?_map, h12]; rfl
      have ej : j = j2 := (List.getElem?_inj (List.getElem?_eq_some_iff.mp g1).1 kn).mp (g1.trans g2.symm)
      subst ej
      rw [hj] at hj2; cases hj2
      rfl
  · show EP X pins σ Q (.ref h'.objs.size) { s with heap := sortedHeap h2 h'.objs.size (as.map Value.ref) out, toks := tk }
    obtain ⟨zs, pz, ez⟩ := perm_lift (fun z : Addr × Key × V => (Value.ref z.1, Value.ref z.1)) o2 (as.zip kvs) (DX.zip_self Value.ref as kvs lak)
    have idx : ∀ z ∈ zs, ∃ j : Nat, as[j]? = some z.1 ∧ kvs[j]? = some z.2 := by
      intro z' hz'
      obtain ⟨j, hj⟩ := List.mem_iff_getElem?.mp (pz.mem_iff.mp hz')
      exact ⟨j, List.getElem?_zip_eq_some.mp hj⟩
    have hout : out.toList = zs.map fun z => Value.ref z.1 := by
      rw [o1, ← ez, List.map_map]; rfl
    have hperm : (zs.map (·.2)).Perm kvs := by
      have e := pz.map (·.2)
      have m2 : (as.zip kvs).map (·.2) = kvs := List.map_snd_zip (by rw [lak]; exact Nat.le_refl _)
      rw [m2] at e
      exact e
    have rkz : ∀ z ∈ zs, rkOf (as.zip kvs) (.ref z.1) = kI z.2.1 := fun z hz => rk_at zipn (pz.mem_iff.mp hz)
    have hsort : zs.Pairwise fun x y => kI x.2.1 ≤ kI y.2.1 := by
      rw [← ez, List.pairwise_map] at o3
      refine List.Pairwise.imp_of_mem (fun {x y} hx hy h => ?_) o3
      have h : rkOf (as.zip kvs) (.ref x.1) ≤ rkOf (as.zip kvs) (.ref y.1) := h
      rwa [rkz x hx, rkz y hy] at h
    have kF : ∀ b o, b ≠ h'.objs.size → h2.get? b = some o → (sortedHeap h2 h'.objs.size (as.map Value.ref) out).get? b = some o := fun b o hb e => (PyProof.Rows.sortedHeap_old hb (Heap.lt_size e)).trans e
    have kS : ∀ b o, s.heap.get? b = some o → (sortedHeap h2 h'.objs.size (as.map Value.ref) out).get? b = some o := fun b o e => kF b o (ne0 _ _ (hk b o e)) (ka _ _ (hk b o e))
    obtain ⟨eF, heF⟩ := PyProof.Rows.sortedHeap_at (vs := as.map Value.ref) (out := out) hob
    have I1 : Inv X pins σ H { s with heap := sortedHeap h2 h'.objs.size (as.map Value.ref) out, toks := tk } := I.kept (t' := tk) kS
    have hn0 : H h'.objs.size = none := I.hok.fresh (Nat.le_of_lt hlt)
    have hlen : (zs.map fun z => V.ref z.1).length ≤ sizeLine := by
      have e := hperm.length_eq
      rw [List.length_map] at e
      rw [List.length_map, sizeLine_eq]
      omega
    have rv : Vals (zs.map fun z => V.ref z.1) out.toList := by
      rw [hout]
      exact vals_maps (fun z : Addr × Key × V => V.ref z.1) (fun z => Value.ref z.1) zs fun _ _ => rfl
    have I2 : Inv X pins σ (upd H h'.objs.size (.lst (zs.map fun z => V.ref z.1))) { s with heap := sortedHeap h2 h'.objs.size (as.map Value.ref) out, toks := tk } :=
      I1.take (h' := sortedHeap h2 h'.objs.size (as.map Value.ref) out) (t' := tk) (fun b ob _ e => e) (I.fpOk (Nat.le_of_lt hlt) hn0) ⟨hlen, out.toList, eF, rv, heF⟩
    obtain ⟨H2, I3, g, qt⟩ := takeF (P := fun b vs => ∃ (j : Nat) (k : Key) (x : V), as[j]? = some b ∧ kvs[j]? = some (k, x) ∧ vs = [kV k, x]) I as _ I2 nd fun b hb => by
      obtain ⟨j, hj⟩ := List.mem_iff_getElem?.mp hb
      obtain ⟨i, bv, t, h1, h2⟩ := pr j b hj
      have hbl : s.heap.objs.size ≤ b := Nat.le_of_lt (hG.above b hb)
      refine ⟨hbl, ?_, _, [.int i, .ref bv], ⟨j, .inl i, .ref bv, hj, h1, rfl⟩, rfl, fun H3 => ⟨kF _ _ (ne0 _ _ h2) (ka _ _ h2), (by show 2 ≤ sizeLine; decide), [Value.int i t, Value.ref bv], .cons ⟨t, rfl⟩ (.cons rfl .nil), ⟨_, kF _ _ (ne0 _ _ h2) (ka _ _ h2), rfl, 0, rfl⟩⟩⟩
      rw [upd_ne (ne0 _ _ h2)]
      exact I.hok.fresh hbl
    have gr : ∀ b o, H b = some o → H2 b = some o := fun b o e => g b o (by rw [upd_ne (ne_of_none e hn0)]; exact e)
    refine ⟨.ref h'.objs.size, H2, I3, rfl, q H2 h'.objs.size zs ⟨gr, hperm, hsort, hn0, g _ _ upd_same, fun z' hz' => ?_, fun b o e => szO_of o (I3.hok b o e)⟩⟩
    obtain ⟨i, i1, i2⟩ := idx z' hz'
    obtain ⟨oo, ws, ⟨j, k, x, j1, j2, ev⟩, hdn, hH⟩ := qt z'.1 (List.mem_of_getElem? i1)
    have eij : i = j := (List.getElem?_inj (List.getElem?_eq_some_iff.mp i1).1 nd).mp (i1.trans j1.symm)
    subst eij
    obtain ⟨_, _, _, _, h2⟩ := pr i z'.1 i1
    have ee : (k, x) = z'.2 := Option.some.inj (j2.symm.trans i2)
    rw [ev] at hH
    refine ⟨I.hok.fresh (Nat.le_of_lt (hG.above _ (List.mem_of_getElem? i1))), ne0 _ _ h2, oo, ?_, hdn⟩
    rw [hH, ← ee]
end
/-! ### on data -/
section
variable {W : Wd} {F P H H' : Hp} {S : Store}
/-- what is new is read as data -/
def grow (H F H' : Hp) : Hp := fun b => if H b = none then H' b else F b
theorem RS.grow (rs : RS W F P S H) (hk : ∀ b o, H b = some o → H' b = some o) (hz : ∀ b o, H' b = some o → szO o) : Le F (grow H F H') ∧ RS W (grow H F H') P S H' := by
  have old : ∀ b o, H b = some o → DL.grow H F H' b = F b := fun b o e => by unfold DL.grow; rw [if_neg (by rw [e]; exact fun z => nomatch z)]
  have hF : ∀ b o, F b = some o → DL.grow H F H' b = some o := fun b o e => by
    cases eH : H b with
    | none => have := rs.sub.none eH; rw [this] at e; cases e
    | some u => rw [old b u eH]; exact e
  refine ⟨hF, hz, fun b o e => ?_, fun b o e => hk _ _ (rs.prs _ _ e), fun b o e => ?_, fun b o e => ?_⟩
  · cases eH : H b with
    | none =>
      unfold DL.grow at e
      rw [if_pos eH] at e
      exact .inl e
    | some u =>
      rw [old b u eH] at e
      rcases rs.sub b o e with q | ⟨ob, kvs, q1, q2⟩
      · exact .inl (hk _ _ q)
      · exact .inr ⟨ob, kvs, q1, hk _ _ q2⟩
  · rw [old b o (rs.prs _ _ e)]; exact rs.dis _ _ e
  · obtain ⟨h1, u, h2, h3⟩ := rs.obj _ _ e
    rw [old b u h2]
    exact ⟨h1, u, hk _ _ h2, h3.mono hF⟩
theorem Rp.isRef {d : D} {v : V} (r : Rp W F d v) (h : refD d = true) : ∃ b, v = .ref b := by cases r <;> first | (cases h; done) | exact ⟨_, rfl⟩
/-- pairs of two readings, in any order -/
theorem RpK.mem : ∀ {kvs : List (Key × D)} {ws : List (Key × V)} {kw : Key × V}, RpK W F kvs ws → kw ∈ ws → ∃ d, (kw.1, d) ∈ kvs ∧ Rp W F d kw.2
  | _, _, _, .nil, h => by cases h
  | _, _, kw, .cons r t, h => by
    rcases List.mem_cons.mp h with rfl | h
    · exact ⟨_, List.mem_cons_self, r⟩
    · obtain ⟨d, h1, h2⟩ := RpK.mem t h
      exact ⟨d, List.mem_cons_of_mem _ h1, h2⟩
theorem intKeys_map : ∀ {kvs : List (Key × D)} {ks : List Int}, intKeys kvs = some ks → kvs.map (·.1) = ks.map Sum.inl
  | [], ks, h => by simp only [intKeys] at h; cases h; rfl
  | (.inl i, d) :: r, ks, h => by
    simp only [intKeys] at h
    obtain ⟨m, em, rfl⟩ := Option.map_eq_some_iff.mp h
    rw [List.map_cons, List.map_cons, intKeys_map em]
  | (.inr _, _) :: _, ks, h => by simp only [intKeys] at h; cases h
theorem dget_of {kvs : List (Key × D)} {k : Key} {d : D} (hn : (kvs.map (·.1)).Nodup) (h : (k, d) ∈ kvs) : dget kvs k = some d := by
  induction kvs with
  | nil => cases h
  | cons y l ih =>
    have hn : (y.1 :: l.map (·.1)).Nodup := hn
    obtain ⟨h1, h2⟩ := List.nodup_cons.mp hn
    unfold dget at ih ⊢
    by_cases e : y.1 = k
    · rw [List.find?_cons_of_pos (by simpa using e)]
      rcases List.mem_cons.mp h with rfl | h
      · rfl
      · exact absurd (by rw [e]; exact List.mem_map_of_mem (f := (·.1)) h) h1
    · rw [List.find?_cons_of_neg (by simpa using e)]
      rcases List.mem_cons.mp h with rfl | h
      · exact absurd rfl e
      · exact ih h2 h
theorem rps_pairs {F2 : Hp} {kvs : List (Key × D)} {ws : List (Key × V)} {ks : List Int} (hn : (kvs.map (·.1)).Nodup) (hk : kvs.map (·.1) = ks.map Sum.inl) (rk : RpK W F kvs ws) (l : Le F F2) : ∀ ps : List (Addr × Key × V), (∀ z ∈ ps, z.2 ∈ ws) →
    (∀ z ∈ ps, ∃ o, F2 z.1 = some (.frz o (.tup [kV z.2.1, z.2.2])) ∧ o.dict = none) → Rps W F2 ((ps.map fun z => kI z.2.1).map fun k => D.tup [.int k, (dget kvs (.inl k)).getD .non]) (ps.map fun z => V.ref z.1)
  | [], _, _ => .nil
  | z :: ps, h1, h2 => by
    refine .cons ?_ (rps_pairs hn hk rk l ps (fun y hy => h1 y (List.mem_cons_of_mem _ hy)) fun y hy => h2 y (List.mem_cons_of_mem _ hy))
    obtain ⟨d, hd, rd⟩ := rk.mem (h1 z List.mem_cons_self)
    have hm : z.2.1 ∈ kvs.map (·.1) := List.mem_map_of_mem (f := (·.1)) hd
    rw [hk] at hm
    obtain ⟨i, _, ei⟩ := List.mem_map.mp hm
    obtain ⟨o, ho, hdn⟩ := h2 z List.mem_cons_self
    show Rp W F2 (.tup [.int (kI z.2.1), (dget kvs (.inl (kI z.2.1))).getD .non]) (.ref z.1)
    rw [← ei] at hd ho ⊢
    show Rp W F2 (.tup [.int i, (dget kvs (.inl i)).getD .non]) (.ref z.1)
    rw [dget_of hn hd]
    exact .tup (.inl ⟨o, ho, hdn⟩) (.cons (.int i) (.cons (rd.mono l) .nil))
theorem le_sitems {X : Cx} {e : Expr} {p apos cpos pos : Pos} {d : DE} {own : Bool} (hc : X.calm = true) (he : PE X e (LE W d)) (hg : Gl X "sorted") (hm : X.mg "sorted" = none) (hbase : attributeBase e "items" X.env (eval e X.env) = eval e X.env) (hline : (apos.endLine == cpos.line) = true) :
    PE X (.Call (.Name "sorted" p) [.Call (.Attribute e "items" apos) [] [] cpos] [] pos) (LE W (dUn (fSItems own) d)) := by
  refine (pe_sitems (p := p) (pos := pos) hc he hg hm hbase hline).mono fun σ H Q ⟨F, P, sd, S, Qd, rs, rl, q, kt⟩ => ?_
  refine ⟨F, P, sd, S, _, rs, rl, q, fun F1 S1 H1 dx x l1 rs1 rx q1 => ?_⟩
  unfold fSItems at q1
  split at q1
  · rename_i kvs e1
    split at q1
    · rename_i ks e2
      obtain ⟨_, g1, g2, g3, g4⟩ := q1
      obtain ⟨a, ws, rfl, hR, rK⟩ := asD_ok rs1 rx e1
      have hk := intKeys_map e2
      have hw := intKeys_ok rK e2
      have hn : (kvs.map (·.1)).Nodup := by
        rw [hk]
        exact List.Pairwise.map _ (fun a b h z => h (Sum.inl.inj z)) g1
      have hlen : ws.length = ks.length := by have := congrArg List.length hw; simpa using this
      refine ⟨a, ws, rfl, hR, fun kv hkv => ?_, by omega, rs1.sz, fun H' l ps st => ?_⟩
      · obtain ⟨d, hd, rd⟩ := rK.mem hkv
        have hm : kv.1 ∈ kvs.map (·.1) := List.mem_map_of_mem (f := (·.1)) hd
        rw [hk] at hm
        obtain ⟨i, _, ei⟩ := List.mem_map.mp hm
        obtain ⟨b, eb⟩ := rd.isRef (List.all_eq_true.mp g3 _ hd)
        exact ⟨i, b, Prod.ext ei.symm eb⟩
      · obtain ⟨l2, rs2⟩ := rs1.grow st.keep st.sz
        have e3 : ps.map (fun z => kI z.2.1) = isort ks := by
          refine sorted_is ?_ ?_
          · have h1 := st.perm.map (fun z : Key × V => kI z.1)
            rw [List.map_map] at h1
            have h2 : ws.map (fun z => kI z.1) = ks := by
              have := congrArg (List.map kI) hw
              rw [List.map_map, List.map_map] at this
              have h3 : ks.map (kI ∘ Sum.inl) = ks := List.map_id ks
              rw [h3] at this
              exact this
            rw [h2] at h1
            exact h1
          · rw [List.pairwise_map]; exact st.up
        rw [← e3] at g4
        have new : ∀ b o, H1 b = none → H' b = some o → grow H1 F1 H' b = some o := fun b o h1 h2 => by unfold grow; rw [if_pos h1]; exact h2
        refine kt _ _ _ _ _ (l1.trans l2) rs2 (.lst (.inl (new l _ st.l0 st.l1)) (rps_pairs hn hk rK l2 ps (fun z hz => st.perm.mem_iff.mp (List.mem_map_of_mem (f := (·.2)) hz)) fun z hz => ?_)) g4
        obtain ⟨z1, _, o, z3, z4⟩ := st.at_ z hz
        exact ⟨o, new _ _ z1 z3, z4⟩
    · exact q1.elim
  · exact q1.elim
end
end DL
set_option Elab.async false
set_option linter.all false
set_option maxRecDepth 100000
set_option maxHeartbeats 1000000
/-! DL11: len(set(..)), comprehensions, sources; all expressions. -/
namespace DL
open PySem L2
section
variable {X : Cx}
def tLenSetL (K : PySem.W.Frag) (ta : TE) : TE := fun σ H Q => ta σ H fun x H1 => ∃ (l : Addr) (ns : List Int), x = .ref l ∧ SqL K H1 l (ns.map V.int) ∧ ns.length ≤ 4000 ∧ Q (.int (PyProof.Rows.firstMet (fun i => ns.getD i 0) ns.length).length) H1
theorem firstMet_le (f : Nat → Int) : ∀ n, (PyProof.Rows.firstMet f n).length ≤ n
  | 0 => Nat.le_refl _
  | n + 1 => by
    rw [PyProof.Rows.firstMet_succ]
    have := firstMet_le f n
    unfold PyProof.Rows.step_dedup
    split
    · omega
    · rw [List.length_append, List.length_singleton]; omega
theorem pe_lenSetL {a : Expr} {ta : TE} {p p2 q pos : Pos} (hg : Gl X "len") (hm : X.mg "len" = none) (hg2 : Gl X "set") (hm2 : X.mg "set" = none) (ha : PE X a ta) (hc : X.calm = true)
    (na : starEach [a] X.env = (false, eval a X.env) :: starEach [] X.env) : PE X (.Call (.Name "len" p) [.Call (.Name "set" p2) [a] [] q] [] pos) (tLenSetL X.K ta) := by
  refine ⟨fun pins s σ H Q I h => ?_⟩
  refine PyProof.Rows.Call_ (ld_blt I hg hm PySem.boot_len ?_)
  refine PyProof.Rows.callWith_builtin1 (PyProof.Rows.args_cons ?_ rfl) rfl rfl
  refine PyProof.Rows.Call_ (ld_blt I hg2 hm2 PyProof.Rows.boot_set ?_)
  refine PyProof.Rows.callWith_type1 (PyProof.Rows.args_cons (thn (ha.run pins s σ H _ I h) fun v s1 ⟨x, H1, I1, r1, q1⟩ => PyProof.Rows.args_nil ?_) na) na rfl
  obtain ⟨l, ns, rfl, hq, hlen, q1⟩ := q1
  cases r1
  obtain ⟨its, r, pl, hz⟩ := I1.list hq
  have hl : its.toArray.size = ns.length := by rw [List.size_toArray, ← r.length, List.length_map]
  refine PySem.call_set_list (I1.ok.hd hc) pl.isList (ns := ns) (by simpa using r.ints) (by unfold PySem.scanBound; omega) fun h' tk hS hk => ?_
  rw [hl] at hS
  refine PyProof.Rows.args_nil ?_
  obtain ⟨o, es, ep, t, ho, hex, hd, _, _, _, hf, hn⟩ := hS
  have I2 : Inv X pins σ H1 { s1 with heap := h', toks := tk } := I1.kept fun b o e => hk b o (Heap.lt_size e) e
  have hle := firstMet_le (fun i => ns.getD i 0) ns.length
  refine PySem.call_len_set ho hex hd hf (by rw [hn]; omega) ⟨.int _, H1, I2.tok _, ⟨_, by rw [hn]⟩, q1⟩
end
section
variable {W : Wd} {T : Tb}
theorem se_lenset {a : CE} (ha : SE W T a) : SE W T (.lenset a) := fun X c e ok h => by
  cases e <;> first | (cases h; done) | skip
  rename_i g args kws p
  cases g <;> first | (cases h; done) | skip
  rename_i f fp
  rcases args with _ | ⟨y, rest⟩ <;> first | (cases h; done) | skip
  cases y <;> first | (cases h; done) | skip
  rename_i g2 args2 kws2 p2
  cases g2 <;> first | (cases h; done) | skip
  rename_i f2 fp2
  rcases args2 with _ | ⟨x, _ | ⟨_, _⟩⟩ <;> first | (cases h; done) | skip
  cases kws2 <;> first | (cases h; done) | skip
  cases rest <;> first | (cases h; done) | skip
  cases kws <;> first | (cases h; done) | skip
  have h : (decide (f = "len") && c.gl f && c.bl.contains f && decide (f2 = "set") && c.gl f2 && c.bl.contains f2 && noStar x && chk a c x) = true := h
  simp only [Bool.and_eq_true, decide_eq_true_eq] at h
  obtain ⟨⟨⟨⟨⟨⟨⟨rfl, h1⟩, h2⟩, rfl⟩, h3⟩, h4⟩, h5⟩, h6⟩ := h
  refine .of ok ((pe_lenSetL (ok.gl h1) (ok.blt _ h2) (ok.gl h3) (ok.blt _ h4) (ha X c x ok h6).v ok.calm (star_cons h5)).mono fun σ H Q ⟨F, P, sd, S, Qd, rs, rl, q, kt⟩ => ?_) rfl
  refine ⟨F, P, sd, S, _, rs, rl, q, fun F1 S1 H1 dx x l1 rs1 rx q1 => ?_⟩
  unfold fLenSet at q1
  split at q1
  · rename_i xs e1
    split at q1
    · rename_i ns e2
      obtain ⟨b, vs, rfl, hb, rr⟩ := asL_ok rs1 rx e1
      cases asInts_eq e2
      cases rr.ints
      refine ⟨b, ns, rfl, .inl hb, q1.1, kt F1 S1 H1 _ _ l1 rs1 (.int _) q1.2⟩
    · exact q1.elim
  · exact q1.elim
theorem se_sitems {own : Bool} {a : CE} (ha : SE W T a) : SE W T (.sitems own a) := fun X c e ok h => by
  cases e <;> first | (cases h; done) | skip
  rename_i g args kws p
  cases g <;> first | (cases h; done) | skip
  rename_i f fp
  rcases args with _ | ⟨y, rest⟩ <;> first | (cases h; done) | skip
  cases y <;> first | (cases h; done) | skip
  rename_i g2 args2 kws2 p2
  cases g2 <;> first | (cases h; done) | skip
  rename_i e m ap
  cases args2 <;> first | (cases h; done) | skip
  cases kws2 <;> first | (cases h; done) | skip
  cases rest <;> first | (cases h; done) | skip
  cases kws <;> first | (cases h; done) | skip
  have h : (decide (f = "sorted") && c.gl f && c.bl.contains f && decide (m = "items") && noSuper e && (ap.endLine == p2.line) && chk a c e) = true := h
  simp only [Bool.and_eq_true, decide_eq_true_eq] at h
  obtain ⟨⟨⟨⟨⟨⟨rfl, h1⟩, h2⟩, rfl⟩, h3⟩, h4⟩, h5⟩ := h
  exact .of ok (le_sitems ok.calm (ha X c e ok h5).v (ok.gl h1) (ok.blt _ h2) (noSuper_is h3) h4) rfl
theorem gs_sub {g : CG} {vs : List (Str × Nat)} (h : (gslots g).all (fun i => (vs.map (·.2)).contains i) = true) : ∀ i ∈ gslots g, i ∈ vs.map (·.2) := fun i hi => List.contains_iff_mem.mp (List.all_eq_true.mp h i hi)
theorem tk_of {b : Bool} {g : CG} (h : (!b || isTupG g) = true) : b = false ∨ isTupG g = true := by
  cases b
  · exact .inl rfl
  · exact .inr (by simpa using h)
theorem se_lc {own : Bool} {vs : List (Str × Nat)} {g : CG} {it : CI} {t : CT} {e : CE} (hi : SI W T it) (ht : ST W T t) (he : SE W T e) : SE W T (.lc own vs g it t e) := fun X c x ok h => by
  cases x <;> first | (cases h; done) | skip
  rename_i elt gens scope pos
  rcases gens with _ | ⟨⟨tg, iter, ifs, a⟩, _ | ⟨_, _⟩⟩ <;> first | (cases h; done) | skip
  have h : ((a == 0) && blkC c.N c.sc scope vs && noSet iter && (gslots g).all (fun i => (vs.map (·.2)).contains i) && (!it.tk || isTupG g) &&
    chkI it c tg iter && chkG g (c.blk scope) tg && chkT t (c.blk scope) ifs && chk e (c.blk scope) elt) = true := h
  simp only [Bool.and_eq_true, beq_iff_eq] at h
  obtain ⟨⟨⟨⟨⟨⟨⟨⟨rfl, h1⟩, h2⟩, h3⟩, h4⟩, h5⟩, h6⟩, h7⟩, h8⟩ := h
  refine .of ok ((pe_lc ok.calm (by rw [ok.N]; exact ok.nd) (hi X c tg iter ok h5) (blkOk_by (by rw [ok.N, ok.sc]; exact h1)) (fun s H C cl fp => sG (ok.blk s H scope cl C fp) h6) (fun s H C cl fp => ht _ _ ifs (ok.blk s H scope cl C fp) h7)
    (fun s H C cl fp => (he _ _ elt (ok.blk s H scope cl C fp) h8).v) (noSet_iter h2)).mono (lift_lc (gs_sub h3) (tk_of h4))) rfl
theorem se_dc {own : Bool} {vs : List (Str × Nat)} {g : CG} {it : CI} {t : CT} {e e2 : CE} (hi : SI W T it) (ht : ST W T t) (he : SE W T e) (he2 : SE W T e2) : SE W T (.dc own vs g it t e e2) := fun X c x ok h => by
  cases x <;> first | (cases h; done) | skip
  rename_i kx vx gens scope pos
  rcases gens with _ | ⟨⟨tg, iter, ifs, a⟩, _ | ⟨_, _⟩⟩ <;> first | (cases h; done) | skip
  have h : ((a == 0) && blkC c.N c.sc scope vs && noSet iter && (gslots g).all (fun i => (vs.map (·.2)).contains i) && (!it.tk || isTupG g) &&
    chkI it c tg iter && chkG g (c.blk scope) tg && chkT t (c.blk scope) ifs && chk e (c.blk scope) kx && chk e2 (c.blk scope) vx) = true := h
  simp only [Bool.and_eq_true, beq_iff_eq] at h
  obtain ⟨⟨⟨⟨⟨⟨⟨⟨⟨rfl, h1⟩, h2⟩, h3⟩, h4⟩, h5⟩, h6⟩, h7⟩, h8⟩, h9⟩ := h
  refine .of ok ((pe_dc ok.calm (by rw [ok.N]; exact ok.nd) (hi X c tg iter ok h5) (blkOk_by (by rw [ok.N, ok.sc]; exact h1)) (fun s H C cl fp => sG (ok.blk s H scope cl C fp) h6) (fun s H C cl fp => ht _ _ ifs (ok.blk s H scope cl C fp) h7)
    (fun s H C cl fp => (he _ _ kx (ok.blk s H scope cl C fp) h8).v) (fun s H C cl fp => (he2 _ _ vx (ok.blk s H scope cl C fp) h9).v) (noSet_iter h2)).mono (lift_dc (gs_sub h3) (tk_of h4))) rfl
theorem si_seq {e : CE} (he : SE W T e) : SI W T (.seq e) := fun X c tg x ok h => li_seq ok.K (he X c x ok h).v
theorem si_range1 {e : CE} (he : SE W T e) : SI W T (.range1 e) := fun X c tg x ok h => by
  cases x <;> first | (cases h; done) | skip
  rename_i g args kws p
  cases g <;> first | (cases h; done) | skip
  rename_i f fp
  rcases args with _ | ⟨y, _ | ⟨_, _⟩⟩ <;> first | (cases h; done) | skip
  cases kws <;> first | (cases h; done) | skip
  have h : (decide (f = "range") && c.gl f && c.bl.contains f && noStar y && chk e c y) = true := h
  simp only [Bool.and_eq_true, decide_eq_true_eq] at h
  obtain ⟨⟨⟨⟨rfl, h1⟩, h2⟩, h3⟩, h4⟩ := h
  exact li_range1 (ok.gl h1) (ok.blt _ h2) (he X c y ok h4).v (star_cons h3)
theorem si_range2 {e e2 : CE} (he : SE W T e) (he2 : SE W T e2) : SI W T (.range2 e e2) := fun X c tg x ok h => by
  cases x <;> first | (cases h; done) | skip
  rename_i g args kws p
  cases g <;> first | (cases h; done) | skip
  rename_i f fp
  rcases args with _ | ⟨y, _ | ⟨z, _ | ⟨_, _⟩⟩⟩ <;> first | (cases h; done) | skip
  cases kws <;> first | (cases h; done) | skip
  have h : (decide (f = "range") && c.gl f && c.bl.contains f && noStar y && noStar z && chk e c y && chk e2 c z) = true := h
  simp only [Bool.and_eq_true, decide_eq_true_eq] at h
  obtain ⟨⟨⟨⟨⟨⟨rfl, h1⟩, h2⟩, h3⟩, h3b⟩, h4⟩, h5⟩ := h
  exact li_range2 (ok.gl h1) (ok.blt _ h2) (he X c y ok h4).v (he2 X c z ok h5).v (by rw [star_cons h3, star_cons h3b]; rfl) (star_cons h3b)
theorem si_enum {e : CE} (he : SE W T e) : SI W T (.enum e) := fun X c tg x ok h => by
  cases tg <;> first | (cases h; done) | skip
  cases x <;> first | (cases h; done) | skip
  rename_i g args kws p
  cases g <;> first | (cases h; done) | skip
  rename_i f fp
  rcases args with _ | ⟨y, _ | ⟨_, _⟩⟩ <;> first | (cases h; done) | skip
  cases kws <;> first | (cases h; done) | skip
  have h : (decide (f = "enumerate") && c.gl f && c.bl.contains f && noStar y && chk e c y) = true := h
  simp only [Bool.and_eq_true, decide_eq_true_eq] at h
  obtain ⟨⟨⟨⟨rfl, h1⟩, h2⟩, h3⟩, h4⟩ := h
  exact li_enum ok.K (ok.gl h1) (ok.blt _ h2) (he X c y ok h4).v (star_cons h3)
theorem si_zip {e e2 : CE} (he : SE W T e) (he2 : SE W T e2) : SI W T (.zip e e2) := fun X c tg x ok h => by
  cases tg <;> first | (cases h; done) | skip
  cases x <;> first | (cases h; done) | skip
  rename_i g args kws p
  cases g <;> first | (cases h; done) | skip
  rename_i f fp
  rcases args with _ | ⟨y, _ | ⟨z, _ | ⟨_, _⟩⟩⟩ <;> first | (cases h; done) | skip
  cases kws <;> first | (cases h; done) | skip
  have h : (decide (f = "zip") && c.gl f && c.bl.contains f && noStar y && noStar z && chk e c y && chk e2 c z) = true := h
  simp only [Bool.and_eq_true, decide_eq_true_eq] at h
  obtain ⟨⟨⟨⟨⟨⟨rfl, h1⟩, h2⟩, h3⟩, h3b⟩, h4⟩, h5⟩ := h
  exact li_zip ok.K (ok.gl h1) (ok.blt _ h2) (he X c y ok h4).v (he2 X c z ok h5).v (star_cons h3) (star_cons h3b)
mutual
theorem se_all (W : Wd) (T : Tb) : ∀ ce : CE, SE W T ce
  | .slot _ => se_slot | .int _ => se_int | .bl _ => se_bl | .non => se_non | .str _ => se_str | .glb _ => se_glb
  | .op _ _ a b => se_op (se_all W T a) (se_all W T b)
  | .neg a => se_neg (se_all W T a)
  | .cmp _ a b => se_cmp (se_all W T a) (se_all W T b)
  | .chain _ _ a b c => se_chain (se_all W T a) (se_all W T b) (se_all W T c)
  | .not a => se_not (se_all W T a)
  | .and a b => se_and (se_all W T a) (se_all W T b)
  | .or a b => se_or (se_all W T a) (se_all W T b)
  | .last a => se_last (se_all W T a)
  | .ite c a b => se_ite (se_all W T c) (se_all W T a) (se_all W T b)
  | .tup es => se_tup (ses_all W T es).ses
  | .lst _ es => se_lst (ses_all W T es).ses
  | .ix a b => se_ix (se_all W T a) (se_all W T b)
  | .cut _ a lo hi => se_cut (se_all W T a) (so_all W T lo) (so_all W T hi)
  | .call _ es => se_call (ses_all W T es).ses
  | .callk _ _ _ es => se_callk (ses_all W T es)
  | .blt _ _ es => se_blt (ses_all W T es).ses
  | .isi _ a => se_isi (se_all W T a)
  | .get1 o k => se_get1 (se_all W T o) (se_all W T k)
  | .get2 o k d => se_get2 (se_all W T o) (se_all W T k) (se_all W T d)
  | .app o x => se_app (se_all W T o) (se_all W T x)
  | .dict0 _ => se_dict0
  | .lenset a => se_lenset (se_all W T a)
  | .sitems _ a => se_sitems (se_all W T a)
  | .lc _ _ _ it t e => se_lc (si_all W T it) (st_all W T t) (se_all W T e)
  | .dc _ _ _ it t k v => se_dc (si_all W T it) (st_all W T t) (se_all W T k) (se_all W T v)
theorem ses_all (W : Wd) (T : Tb) : ∀ ces : CEs, AllSE W T ces
  | .nil => .nil
  | .cons e r => .cons (se_all W T e) (ses_all W T r)
theorem so_all (W : Wd) (T : Tb) : ∀ co : CO, SO W T co
  | .no => so_no
  | .one e => so_one (se_all W T e)
theorem st_all (W : Wd) (T : Tb) : ∀ ct : CT, ST W T ct
  | .no => st_no
  | .one e => st_one (se_all W T e)
theorem si_all (W : Wd) (T : Tb) : ∀ ci : CI, SI W T ci
  | .seq e => si_seq (se_all W T e)
  | .range1 e => si_range1 (se_all W T e)
  | .range2 e f => si_range2 (se_all W T e) (se_all W T f)
  | .enum e => si_enum (se_all W T e)
  | .zip e f => si_zip (se_all W T e) (se_all W T f)
end
end
end DL
set_option Elab.async false
set_option linter.all false
set_option maxRecDepth 100000
set_option maxHeartbeats 1000000
/-! DL12: the check is sound: statements. -/
namespace DL
open PySem L2
section
variable {W : Wd} {T : Tb}
def SSt (W : Wd) (T : Tb) (cs : CS) : Prop := ∀ X c st, Ok W T X c → chkS cs c st = true → PS X st (LS W (denS T cs))
def SSs (W : Wd) (T : Tb) (cs : CSs) : Prop := ∀ X c sts, Ok W T X c → chkSs cs c sts = true → PSs X sts (LS W (denSs T cs))
variable {X : Cx} {c : Cc}
theorem Ok.po (ok : Ok W T X c) : PassesOwn (model X.prog X.w) X.A X.env X.xe := by rw [ok.xe]; exact .never
theorem sw_sole {tg e : Expr} {l : Nat} {env : Env} (h : noComp e = true) : swapsWithSole [tg] e l env = pure false := noComp_is h
theorem noSwp_is {tg e : Expr} {env : Env} (h : noSwp tg e = true) : swappedStores [tg] e env = pure none := by
  unfold noSwp at h
  rw [Bool.or_eq_true] at h
  rcases h with h | h
  · cases tg <;> cases e <;> first | rfl | (cases h)
  · cases tg <;> first | (cases h; done) | skip
    rename_i ts k p
    cases e <;> first | rfl | skip
    rename_i vs k2 p2
    have h : (!(ts.length == 2 || ts.length == 3)) = true := h
    unfold swappedStores
    show (if !(ts.length == 2 || ts.length == 3) || vs.length != ts.length || env.blockKind != .function then (return none : Sem (Option (List Str))) else _) = _
    rw [h]
    rfl
theorem sub_swp {o i e : Expr} {p : Pos} {env : Env} : swappedStores [.Subscript o i p] e env = pure none := by cases e <;> rfl
theorem star_any : ∀ {vs : List Expr}, vs.all noStar = true → (vs.any fun | .Starred .. => true | _ => false) = false
  | [], _ => rfl
  | v :: vs, h => by
    simp only [List.all_cons, Bool.and_eq_true] at h
    rw [List.any_cons, star_any h.2]
    cases v <;> first | rfl | (cases h.1)
theorem names_len {p : Expr → Option Str} : ∀ {ts : List Expr}, (∀ t ∈ ts, ∃ x, p t = some x) → (ts.filterMap p).length = ts.length
  | [], _ => rfl
  | t :: ts, h => by
    obtain ⟨x, hx⟩ := h t List.mem_cons_self
    rw [List.filterMap_cons_some hx, List.length_cons, List.length_cons, names_len fun u hu => h u (List.mem_cons_of_mem _ hu)]
theorem fm_congr {α β : Type} {p q : α → Option β} : ∀ {ts : List α}, (∀ t ∈ ts, p t = q t) → ts.filterMap p = ts.filterMap q
  | [], _ => rfl
  | t :: ts, h => by
    have h1 := h t List.mem_cons_self
    have h2 := fm_congr (p := p) (q := q) (ts := ts) fun u hu => h u (List.mem_cons_of_mem _ hu)
    cases e : q t with
    | none => rw [List.filterMap_cons_none (h1.trans e), List.filterMap_cons_none e, h2]
    | some x => rw [List.filterMap_cons_some (h1.trans e), List.filterMap_cons_some e, h2]
theorem swp_is (ok : Ok W T X c) {ts vs : List Expr} {names : List Str} {k k2 : Nat} {p p2 : Pos} (h : swp c ts vs names = true) : swappedStores [.Tuple ts k p] (.Tuple vs k2 p2) X.env = pure (some names) := by
  unfold swp at h
  simp only [Bool.and_eq_true, decide_eq_true_eq] at h
  obtain ⟨⟨⟨⟨⟨⟨⟨⟨h1, h2⟩, h3⟩, h4⟩, h5⟩, h6⟩, h7⟩, h8⟩, h9⟩ := h
  have hb : X.env.blockKind = .function := by
    have := ok.isFn h1
    unfold Env.blockKind; rw [this]; rfl
  have hat : ∀ t ∈ ts, ∃ id pos, t = .Name id pos ∧ X.env.kindOf id = some .local ∧ (pos.line == (ts.head?.map (·.pos.line)).getD 0) = true := by
    intro t ht
    have := List.all_eq_true.mp h5 t ht
    cases t <;> first | (cases this; done) | skip
    rename_i id pos
    have this : (c.isLocal id && (pos.line == (ts.head?.map (·.pos.line)).getD 0)) = true := this
    rw [Bool.and_eq_true] at this
    exact ⟨id, pos, rfl, ok.isLocal this.1, this.2⟩
  have hn : ts.filterMap (fun | .Name id pos => if X.env.kindOf id == some .local && pos.line == (ts.head?.map (·.pos.line)).getD 0 then some id else none | _ => none) = names := by
    rw [h6]
    refine fm_congr fun t ht => ?_
    obtain ⟨id, pos, rfl, e1, e2⟩ := hat t ht
    show (if X.env.kindOf id == some .local && pos.line == _ then some id else none) = some id
    rw [e1, e2]; rfl
  have hl : names.length = ts.length := by
    rw [h6]
    refine names_len fun t ht => ?_
    obtain ⟨id, pos, rfl, _⟩ := hat t ht
    exact ⟨id, rfl⟩
  unfold swappedStores
  show (if !(ts.length == 2 || ts.length == 3) || vs.length != ts.length || X.env.blockKind != .function then (return none : Sem (Option (List Str))) else
    if vs.any (fun | .Starred .. => true | _ => false) then return none else
      if (ts.filterMap (fun | .Name id pos => if X.env.kindOf id == some .local && pos.line == (ts.head?.map (·.pos.line)).getD 0 then some id else none | _ => none)).length != ts.length ||
        (ts.filterMap (fun | .Name id pos => if X.env.kindOf id == some .local && pos.line == (ts.head?.map (·.pos.line)).getD 0 then some id else none | _ => none)).eraseDups.length !=
          (ts.filterMap (fun | .Name id pos => if X.env.kindOf id == some .local && pos.line == (ts.head?.map (·.pos.line)).getD 0 then some id else none | _ => none)).length then return none else
        if vs.all (foldedForSure 8) then return none else
          if vs.all (constantsAlone 8) then do unsupported "assign.tuple-of-constant-expressions:order-of-the-stores"; return some (ts.filterMap (fun | .Name id pos => if X.env.kindOf id == some .local && pos.line == (ts.head?.map (·.pos.line)).getD 0 then some id else none | _ => none)) else return some (ts.filterMap (fun | .Name id pos => if X.env.kindOf id == some .local && pos.line == (ts.head?.map (·.pos.line)).getD 0 then some id else none | _ => none))) = _
  rw [hn, h2, hb, hl, h7, hl, star_any h4]
  have e3 : (vs.length != ts.length) = false := by rw [bne, h3]; rfl
  have e8 : vs.all (foldedForSure 8) = false := by simpa using h8
  have e9 : vs.all (constantsAlone 8) = false := by simpa using h9
  rw [e3, e8, e9]
  have e4 : (ScopeKind.function != ScopeKind.function) = false := by decide
  have e5 : (ts.length != ts.length) = false := by simp
  rw [e4, e5]
  rfl
theorem sw_set (ok : Ok W T X c) {e : Expr} {x : Str} {px : Pos} {l : Nat} (h : (noComp e || !c.isLocal x) = true) : swapsWith e (some (.Name x px)) l X.env = pure false := by
  rw [Bool.or_eq_true] at h
  rcases h with h | h
  · exact noComp_is h
  · have hk : (X.env.kindOf x == some .local) = false := by
      have e1 : X.env.kindOf x = c.sc.names.lookup x := by show X.env.scope.names.lookup x = _; rw [ok.sc]
      rw [e1]
      unfold Cc.isLocal at h
      split at h
      · cases h
      · rename_i ne
        cases e2 : c.sc.names.lookup x with
        | none => rfl
        | some k => cases k <;> first | rfl | exact absurd e2 ne
    cases e <;> first
      | rfl
      | (unfold swapsWith
         simp only [hk]
         simp)
theorem ss_set {i : Nat} {e : CE} : SSt W T (.set i e) := fun X c st ok h => by
  cases st <;> first | (cases h; done) | skip
  rename_i tgs y p
  rcases tgs with _ | ⟨tg, _ | ⟨_, _⟩⟩ <;> first | (cases h; done) | (cases tg <;> first | (cases h; done) | skip)
  rename_i x px
  have h : (decide (c.N[i]? = some x) && c.loc x && (c.fn x || c.isLocal x) && (noComp y || !c.isLocal x) && chk e c y) = true := h
  simp only [Bool.and_eq_true, decide_eq_true_eq] at h
  obtain ⟨⟨⟨⟨h1, h2⟩, h3⟩, h4⟩, h5⟩ := h
  exact ls_set (by rw [ok.N]; exact ok.nd) (by rw [ok.N]; exact h1) (ok.loc h2) (se_all W T e X c y ok h5).v (sw_set ok h4) (ok.fnl h3)
theorem ss_setlc {i : Nat} {own : Bool} {vs : List (Str × Nat)} {g : CG} {it : CI} {t : CT} {e : CE} : SSt W T (.setlc i own vs g it t e) := fun X c st ok h => by
  cases st <;> first | (cases h; done) | skip
  rename_i tgs y p
  rcases tgs with _ | ⟨tg, _ | ⟨_, _⟩⟩ <;> first | (cases h; done) | (cases tg <;> first | (cases h; done) | skip)
  cases y <;> first | (cases h; done) | skip
  rename_i x px elt gens scope pos
  rcases gens with _ | ⟨⟨tg, iter, ifs, a⟩, _ | ⟨_, _⟩⟩ <;> first | (cases h; done) | skip
  have h : (decide (c.N[i]? = some x) && c.isLocal x && c.isFn && (px.line == pos.line) && !(scope.names.any fun (n, k) => n == x && (k == .local || k == .cell)) &&
    (a == 0) && blkC c.N c.sc scope vs && noSet iter && (gslots g).all (fun i => (vs.map (·.2)).contains i) && (!it.tk || isTupG g) &&
    chkI it c tg iter && chkG g (c.blk scope) tg && chkT t (c.blk scope) ifs && chk e (c.blk scope) elt) = true := h
  simp only [Bool.and_eq_true, beq_iff_eq, decide_eq_true_eq, Bool.not_eq_true'] at h
  obtain ⟨⟨⟨⟨⟨⟨⟨⟨⟨⟨⟨⟨⟨k1, k2⟩, k3⟩, k4⟩, k5⟩, rfl⟩, h1⟩, h2⟩, h3⟩, h4⟩, h5⟩, h6⟩, h7⟩, h8⟩ := h
  refine (ps_setLc ok.calm (by rw [ok.N]; exact ok.nd) (by rw [ok.N]; exact k1) (ok.isLocal k2) (sw_true (ok.isFn k3) (ok.isLocal k2) (by simpa using k4) k5) (si_all W T it X c tg iter ok h5) (blkOk_by (by rw [ok.N, ok.sc]; exact h1))
    (fun s H C cl fp => sG (ok.blk s H scope cl C fp) h6) (fun s H C cl fp => st_all W T t _ _ ifs (ok.blk s H scope cl C fp) h7)
    (fun s H C cl fp => (se_all W T e _ _ elt (ok.blk s H scope cl C fp) h8).v) (noSet_iter h2)).mono fun D σ H ⟨F, P, sd, S, Dd, rs, rl, q, k⟩ => ?_
  exact lift_lc (own := own) (gs_sub h3) (tk_of h4) σ H _ ⟨F, P, sd, S, _, rs, rl, q, fun F1 S1 H1 dv v l1 rs1 rv q => k.nx F1 _ S1 _ H1 l1 rs1 ((rl.mono l1).set rv i) q⟩
theorem asg1 {tg : Expr} {env : Env} (h : noStar tg = true) : (assignEach [tg] env).map (·.2) = [assign tg env] := assignEach_map h
theorem ss_setg {g : CG} {e : CE} : SSt W T (.setg g e) := fun X c st ok h => by
  cases st <;> first | (cases h; done) | skip
  rename_i tgs y p
  rcases tgs with _ | ⟨tg, _ | ⟨_, _⟩⟩ <;> first | (cases h; done) | skip
  have h : (isTupG g && chkG g c tg && noComp y && noSwp tg y && chk e c y) = true := h
  simp only [Bool.and_eq_true] at h
  obtain ⟨⟨⟨⟨h1, h2⟩, h3⟩, h4⟩, h5⟩ := h
  exact ls_setG (se_all W T e X c y ok h5).v (sG ok h2) (sw_sole h3) (noSwp_is h4) (asg1 (chkG_star h2))
theorem ss_par {i j : Nat} {a b : CE} : SSt W T (.par i j a b) := fun X c st ok h => by
  cases st <;> first | (cases h; done) | skip
  rename_i tgs rhs p
  cases tgs <;> first | (cases h; done) | skip
  rename_i tg rest
  cases tg <;> first | (cases h; done) | skip
  rename_i ts k1 p1
  cases ts <;> first | (cases h; done) | skip
  rename_i t1 r1
  cases t1 <;> first | (cases h; done) | skip
  rename_i x px
  cases r1 <;> first | (cases h; done) | skip
  rename_i t2 r2
  cases t2 <;> first | (cases h; done) | skip
  rename_i y py
  cases r2 <;> first | (cases h; done) | skip
  cases rest <;> first | (cases h; done) | skip
  cases rhs <;> first | (cases h; done) | skip
  rename_i vs k2 p2
  rcases vs with _ | ⟨u, _ | ⟨v, _ | ⟨_, _⟩⟩⟩ <;> first | (cases h; done) | skip
  have h : (decide (c.N[i]? = some x) && decide (c.N[j]? = some y) && decide (i ≠ j) && noStar u && noStar v && swp c [.Name x px, .Name y py] [u, v] [x, y] && chk a c u && chk b c v) = true := h
  simp only [Bool.and_eq_true, decide_eq_true_eq] at h
  obtain ⟨⟨⟨⟨⟨⟨⟨h1, h2⟩, h3⟩, h4⟩, h5⟩, h6⟩, h7⟩, h8⟩ := h
  have hs := h6
  unfold swp at hs
  simp only [Bool.and_eq_true, List.all_cons] at hs
  exact ls_par ok.calm (by rw [ok.N]; exact ok.nd) (by rw [ok.N]; exact h1) (by rw [ok.N]; exact h2) h3 (ok.isLocal hs.1.1.1.1.2.1.1) (ok.isLocal hs.1.1.1.1.2.2.1.1) (se_all W T a X c u ok h7).v (se_all W T b X c v ok h8).v (star_cons h4) (star_cons h5) (swp_is ok h6) rfl
theorem ss_par3 {i j l : Nat} {a b d : CE} : SSt W T (.par3 i j l a b d) := fun X c st ok h => by
  cases st <;> first | (cases h; done) | skip
  rename_i tgs rhs p
  cases tgs <;> first | (cases h; done) | skip
  rename_i tg rest
  cases tg <;> first | (cases h; done) | skip
  rename_i ts k1 p1
  cases ts <;> first | (cases h; done) | skip
  rename_i t1 r1
  cases t1 <;> first | (cases h; done) | skip
  rename_i x px
  cases r1 <;> first | (cases h; done) | skip
  rename_i t2 r2
  cases t2 <;> first | (cases h; done) | skip
  rename_i y py
  cases r2 <;> first | (cases h; done) | skip
  rename_i t3 r3
  cases t3 <;> first | (cases h; done) | skip
  rename_i z pz
  cases r3 <;> first | (cases h; done) | skip
  cases rest <;> first | (cases h; done) | skip
  cases rhs <;> first | (cases h; done) | skip
  rename_i vs k2 p2
  rcases vs with _ | ⟨u, _ | ⟨v, _ | ⟨w, _ | ⟨_, _⟩⟩⟩⟩ <;> first | (cases h; done) | skip
  have h : (decide (c.N[i]? = some x) && decide (c.N[j]? = some y) && decide (c.N[l]? = some z) && decide (i ≠ j) && decide (i ≠ l) && decide (j ≠ l) &&
    noStar u && noStar v && noStar w && swp c [.Name x px, .Name y py, .Name z pz] [u, v, w] [x, y, z] && chk a c u && chk b c v && chk d c w) = true := h
  simp only [Bool.and_eq_true, decide_eq_true_eq] at h
  obtain ⟨⟨⟨⟨⟨⟨⟨⟨⟨⟨⟨⟨h1, h2⟩, h2b⟩, h3⟩, h3b⟩, h3c⟩, h4⟩, h5⟩, h5b⟩, h6⟩, h7⟩, h8⟩, h9⟩ := h
  have hs := h6
  unfold swp at hs
  simp only [Bool.and_eq_true, List.all_cons] at hs
  refine (ps_par3 ok.calm (by rw [ok.N]; exact ok.nd) (by rw [ok.N]; exact h1) (by rw [ok.N]; exact h2) (by rw [ok.N]; exact h2b) h3 h3b h3c (ok.isLocal hs.1.1.1.1.2.1.1) (ok.isLocal hs.1.1.1.1.2.2.1.1) (ok.isLocal hs.1.1.1.1.2.2.2.1.1)
    (la_cons (se_all W T a X c u ok h7).v (la_cons (se_all W T b X c v ok h8).v (la_cons (se_all W T d X c w ok h9).v la_nil (star_cons h5b)) (star_cons h5)) (star_cons h4)) (swp_is ok h6) rfl).mono fun D σ H ⟨F, P, sd, S, Dd, rs, rl, q, k⟩ => ?_
  refine ⟨F, P, sd, S, fun ds S' => match ds with | [x, y, z] => Dd.nx (((sd.set i (some x)).set j (some y)).set l (some z)) S' | _ => False, rs, rl, ?_, fun F1 S1 H1 ds vs l1 rs1 rr q1 => ?_⟩
  · exact q
  · dsimp only at q1
    split at q1
    · cases rr with
      | cons r1 rr =>
        cases rr with
        | cons r2 rr =>
          cases rr with
          | cons r3 rr =>
            cases rr
            exact ⟨_, _, _, rfl, k.nx F1 _ S1 _ H1 l1 rs1 ((((rl.mono l1).set r1 i).set r2 j).set r3 l) q1⟩
    · exact q1.elim
theorem asg_sub {o i : Expr} {pos' : Pos} {env : Env} (h : noSlice i = true) : ∀ v, assign (.Subscript o i pos') env v = (do
      let ov ← holding [v] (eval o env)
      let iv ← holding [v, ov] (eval i env)
      standAt pos'
      holding [v, ov, iv] (setItem ov iv v)
      release [v, ov, iv] []) := by
  intro v
  cases i <;> first | rfl | (cases h)
theorem ss_setix {o i e : CE} : SSt W T (.setix o i e) := fun X c st ok h => by
  cases st <;> first | (cases h; done) | skip
  rename_i tgs y p
  cases tgs <;> first | (cases h; done) | skip
  rename_i tg rest
  cases tg <;> first | (cases h; done) | skip
  rename_i x z pp
  cases rest <;> first | (cases h; done) | skip
  have h : (noSlice z && noComp y && chk o c x && chk i c z && chk e c y) = true := h
  simp only [Bool.and_eq_true] at h
  obtain ⟨⟨⟨⟨h1, h2⟩, h3⟩, h4⟩, h5⟩ := h
  exact ls_setIx ok.hu1 (se_all W T o X c x ok h3).v (se_all W T i X c z ok h4).v (se_all W T e X c y ok h5).v (asg_sub h1) (sw_sole h2) sub_swp (asg1 rfl)
theorem ss_aug {i : Nat} {o : Operator} {e : CE} : SSt W T (.aug i o e) := fun X c st ok h => by
  cases st <;> first | (cases h; done) | skip
  rename_i tg o' y p
  cases tg <;> first | (cases h; done) | skip
  rename_i x px
  have h : (decide (o = o') && okAug o && decide (c.N[i]? = some x) && c.loc x && (c.fn x || c.isLocal x) && chk e c y) = true := h
  simp only [Bool.and_eq_true, decide_eq_true_eq] at h
  obtain ⟨⟨⟨⟨⟨rfl, h0⟩, h1⟩, h2⟩, h3⟩, h5⟩ := h
  have hN : X.N.Nodup := by rw [ok.N]; exact ok.nd
  have hi : X.N[i]? = some x := by rw [ok.N]; exact h1
  cases o <;> first | (cases h0; done) | skip
  · exact ls_aug hN hi (ok.loc h2) (se_all W T e X c y ok h5).v iop_add (ok_int0 fun _ _ _ => .int _) (ok.fnl h3)
  · exact ls_aug hN hi (ok.loc h2) (se_all W T e X c y ok h5).v iop_sub ok_sub (ok.fnl h3)
theorem ss_expr {e : CE} : SSt W T (.expr e) := fun X c st ok h => by
  cases st <;> first | (cases h; done) | skip
  rename_i x p
  have h : (noComp x && chk e c x) = true := h
  rw [Bool.and_eq_true] at h
  exact ls_expr (se_all W T e X c x ok h.2).v (noComp_is h.1)
theorem ss_ret {e : CE} : SSt W T (.ret e) := fun X c st ok h => by
  cases st <;> first | (cases h; done) | skip
  rename_i x p
  cases x <;> first | (cases h; done) | skip
  exact ls_ret (se_all W T e X c _ ok h).v
theorem ss_retn : SSt W T .retn := fun X c st ok h => by
  cases st <;> first | (cases h; done) | skip
  rename_i x p
  cases x <;> first | (cases h; done) | skip
  exact ls_retN
theorem ss_ifs {t : CE} {a b : CSs} (ha : SSs W T a) (hb : SSs W T b) : SSt W T (.ifs t a b) := fun X c st ok h => by
  cases st <;> first | (cases h; done) | skip
  rename_i t' x y p
  have h : (chk t c t' && chkSs a c x && chkSs b c y) = true := h
  simp only [Bool.and_eq_true] at h
  exact ls_if (se_all W T t X c t' ok h.1.1).t (ha X c x ok h.1.2) (hb X c y ok h.2)
theorem ss_for {g : CG} {it : CI} {b : CSs} (hb : SSs W T b) : SSt W T (.for_ g it b) := fun X c st ok h => by
  cases st <;> first | (cases h; done) | skip
  rename_i tg iter body els p
  cases els <;> first | (cases h; done) | skip
  have h : (noSet iter && (!it.tk || isTupG g) && chkI it c tg iter && chkG g c tg && chkSs b c body) = true := h
  simp only [Bool.and_eq_true] at h
  obtain ⟨⟨⟨⟨h1, h2⟩, h3⟩, h4⟩, h5⟩ := h
  exact ls_for ok.po ok.calm (si_all W T it X c tg iter ok h3) (sG ok h4) (hb X c body ok h5) (tk_of h2) (noSet_iter h1)
theorem ss_while {t : CE} {b : CSs} (hb : SSs W T b) : SSt W T (.while_ t b) := fun X c st ok h => by
  cases st <;> first | (cases h; done) | skip
  rename_i t' body els p
  cases els <;> first | (cases h; done) | skip
  have h : (chk t c t' && chkSs b c body) = true := h
  rw [Bool.and_eq_true] at h
  exact ls_while ok.po (se_all W T t X c t' ok h.1).t (hb X c body ok h.2)
theorem ss_pass : SSt W T .pass := fun X c st ok h => by
  cases st <;> first | (cases h; done) | skip
  exact ls_pass
theorem ss_brk : SSt W T .brk := fun X c st ok h => by
  cases st <;> first | (cases h; done) | skip
  exact ls_break
theorem ss_cont : SSt W T .cont := fun X c st ok h => by
  cases st <;> first | (cases h; done) | skip
  exact ls_cont
theorem sss_nil : SSs W T .nil := fun X c sts ok h => by
  cases sts with
  | nil => exact ls_nil
  | cons _ _ => cases h
theorem sss_cons {s : CS} {r : CSs} (hs : SSt W T s) (hr : SSs W T r) : SSs W T (.cons s r) := fun X c sts ok h => by
  cases sts with
  | nil => cases h
  | cons x xs =>
    have h : (chkS s c x && chkSs r c xs) = true := h
    rw [Bool.and_eq_true] at h
    exact ls_cons (hs X c x ok h.1) (hr X c xs ok h.2)
theorem chk_frz {i : Nat} {r : CSs} {c : Cc} {sts : List Stmt} (h : chkSs (.frz i r) c sts = true) : chkSs r c sts = true := by
  cases sts <;> exact h
theorem sss_frz {i : Nat} {r : CSs} (hr : SSs W T r) : SSs W T (.frz i r) := fun X c sts ok h => ls_frz (hr X c sts ok (chk_frz h))
end
end DL
set_option Elab.async false
set_option linter.all false
set_option maxRecDepth 100000
set_option maxHeartbeats 1000000
/-! DL13: a loop over a dict's keys; all statements. -/
namespace DL
open PySem L2
section
variable {W : Wd} {F F' P : Hp} {S S' : Store} {H H' : Hp} {X : Cx}
theorem RS.lock (rs : RS W F P S H) {a : Addr} {od : Obj} {ws : List (Key × V)} (hF : F a = some (.dK ws)) (hH : H a = some (.dK ws)) : RS W F (upd P a (.frz od (.dK ws))) S (upd H a (.frz od (.dK ws))) := by
  refine ⟨sz_upd rs.sz (show szO (.dK ws) from by have := rs.sz _ _ hH; exact this), fun b o e => ?_, fun b o e => ?_, fun b o e => ?_, fun b o e => ?_⟩
  · by_cases z : b = a
    · subst z
      rw [hF] at e; cases e
      exact .inr ⟨od, ws, rfl, upd_same⟩
    · rw [upd_ne z]; exact rs.sub _ _ e
  · by_cases z : b = a
    · subst z; rw [upd_same] at e ⊢; exact e
    · rw [upd_ne z] at e ⊢; exact rs.prs _ _ e
  · by_cases z : b = a
    · subst z
      rw [upd_same] at e; cases e
      refine ⟨?_, .inr ⟨od, _, rfl⟩⟩
      cases eS : S b with
      | none => rfl
      | some u => have := (rs.obj _ _ eS).1; rw [hF] at this; cases this
    · rw [upd_ne z] at e; exact rs.dis _ _ e
  · obtain ⟨h1, u, h2, h3⟩ := rs.obj _ _ e
    have z : b ≠ a := by rintro rfl; rw [hF] at h1; cases h1
    exact ⟨h1, u, by rw [upd_ne z]; exact h2, h3⟩
theorem RS.unlock {a : Addr} {od : Obj} {ws : List (Key × V)} (rs : RS W F' (upd P a (.frz od (.dK ws))) S' H') (hF : F' a = some (.dK ws)) (hP : P a = Option.none) : RS W F' P S' (upd H' a (.dK ws)) := by
  have hH := rs.prs a _ upd_same
  refine ⟨sz_upd rs.sz (show szO (.dK ws) from by have := rs.sz _ _ hH; exact this), fun b o e => ?_, fun b o e => ?_, fun b o e => ?_, fun b o e => ?_⟩
  · by_cases z : b = a
    · subst z
      rw [hF] at e; cases e
      exact .inl upd_same
    · rw [upd_ne z]; exact rs.sub _ _ e
  · have z : b ≠ a := ne_of_none e hP
    rw [upd_ne z]; exact rs.prs _ _ (by rw [upd_ne z]; exact e)
  · have z : b ≠ a := ne_of_none e hP
    exact rs.dis _ _ (by rw [upd_ne z]; exact e)
  · obtain ⟨h1, u, h2, h3⟩ := rs.obj _ _ e
    have z : b ≠ a := by rintro rfl; rw [hF] at h1; cases h1
    exact ⟨h1, u, by rw [upd_ne z]; exact h2, h3⟩
theorem RS.lessP {P0 : Hp} (rs : RS W F P0 S H) (l : Le P P0) : RS W F P S H := ⟨rs.sz, rs.sub, fun a o e => rs.prs _ _ (l _ _ e), fun a o e => rs.dis _ _ (l _ _ e), rs.obj⟩
theorem keyDat_rp (k : Key) : Rp W F (keyDat k) (kV k) := by
  cases k
  · exact .int _
  · exact .str _
theorem RpK.keys : ∀ {kvs : List (Key × D)} {ws : List (Key × V)}, RpK W F kvs ws → kvs.map (fun kv => keyDat kv.1) = ws.map (fun kv => keyDat kv.1)
  | _, _, .nil => rfl
  | _, _, .cons _ t => by rw [List.map_cons, List.map_cons, RpK.keys t]
theorem keys_core {tv : TE} {a : Addr} {ob : Obj} {ws : List (Key × V)} {g : CG} {b : DSt} {sd : Slots} {σ : St} {Dd : DEnds} {D : Ends} (htv : ∀ H Q, Q (.ref a) H → tv σ H Q) (hP : P a = some (.frz ob (.dK ws))) (rs : RS W F P S H) (rl : RSl W F sd σ) (k : KS W F P Dd D)
    (h : forL (fun _ => True) g b Dd (ws.map fun kv => keyDat kv.1) sd S) : tFor (iKeys tv) (LG W g) (LS W b) D σ H := by
  refine htv H _ ⟨a, ob, rfl, .inl ⟨ws, rs.prs _ _ hP, ?_⟩⟩
  refine ⟨fun i m σ H => i ≤ ws.length ∧ m = ws.length - i ∧ ∃ F' sd' S', Le F F' ∧ RS W F' P S' H ∧ RSl W F' sd' σ ∧ forL (fun _ => True) g b Dd ((ws.map fun kv => keyDat kv.1).drop i) sd' S', ⟨ws.length, Nat.zero_le _, by simp, F, sd, S, Le.refl _, rs, rl, by simpa using h⟩, ?_⟩
  rintro i m σ1 H1 ⟨hi, rfl, F1, sd1, S1, l1, rs1, rl1, h1⟩
  have hH := rs1.prs _ _ hP
  by_cases hlt : i < ws.length
  · obtain ⟨x, ex, ed⟩ := drop_cons (xs := ws.map fun kv => keyDat kv.1) (i := i) (by rw [List.length_map]; exact hlt)
    rw [ed] at h1
    obtain ⟨_, h1⟩ := h1
    refine .inr ⟨⟨hH, hlt⟩, fun σ' H' => ∃ F' sd' S', Le F F' ∧ RS W F' P S' H' ∧ RSl W F' sd' σ' ∧ forL (fun _ => True) g b Dd ((ws.map fun kv => keyDat kv.1).drop (i + 1)) sd' S', fun σ' H' w => ⟨ws.length - (i + 1), by omega, hlt, rfl, w⟩, fun v H' y => ?_⟩
    obtain ⟨rfl, kk, vv, ek, rfl⟩ := y
    rw [List.getElem?_map, ek] at ex
    cases ex
    split at h1
    · rename_i sd2 eg
      refine ⟨F1, sd1, _, sd2, rs1.sub, rl1, .inl (keyDat_rp kk), eg, fun σ' rl' _ => ⟨F1, P, sd2, S1, _, rs1, rl', h1, ?_⟩⟩
      exact ⟨fun F' sd' S' σ' H' l rs' rl' w => ⟨F', sd', S', l1.trans l, rs', rl', w⟩, k.rt.le l1, fun F' sd' S' σ' H' l => k.nx F' sd' S' σ' H' (l1.trans l), fun F' sd' S' σ' H' l rs' rl' w => ⟨F', sd', S', l1.trans l, rs', rl', w⟩⟩
    · exact h1.elim
  · have e : i = ws.length := by omega
    subst e
    rw [List.drop_eq_nil_of_le (by rw [List.length_map]; exact Nat.le_refl _)] at h1
    exact .inl ⟨⟨hH, Nat.le_refl _⟩, k.nx F1 sd1 S1 σ1 H1 l1 rs1 rl1 h1.2⟩
theorem ls_forkeys {tg : Expr} {x : Str} {px : Pos} {body : List Stmt} {g : CG} {i : Nat} {b : DSt} {pos : Pos} (hp : PassesOwn (model X.prog X.w) X.A X.env X.xe) (hc : X.calm = true) (hN : X.N[i]? = some x) (hv : Vis X.env.scope x) (hd : (x == ("__debug__" : Str)) = false) (hcd : (x == ("__classdict__" : Str)) = false)
    (hg : PG X tg (LG W g)) (hb : PSs X body (LS W b)) : PS X (.For tg (.Name x px) body [] pos) (LS W (sForKeys i g b)) := by
  have h0 := ps_for (pos := pos) hp hc (pi_keys (pe_var (pos := px) hN hv hd hcd)) hg hb (fun _ => rfl)
  have h1 := ps_lock h0
  refine ⟨fun pins s σ H D I ⟨F, P, sd, S, Dd, rs, rl, h, k⟩ => ?_⟩
  unfold sForKeys at h
  split at h
  · rename_i kvs e
    obtain ⟨v, hv, rv⟩ := rl.at_ i _ e
    cases rv with
    | @dct _ ws a hR r =>
      rw [r.keys] at h
      have htv : ∀ H Q, Q (.ref a) H → tVar i σ H Q := fun H Q q => ⟨.ref a, hv, q⟩
      have hRH := rs.sub.rd hR
      have two : (∃ ob, H a = some (.frz ob (.dK ws))) ∨ (F a = some (.dK ws) ∧ H a = some (.dK ws)) := by
        rcases hRH with hH | ⟨ob, hH⟩
        · rcases hR with hF | ⟨o', hF⟩
          · exact .inr ⟨hF, hH⟩
          · rcases rs.sub _ _ hF with q | ⟨_, _, q, _⟩
            · rw [hH] at q; cases q
            · cases q
        · exact .inl ⟨ob, hH⟩
      rcases two with ⟨ob, hH⟩ | ⟨hF, hH⟩
      · have l : Le P (upd P a (.frz ob (.dK ws))) := fun b o e => by
          by_cases z : b = a
          · subst z; rw [upd_same, ← rs.prs _ _ e, hH]
          · rw [upd_ne z]; exact e
        have nS : S a = none := by
          cases eS : S a with
          | none => rfl
          | some u =>
            have := (rs.obj _ _ eS).1
            rcases hR with q | ⟨_, q⟩ <;> (rw [this] at q; cases q)
        have rs0 : RS W F (upd P a (.frz ob (.dK ws))) S H := by
          refine ⟨rs.sz, rs.sub, fun b o e => ?_, fun b o e => ?_, rs.obj⟩
          · by_cases z : b = a
            · subst z; rw [upd_same] at e; cases e; exact hH
            · rw [upd_ne z] at e; exact rs.prs _ _ e
          · by_cases z : b = a
            · subst z; rw [upd_same] at e; cases e; exact ⟨nS, .inr ⟨_, _, rfl⟩⟩
            · rw [upd_ne z] at e; exact rs.dis _ _ e
        refine h0.run pins s σ H D I (keys_core htv upd_same rs0 rl ⟨fun F' sd' S' σ' H' l' rs' rl' q => k.nx F' sd' S' σ' H' l' (rs'.lessP l) rl' q, fun F' S' H' d v l' rs' rv q => k.rt F' S' H' d v l' (rs'.lessP l) rv q,
          fun F' sd' S' σ' H' l' rs' rl' q => k.bk F' sd' S' σ' H' l' (rs'.lessP l) rl' q, fun F' sd' S' σ' H' l' rs' rl' q => k.ct F' sd' S' σ' H' l' (rs'.lessP l) rl' q⟩ h)
      · have hP : P a = none := by
          cases eP : P a with
          | none => rfl
          | some o =>
            have := rs.prs _ _ eP
            rw [hH] at this; cases this
            rcases (rs.dis _ _ eP).2 with q | ⟨_, _, q⟩
            · rw [hF] at q; cases q
            · cases q
        refine h1.run pins s σ H D I ⟨a, .dK ws, hH, trivial, fun od => keys_core htv upd_same (rs.lock (od := od) hF hH) rl ?_ h⟩
        exact ⟨fun F' sd' S' σ' H' l' rs' rl' q => ⟨rs'.prs _ _ upd_same, k.nx F' sd' S' σ' _ l' (rs'.unlock (l' _ _ hF) hP) rl' q⟩, fun F' S' H' d v l' rs' rv q => ⟨rs'.prs _ _ upd_same, k.rt F' S' _ d v l' (rs'.unlock (l' _ _ hF) hP) rv q⟩,
          fun F' sd' S' σ' H' l' rs' rl' q => ⟨rs'.prs _ _ upd_same, k.bk F' sd' S' σ' _ l' (rs'.unlock (l' _ _ hF) hP) rl' q⟩, fun F' sd' S' σ' H' l' rs' rl' q => ⟨rs'.prs _ _ upd_same, k.ct F' sd' S' σ' _ l' (rs'.unlock (l' _ _ hF) hP) rl' q⟩⟩
  · exact h.elim
end
section
variable {W : Wd} {T : Tb}
theorem ss_forkeys {g : CG} {i : Nat} {b : CSs} (hb : SSs W T b) : SSt W T (.forkeys g i b) := fun X c st ok h => by
  cases st <;> first | (cases h; done) | skip
  rename_i tg iter body els p
  cases iter <;> first | (cases h; done) | skip
  rename_i x px
  cases els <;> first | (cases h; done) | skip
  have h : (decide (c.N[i]? = some x) && c.vis x && okName x && chkG g c tg && chkSs b c body) = true := h
  simp only [Bool.and_eq_true, decide_eq_true_eq] at h
  obtain ⟨⟨⟨⟨h1, h2⟩, h3⟩, h4⟩, h5⟩ := h
  obtain ⟨n1, n2, _⟩ := okName_is h3
  exact ls_forkeys ok.po ok.calm (by rw [ok.N]; exact h1) (ok.vis h2) n1 n2 (sG ok h4) (hb X c body ok h5)
mutual
theorem ss_all (W : Wd) (T : Tb) : ∀ cs : CS, SSt W T cs
  | .expr _ => ss_expr | .ret _ => ss_ret | .retn => ss_retn | .set _ _ => ss_set | .setlc .. => ss_setlc | .setg _ _ => ss_setg | .par .. => ss_par | .par3 .. => ss_par3 | .setix .. => ss_setix | .aug .. => ss_aug
  | .ifs _ a b => ss_ifs (sss_all W T a) (sss_all W T b)
  | .for_ _ _ b => ss_for (sss_all W T b)
  | .forkeys _ _ b => ss_forkeys (sss_all W T b)
  | .while_ _ b => ss_while (sss_all W T b)
  | .pass => ss_pass | .brk => ss_brk | .cont => ss_cont
theorem sss_all (W : Wd) (T : Tb) : ∀ cs : CSs, SSs W T cs
  | .nil => sss_nil
  | .cons s r => sss_cons (ss_all W T s) (sss_all W T r)
  | .frz _ r => sss_frz (sss_all W T r)
end
end
end DL
set_option Elab.async false
set_option linter.all false
set_option maxRecDepth 100000
set_option maxHeartbeats 1000000
/-! DL14: defs by their core; lists of defs; the law's end. -/
namespace DL
open PySem L2
/-- a def that keeps its promise, and is known to the others -/
structure Fk (P : Program) (w : World) (mg : Str → Option Value) (base : Heap) (W : Wd) (k : Nat) (x : Str) (n : Nat) (kws : List (List Str × List Nat)) (sp : DSp) : Prop where
  ex : ∃ a fd ps, FnOk P w W.K mg base CX0 k a fd ps (LSp W n sp) ∧ mg x = some (.ref a) ∧ PySem.W.keepIn W.K (.ref a) = true ∧ Binds W.K fd ps [] ∧ ∀ kp ∈ kws, KBn W.K fd ps 0 kp.1 (permV kp.2) (permV kp.2)
structure Fe where
  x : Str
  n : Nat
  kws : List (List Str × List Nat)
  sp : DSp
def Fks (P : Program) (w : World) (mg : Str → Option Value) (base : Heap) (W : Wd) (k : Nat) (xs : List Fe) : Prop := ∀ (j : Nat) (e : Fe), xs[j]? = some e → Fk P w mg base W k e.x e.n e.kws e.sp
def mkT (xs : List Fe) (g : List D) : Tb := ⟨fun j => (xs[j]?).map fun e => (e.n, e.sp), fun j => ((xs[j]?).map (·.kws)).getD [], fun j => g[j]?⟩
section
variable {P : Program} {w : World} {mg : Str → Option Value} {base : Heap} {W : Wd} {k : Nat}
theorem Fk.mono {j : Nat} {x : Str} {n : Nat} {kws : List (List Str × List Nat)} {sp : DSp} (f : Fk P w mg base W j x n kws sp) (h : j ≤ k) : Fk P w mg base W k x n kws sp :=
  let ⟨a, fd, ps, G, r⟩ := f.ex; ⟨a, fd, ps, G.mono h, r⟩
theorem Fk.imp {x : Str} {n : Nat} {kws : List (List Str × List Nat)} {sp sp' : DSp} (f : Fk P w mg base W k x n kws sp) (h : ∀ ds S Q, sp' ds S Q → sp ds S Q) : Fk P w mg base W k x n kws sp' :=
  let ⟨a, fd, ps, G, r⟩ := f.ex; ⟨a, fd, ps, G.imp fun vs H Q E ⟨F, P', ds, S, Qd, h1, h2, h3, h4, h5⟩ => ⟨F, P', ds, S, Qd, h1, h2, h3, h _ _ _ h4, h5⟩, r⟩
theorem Fks.nil : Fks P w mg base W k [] := fun j e h => by cases j <;> cases h
theorem Fks.snoc {xs : List Fe} {e : Fe} (h : Fks P w mg base W k xs) (f : Fk P w mg base W (k + 1) e.x e.n e.kws e.sp) : Fks P w mg base W (k + 1) (xs ++ [e]) := fun j e' he => by
  rcases Nat.lt_trichotomy j xs.length with q | q | q
  · rw [List.getElem?_append_left q] at he
    exact (h j e' he).mono (Nat.le_succ _)
  · subst q
    rw [List.getElem?_append_right (Nat.le_refl _), Nat.sub_self] at he
    cases he
    exact f
  · rw [List.getElem?_append_right (Nat.le_of_lt q)] at he
    have : 1 ≤ j - xs.length := by omega
    cases e2 : j - xs.length with
    | zero => omega
    | succ m => rw [e2] at he; cases he
theorem Fks.mono {j : Nat} {xs : List Fe} (h : Fks P w mg base W j xs) (l : j ≤ k) : Fks P w mg base W k xs := fun i e he => (h i e he).mono l
/-- the module's own names -/
structure Gs (mg : Str → Option Value) (W : Wd) (gls : List Str) (g : List D) (bl : List Str) : Prop where
  glb : ∀ (j : Nat) (x : Str) (d : D), g[j]? = some d → gls[j]? = some x → ∃ u v, mg x = some u ∧ RelV v u ∧ ∀ F, Rp W F d v
  blt : ∀ x, bl.contains x = true → mg x = none
def ccOf (st : Stmt) (N : List Str) (bl : List Str) (xs : List Fe) (gls : List Str) : Cc := ⟨defScope st, N, fun _ => true, bl, xs.map (·.x), gls⟩
/-- what is told of a def's place -/
structure Dd (K : PySem.W.Frag) (mg : Str → Option Value) (x : Str) (st : Stmt) (ps : List Str) (kws : List (List Str × List Nat)) : Prop where
  ex : ∃ a fd, Fun K x x st a fd ∧ mg x = some (.ref a) ∧ Binds K fd ps [] ∧ ∀ kp ∈ kws, KBn K fd ps 0 kp.1 (permV kp.2) (permV kp.2)
theorem def_fn {x : Str} {st : Stmt} {N ps : List Str} {sp : DSp} {core : CSs} {xs : List Fe} {g : List D} {gls bl : List Str} {a : Addr} {fd : FuncData} (Fn : Fun W.K x x st a fd) (Sc : FnScope N ps (defScope st)) (L : Fks P w mg base W k xs) (G : Gs mg W gls g bl)
    (hchk : chkSs core (ccOf st N bl xs gls) (defBody st) = true)
    (hsp : ∀ ds S Q, sp ds S Q → ds.length = ps.length → denSs (mkT xs g) core { nx := fun _ S' => rtQ Q .non S', rt := rtQ Q } (start0 N.length ds) S) : FnOk P w W.K mg base CX0 (k + 1) a fd ps (LSp W ps.length sp) := by
  refine fn_rule Fn Sc (fun cdv A outer s H E hr => ?_) hsp
  refine sss_all W (mkT xs g) core _ _ _ ?_ hchk
  refine ⟨rfl, rfl, rfl, Sc.nd, rfl, hr.units, fun x z => rfl, rfl, fun j f n sp h1 h2 => ?_, fun j x d h1 h2 => G.glb j x d h1 h2, G.blt⟩
  cases e : xs[j]? with
  | none =>
    have h1 : (xs[j]?).map (fun e => (e.n, e.sp)) = some (n, sp) := h1
    rw [e] at h1; cases h1
  | some u =>
    have h1 : (xs[j]?).map (fun e => (e.n, e.sp)) = some (n, sp) := h1
    have h2 : (xs.map (·.x))[j]? = some f := h2
    rw [List.getElem?_map] at h2
    rw [e] at h1 h2
    cases h1
    cases h2
    obtain ⟨a, fd, ps, G, hm, hk, hb, hkb⟩ := (L j u e).ex
    refine ⟨k, a, fd, ps, G, hr, hm, hk, hb, fun kp hkp => hkb kp ?_⟩
    have hkp : kp ∈ ((xs[j]?).map (·.kws)).getD [] := hkp
    rw [e] at hkp
    exact hkp
theorem def_rule {x : Str} {st : Stmt} {N ps : List Str} {kws : List (List Str × List Nat)} {sp : DSp} {core : CSs} {xs : List Fe} {g : List D} {gls bl : List Str} (dd : Dd W.K mg x st ps kws) (Sc : FnScope N ps (defScope st)) (L : Fks P w mg base W k xs) (G : Gs mg W gls g bl)
    (hchk : chkSs core (ccOf st N bl xs gls) (defBody st) = true)
    (hsp : ∀ ds S Q, sp ds S Q → ds.length = ps.length → denSs (mkT xs g) core { nx := fun _ S' => rtQ Q .non S', rt := rtQ Q } (start0 N.length ds) S) : Fk P w mg base W (k + 1) x ps.length kws sp := by
  obtain ⟨a, fd, Fn, hm, hb, hk⟩ := dd.ex
  exact ⟨a, fd, ps, def_fn Fn Sc L G hchk hsp, hm, Fn.kp, hb, hk⟩
/-- a promise that is never asked for -/
theorem Fk.never {x : Str} {st : Stmt} {ps : List Str} {kws : List (List Str × List Nat)} (dd : Dd W.K mg x st ps kws) : Fk P w mg base W k x ps.length kws (fun _ _ _ => False) :=
  let ⟨a, fd, Fn, hm, hb, hk⟩ := dd.ex
  ⟨a, fd, ps, ⟨fun vs H Q E ⟨_, _, _, _, _, _, _, _, h, _⟩ => h.elim, fun A outer s H args us vs Q E _ _ _ _ ⟨_, _, _, _, _, _, _, _, h, _⟩ => h.elim⟩, hm, Fn.kp, hb, hk⟩
end
/-- the law's promise, as its head asks it -/
def spLaw0 (n : Nat) (K : PySem.W.Frag) : Sp := fun vs H Q _ => ∃ (a : Addr) (ns : List Int), vs = [.ref a] ∧ Only H ∧ SqL K H a (ns.map V.int) ∧ ns.length ≤ n ∧ ∀ H', Q (.bl true) H'
/-- the law's promise on data: the script, True -/
def spLawD (n : Nat) : DSp := fun ds S Q => ∃ ns : List Int, ds = [.scr ns] ∧ ns.length ≤ n ∧ (∀ a, S a = none) ∧ ∀ S', Q (.bl true) S'
theorem law_fn {P : Program} {w : World} {mg : Str → Option Value} {base : Heap} {W : Wd} {k : Nat} {x : Str} {st : Stmt} {ps : List Str} {n : Nat} {fd : FuncData} {f : Addr} (F : FnOk P w W.K mg base CX0 k f fd ps (LSp W 1 (spLawD n))) (hps : ps.length = 1) : FnOk P w W.K mg base CX0 k f fd ps (spLaw0 n W.K) := by
  refine ⟨fun vs H Q E ⟨a, ns, h, _⟩ => by rw [h, hps]; rfl, fun A outer s H args us vs Q E hr e0 hb r ⟨a, ns, h1, h2, h3, h4, h5⟩ => ?_⟩
  refine F.run A outer s H args us vs Q E hr e0 hb r ⟨H, fun _ => none, [.scr ns], fun _ => none, fun d _ => d = .bl true, ?_, ?_, rfl, ⟨ns, rfl, h4, fun _ => rfl, fun _ => rfl⟩, ?_⟩
  · refine ⟨fun b o e => ?_, fun b o e => .inl e, fun b o e => (by cases e), fun b o e => (by cases e), fun b o e => (by cases e)⟩
    rcases h2 b with z | ⟨ob, xs, z⟩
    · rw [z] at e; cases e
    · rw [z] at e; cases e
      have ho := e0.hok b _ z
      exact ho.2.1
  · subst h1
    exact .cons (.scr h3) .nil
  · intro F' S' H' d v l rs' rv q
    subst q
    cases rv
    exact h5 H'
section
variable {K : PySem.W.Frag} {h : Heap} {mg : Str → Option Value}
theorem dd_mk {x : Str} {st : Stmt} {f : Addr} {oc : Value} {od an : Option Addr} {osl : Array (Option Value)} {kV doc pm cdv ct : Value} {ps : List Str} {kws : List (List Str × List Nat)} (X : K.In h) (G : h.Ns mainGlobals mg)
    (a : PySem.W.nsIn K mainGlobals x = some (some (.ref f))) (l : K.lookup f = some ⟨oc, od, .func (PySem.W.fnOf x x (defArgs st) (defBody st) (defScope st) .none kV doc pm an cdv ct), osl⟩) (c : PySem.W.codeIn K cdv x = true) (k : PySem.W.keepIn K (.ref f) = true)
    (hb : ∀ (kV doc pm : Value) (an : Option Addr) (cdv ct : Value) (us : List Value), us.length = ps.length → bindArgs (PySem.W.fnOf x x (defArgs st) (defBody st) (defScope st) .none kV doc pm an cdv ct) ⟨us, []⟩ = pure (ps.zip us))
    (hk : ∀ kp ∈ kws, ∀ (kV doc pm : Value) (an : Option Addr) (cdv ct : Value) (ws : List Value), ws.length = kp.1.length → bindArgs (PySem.W.fnOf x x (defArgs st) (defBody st) (defScope st) .none kV doc pm an cdv ct) ⟨[], kp.1.zip ws⟩ = pure (ps.zip (permV kp.2 [] ws))) : Dd K mg x st ps kws := by
  refine ⟨f, _, fun_mk (st := st) l c k, PySem.W.mg_of X G a, (fun_mk (st := st) l c k).binds hb, fun kp hkp => ⟨fun s us ws hX h1 h2 => ?_, fun {vs us zs ws} r1 r2 => ?_⟩⟩
  · have e : us = [] := List.length_eq_zero_iff.mp h1
    subst e
    exact .of_eq (hk kp hkp kV doc pm an cdv ct ws h2)
  · exact permV_rel r2 kp.2
end
theorem law_walk {l : PySem.W.OpenLaw} {q : Program} {loose : List Str} {XP : (Str → Option Value) → Heap → Prop} {YP : World → Heap → Prop} {d : DefRec} {K : Params → PySem.W.Frag} {k : Nat} {cm : PySem.W.Frag → Str → Option Addr} (hn : l.most = some 63) (hdf : d.params.defaults = []) (hr : Room k callerA)
    (hY : ∀ (w : World) (h : Heap), YP w h → (K w.params).In h)
    (F : ∀ (w : World) (mg : Str → Option Value) (fa : Addr) (h : Heap), (K w.params).In h → h.Ns mainGlobals mg → mg d.name = some (.ref fa) →
      ∃ fd : FuncData, (∀ (s : Shared) (u : Value), BindsTo s fd ⟨[u], []⟩ [("script", u)]) ∧ ∀ base : Heap, (K w.params).In base → base.Ns mainGlobals mg → FnOk l.prog w (K w.params) mg base CX0 k fa fd ["script"] (spLaw0 63 (K w.params))) :
    PySem.W.WalkO q loose XP YP l.row.toRowW d [] (fun f vs => PySem.call f vs) :=
  L2.walk_of (n := 63) (k := k) (x := "script") (CX := fun _ => CX0) (sp := fun w => spLaw0 63 (K w.params)) hn (by decide) hdf hr hY F (fun w H a ns hl hO hS => ⟨a, ns, rfl, hO, hS, hl, fun _ => rfl⟩) fun _ _ _ _ _ z => z
/-- from the law's def to its head -/
theorem law_end {P : Program} {w : World} {mg : Str → Option Value} {W : Wd} {k : Nat} {fa : Addr} {st : Stmt} {h : Heap} {oc : Value} {od an : Option Addr} {osl : Array (Option Value)} {kV doc pm cdv ct : Value} {f : Addr} (X : W.K.In h) (G : h.Ns mainGlobals mg) (hfa : mg "law" = some (.ref fa))
    (a : PySem.W.nsIn W.K mainGlobals "law" = some (some (.ref f))) (l : W.K.lookup f = some ⟨oc, od, .func (PySem.W.fnOf "law" "law" (defArgs st) (defBody st) (defScope st) .none kV doc pm an cdv ct), osl⟩)
    (hb : ∀ (kV doc pm : Value) (an : Option Addr) (cdv ct : Value) (us : List Value), us.length = 1 → bindArgs (PySem.W.fnOf "law" "law" (defArgs st) (defBody st) (defScope st) .none kV doc pm an cdv ct) ⟨us, []⟩ = pure ((["script"] : List Str).zip us))
    (c : PySem.W.codeIn W.K cdv "law" = true) (kp : PySem.W.keepIn W.K (.ref f) = true)
    (F : ∀ (base : Heap) (a : Addr) (fd : FuncData), W.K.In base → base.Ns mainGlobals mg → Fun W.K "law" "law" st a fd → FnOk P w W.K mg base CX0 k a fd ["script"] (LSp W 1 (spLawD 63))) :
    ∃ fd : FuncData, (∀ (s : Shared) (u : Value), BindsTo s fd ⟨[u], []⟩ [("script", u)]) ∧ ∀ base : Heap, W.K.In base → base.Ns mainGlobals mg → FnOk P w W.K mg base CX0 k fa fd ["script"] (spLaw0 63 W.K) := by
  have e := hfa.symm.trans (PySem.W.mg_of X G a)
  cases e
  exact ⟨_, fun s v => .of_eq (hb kV doc pm an cdv ct [v] rfl), fun base h1 h2 => law_fn (st := st) (x := "law") (F base _ _ h1 h2 (fun_mk (st := st) l c kp)) rfl⟩
end DL
set_option Elab.async false
set_option linter.all false
set_option maxRecDepth 100000
set_option maxHeartbeats 1000000
/-! DL15: small equations by which readings are worked out. -/
namespace DL
open PySem L2
variable {S : Store}
theorem tyD_non  : tyD S .non = some "NoneType" := rfl
theorem tyD_bl {b : Bool} : tyD S (.bl b) = some "bool" := rfl
theorem tyD_int {i : Int} : tyD S (.int i) = some "int" := rfl
theorem tyD_str {s : Str} : tyD S (.str s) = some "str" := rfl
theorem tyD_tup {xs : List D} : tyD S (.tup xs) = some "tuple" := rfl
theorem tyD_lst {xs : List D} : tyD S (.lst xs) = some "list" := rfl
theorem tyD_dct {xs : List (Key × D)} : tyD S (.dct xs) = some "dict" := rfl
theorem truD_non  : truD S .non = some false := rfl
theorem truD_bl {b : Bool} : truD S (.bl b) = some b := rfl
theorem truD_int {i : Int} : truD S (.int i) = some (i != 0) := rfl
theorem truD_tup {xs : List D} : truD S (.tup xs) = some (!xs.isEmpty) := rfl
theorem truD_lst {xs : List D} : truD S (.lst xs) = some (!xs.isEmpty) := rfl
theorem truD_dct {xs : List (Key × D)} : truD S (.dct xs) = some (!xs.isEmpty) := rfl
theorem asL_non  : asL S .non = none := rfl
theorem asD_non  : asD S .non = none := rfl
theorem keyD_non  : keyD .non = none := rfl
theorem asL_bl {b : Bool} : asL S (.bl b) = none := rfl
theorem asD_bl {b : Bool} : asD S (.bl b) = none := rfl
theorem keyD_bl {b : Bool} : keyD (.bl b) = none := rfl
theorem asL_int {i : Int} : asL S (.int i) = none := rfl
theorem asD_int {i : Int} : asD S (.int i) = none := rfl
theorem keyD_int {i : Int} : keyD (.int i) = some (.inl i) := rfl
theorem asL_str {s : Str} : asL S (.str s) = none := rfl
theorem asD_str {s : Str} : asD S (.str s) = none := rfl
theorem keyD_str {s : Str} : keyD (.str s) = some (.inr s) := rfl
theorem asL_tup {xs : List D} : asL S (.tup xs) = none := rfl
theorem asD_tup {xs : List D} : asD S (.tup xs) = none := rfl
theorem keyD_tup {xs : List D} : keyD (.tup xs) = none := rfl
theorem asL_lst {xs : List D} : asL S (.lst xs) = some xs := rfl
theorem asD_lst {xs : List D} : asD S (.lst xs) = none := rfl
theorem keyD_lst {xs : List D} : keyD (.lst xs) = none := rfl
theorem asL_dct {xs : List (Key × D)} : asL S (.dct xs) = none := rfl
theorem asD_dct {xs : List (Key × D)} : asD S (.dct xs) = some xs := rfl
theorem keyD_dct {xs : List (Key × D)} : keyD (.dct xs) = none := rfl
theorem asL_scr {xs : List Int} : asL S (.scr xs) = none := rfl
theorem asD_scr {xs : List Int} : asD S (.scr xs) = none := rfl
theorem keyD_scr {xs : List Int} : keyD (.scr xs) = none := rfl
theorem asL_ref {a : Addr} {xs : List D} (h : S a = some (.lst xs)) : asL S (.ref a) = some xs := by simp only [asL, h]
theorem asL_refD {a : Addr} {xs : List (Key × D)} (h : S a = some (.dct xs)) : asL S (.ref a) = none := by simp only [asL, h]
theorem asD_ref {a : Addr} {xs : List (Key × D)} (h : S a = some (.dct xs)) : asD S (.ref a) = some xs := by simp only [asD, h]
theorem isLs_ref {a : Addr} {xs : List D} (h : S a = some (.lst xs)) : isLs S (.ref a) = true := by simp only [isLs, h]
theorem tyD_refL {a : Addr} {xs : List D} (h : S a = some (.lst xs)) : tyD S (.ref a) = some "list" := by simp only [tyD, h]
theorem tyD_refD {a : Addr} {xs : List (Key × D)} (h : S a = some (.dct xs)) : tyD S (.ref a) = some "dict" := by simp only [tyD, h]
theorem asL_sup {a : Addr} {xs : List D} : asL (sup S a (.lst xs)) (.ref a) = some xs := asL_ref sup_same
theorem asD_sup {a : Addr} {xs : List (Key × D)} : asD (sup S a (.dct xs)) (.ref a) = some xs := asD_ref sup_same
theorem asL_supD {a : Addr} {xs : List (Key × D)} : asL (sup S a (.dct xs)) (.ref a) = none := asL_refD sup_same
theorem isLs_sup {a : Addr} {xs : List D} : isLs (sup S a (.lst xs)) (.ref a) = true := isLs_ref sup_same
theorem tyD_supL {a : Addr} {xs : List D} : tyD (sup S a (.lst xs)) (.ref a) = some "list" := tyD_refL sup_same
theorem tyD_supD {a : Addr} {xs : List (Key × D)} : tyD (sup S a (.dct xs)) (.ref a) = some "dict" := tyD_refD sup_same
theorem ixN_1_0 : ixN 1 0 = some 0 := rfl
theorem ixN_2_0 : ixN 2 0 = some 0 := rfl
theorem ixN_2_1 : ixN 2 1 = some 1 := rfl
theorem ixN_3_0 : ixN 3 0 = some 0 := rfl
theorem ixN_3_1 : ixN 3 1 = some 1 := rfl
theorem ixN_3_2 : ixN 3 2 = some 2 := rfl
theorem ixN_4_0 : ixN 4 0 = some 0 := rfl
theorem ixN_4_1 : ixN 4 1 = some 1 := rfl
theorem ixN_4_2 : ixN 4 2 = some 2 := rfl
theorem ixN_4_3 : ixN 4 3 = some 3 := rfl
theorem ixN_5_0 : ixN 5 0 = some 0 := rfl
theorem ixN_5_1 : ixN 5 1 = some 1 := rfl
theorem ixN_5_2 : ixN 5 2 = some 2 := rfl
theorem ixN_5_3 : ixN 5 3 = some 3 := rfl
theorem ixN_5_4 : ixN 5 4 = some 4 := rfl
theorem ixN_6_0 : ixN 6 0 = some 0 := rfl
theorem ixN_6_1 : ixN 6 1 = some 1 := rfl
theorem ixN_6_2 : ixN 6 2 = some 2 := rfl
theorem ixN_6_3 : ixN 6 3 = some 3 := rfl
theorem ixN_6_4 : ixN 6 4 = some 4 := rfl
theorem ixN_6_5 : ixN 6 5 = some 5 := rfl
theorem ixN_7_0 : ixN 7 0 = some 0 := rfl
theorem ixN_7_1 : ixN 7 1 = some 1 := rfl
theorem ixN_7_2 : ixN 7 2 = some 2 := rfl
theorem ixN_7_3 : ixN 7 3 = some 3 := rfl
theorem ixN_7_4 : ixN 7 4 = some 4 := rfl
theorem ixN_7_5 : ixN 7 5 = some 5 := rfl
theorem ixN_7_6 : ixN 7 6 = some 6 := rfl
theorem ixN_8_0 : ixN 8 0 = some 0 := rfl
theorem ixN_8_1 : ixN 8 1 = some 1 := rfl
theorem ixN_8_2 : ixN 8 2 = some 2 := rfl
theorem ixN_8_3 : ixN 8 3 = some 3 := rfl
theorem ixN_8_4 : ixN 8 4 = some 4 := rfl
theorem ixN_8_5 : ixN 8 5 = some 5 := rfl
theorem ixN_8_6 : ixN 8 6 = some 6 := rfl
theorem ixN_8_7 : ixN 8 7 = some 7 := rfl
theorem atI_0 {α : Type} {x0 : α} {r : List α} : atI (x0 :: r) 0 = some x0 := by
  unfold atI ixN
  rw [if_pos (by decide), if_pos (by simp only [List.length_cons]; omega)]; rfl
theorem atI_1 {α : Type} {x0 x1 : α} {r : List α} : atI (x0 :: x1 :: r) 1 = some x1 := by
  unfold atI ixN
  rw [if_pos (by decide), if_pos (by simp only [List.length_cons]; omega)]; rfl
theorem atI_2 {α : Type} {x0 x1 x2 : α} {r : List α} : atI (x0 :: x1 :: x2 :: r) 2 = some x2 := by
  unfold atI ixN
  rw [if_pos (by decide), if_pos (by simp only [List.length_cons]; omega)]; rfl
theorem atI_3 {α : Type} {x0 x1 x2 x3 : α} {r : List α} : atI (x0 :: x1 :: x2 :: x3 :: r) 3 = some x3 := by
  unfold atI ixN
  rw [if_pos (by decide), if_pos (by simp only [List.length_cons]; omega)]; rfl
theorem atI_4 {α : Type} {x0 x1 x2 x3 x4 : α} {r : List α} : atI (x0 :: x1 :: x2 :: x3 :: x4 :: r) 4 = some x4 := by
  unfold atI ixN
  rw [if_pos (by decide), if_pos (by simp only [List.length_cons]; omega)]; rfl
theorem atI_5 {α : Type} {x0 x1 x2 x3 x4 x5 : α} {r : List α} : atI (x0 :: x1 :: x2 :: x3 :: x4 :: x5 :: r) 5 = some x5 := by
  unfold atI ixN
  rw [if_pos (by decide), if_pos (by simp only [List.length_cons]; omega)]; rfl
theorem atI_6 {α : Type} {x0 x1 x2 x3 x4 x5 x6 : α} {r : List α} : atI (x0 :: x1 :: x2 :: x3 :: x4 :: x5 :: x6 :: r) 6 = some x6 := by
  unfold atI ixN
  rw [if_pos (by decide), if_pos (by simp only [List.length_cons]; omega)]; rfl
theorem atI_7 {α : Type} {x0 x1 x2 x3 x4 x5 x6 x7 : α} {r : List α} : atI (x0 :: x1 :: x2 :: x3 :: x4 :: x5 :: x6 :: x7 :: r) 7 = some x7 := by
  unfold atI ixN
  rw [if_pos (by decide), if_pos (by simp only [List.length_cons]; omega)]; rfl
theorem atI_8 {α : Type} {x0 x1 x2 x3 x4 x5 x6 x7 x8 : α} {r : List α} : atI (x0 :: x1 :: x2 :: x3 :: x4 :: x5 :: x6 :: x7 :: x8 :: r) 8 = some x8 := by
  unfold atI ixN
  rw [if_pos (by decide), if_pos (by simp only [List.length_cons]; omega)]; rfl
theorem isi_NoneType_bool : isiB "NoneType" "bool" = false := by decide
theorem isi_NoneType_int : isiB "NoneType" "int" = false := by decide
theorem isi_NoneType_str : isiB "NoneType" "str" = false := by decide
theorem isi_NoneType_tuple : isiB "NoneType" "tuple" = false := by decide
theorem isi_NoneType_list : isiB "NoneType" "list" = false := by decide
theorem isi_NoneType_dict : isiB "NoneType" "dict" = false := by decide
theorem isi_bool_bool : isiB "bool" "bool" = true := by decide
theorem isi_bool_int : isiB "bool" "int" = true := by decide
theorem isi_bool_str : isiB "bool" "str" = false := by decide
theorem isi_bool_tuple : isiB "bool" "tuple" = false := by decide
theorem isi_bool_list : isiB "bool" "list" = false := by decide
theorem isi_bool_dict : isiB "bool" "dict" = false := by decide
theorem isi_int_bool : isiB "int" "bool" = false := by decide
theorem isi_int_int : isiB "int" "int" = true := by decide
theorem isi_int_str : isiB "int" "str" = false := by decide
theorem isi_int_tuple : isiB "int" "tuple" = false := by decide
theorem isi_int_list : isiB "int" "list" = false := by decide
theorem isi_int_dict : isiB "int" "dict" = false := by decide
theorem isi_str_bool : isiB "str" "bool" = false := by decide
theorem isi_str_int : isiB "str" "int" = false := by decide
theorem isi_str_str : isiB "str" "str" = true := by decide
theorem isi_str_tuple : isiB "str" "tuple" = false := by decide
theorem isi_str_list : isiB "str" "list" = false := by decide
theorem isi_str_dict : isiB "str" "dict" = false := by decide
theorem isi_tuple_bool : isiB "tuple" "bool" = false := by decide
theorem isi_tuple_int : isiB "tuple" "int" = false := by decide
theorem isi_tuple_str : isiB "tuple" "str" = false := by decide
theorem isi_tuple_tuple : isiB "tuple" "tuple" = true := by decide
theorem isi_tuple_list : isiB "tuple" "list" = false := by decide
theorem isi_tuple_dict : isiB "tuple" "dict" = false := by decide
theorem isi_list_bool : isiB "list" "bool" = false := by decide
theorem isi_list_int : isiB "list" "int" = false := by decide
theorem isi_list_str : isiB "list" "str" = false := by decide
theorem isi_list_tuple : isiB "list" "tuple" = false := by decide
theorem isi_list_list : isiB "list" "list" = true := by decide
theorem isi_list_dict : isiB "list" "dict" = false := by decide
theorem isi_dict_bool : isiB "dict" "bool" = false := by decide
theorem isi_dict_int : isiB "dict" "int" = false := by decide
theorem isi_dict_str : isiB "dict" "str" = false := by decide
theorem isi_dict_tuple : isiB "dict" "tuple" = false := by decide
theorem isi_dict_list : isiB "dict" "list" = false := by decide
theorem isi_dict_dict : isiB "dict" "dict" = true := by decide
end DL
set_option Elab.async false
set_option linter.all false
set_option maxRecDepth 100000
set_option maxHeartbeats 1000000
/-! DL16: loops and comprehensions by invariants; sizes of numbers. -/
namespace DL
open PySem L2

/-- a for loop, by what is left -/
theorem forL_ind {chk : Store → Prop} {g : CG} {b : DSt} {E : DEnds} (I : List D → Slots → Store → Prop)
    (step : ∀ x xs sd S, I (x :: xs) sd S → chk S ∧ ∃ sd', gset g x sd = some sd' ∧ ∀ K : Slots → Store → Prop, (∀ sd2 S2, I xs sd2 S2 → K sd2 S2) → b { E with nx := K, ct := K, bk := E.nx } sd' S)
    (done : ∀ sd S, I [] sd S → chk S ∧ E.nx sd S) : ∀ xs sd S, I xs sd S → forL chk g b E xs sd S
  | [], sd, S, h => done sd S h
  | x :: xs, sd, S, h => by
    obtain ⟨h1, sd', e, h2⟩ := step x xs sd S h
    refine ⟨h1, ?_⟩
    rw [e]
    exact h2 _ fun sd2 S2 q => forL_ind I step done xs sd2 S2 q
/-- the same with breaks left open (the loop's end and the break's meet) -/
theorem lcL_ind {chk : Store → Prop} {g : CG} {vs : List Nat} {t : DT} {e : DE} {sd : Slots} {Q : List D → Store → Prop} (I : List D → List D → Store → Prop)
    (step : ∀ x xs acc S, I (x :: xs) acc S → chk S ∧ ∃ sd', gset g x (dwipe sd vs) = some sd' ∧ ∀ K : List D → Store → Prop, (∀ acc2 S2, I xs acc2 S2 → K acc2 S2) → t sd' S fun k S1 => if k = true then e sd' S1 fun y S2 => K (acc ++ [y]) S2 else K acc S1)
    (done : ∀ acc S, I [] acc S → chk S ∧ Q acc S) : ∀ xs acc S, I xs acc S → lcL chk g vs t e sd xs acc S Q
  | [], acc, S, h => done acc S h
  | x :: xs, acc, S, h => by
    obtain ⟨h1, sd', e', h2⟩ := step x xs acc S h
    refine ⟨h1, ?_⟩
    rw [e']
    exact h2 (fun acc2 S2 => lcL chk g vs t e sd xs acc2 S2 Q) fun acc2 S2 q => lcL_ind I step done xs acc2 S2 q
/-- a comprehension that changes nothing -/
theorem lcL_pure {chk : Store → Prop} {g : CG} {vs : List Nat} {t : DT} {e : DE} {sd : Slots} {S : Store} {Q : List D → Store → Prop} {p : D → Bool} {f : D → D} (hc : chk S) :
    ∀ (xs acc : List D), (∀ x ∈ xs, ∃ sd', gset g x (dwipe sd vs) = some sd' ∧ (∀ Q', Q' (p x) S → t sd' S Q') ∧ (p x = true → ∀ Q', Q' (f x) S → e sd' S Q')) → Q (acc ++ (xs.filter p).map f) S → lcL chk g vs t e sd xs acc S Q
  | [], acc, _, q => ⟨hc, by simpa using q⟩
  | x :: xs, acc, h, q => by
    obtain ⟨sd', e1, e2, e3⟩ := h x List.mem_cons_self
    have ih := fun (acc : List D) (q : Q (acc ++ (xs.filter p).map f) S) => lcL_pure (Q := Q) hc xs acc (fun y hy => h y (List.mem_cons_of_mem _ hy)) q
    refine ⟨hc, ?_⟩
    rw [e1]
    refine e2 _ ?_
    cases ep : p x with
    | true =>
      rw [if_pos rfl]
      refine e3 ep _ (ih _ ?_)
      rw [List.filter_cons_of_pos ep, List.map_cons] at q
      rw [List.append_assoc]; exact q
    | false =>
      rw [if_neg (by decide)]
      refine ih _ ?_
      rw [List.filter_cons_of_neg (by rw [ep]; decide)] at q
      exact q
/-- without a test -/
theorem lcL_map {chk : Store → Prop} {g : CG} {vs : List Nat} {e : DE} {sd : Slots} {S : Store} {Q : List D → Store → Prop} {f : D → D} (hc : chk S) {xs : List D}
    (h : ∀ x ∈ xs, ∃ sd', gset g x (dwipe sd vs) = some sd' ∧ (∀ Q', Q' (f x) S → e sd' S Q')) (q : Q (xs.map f) S) : lcL chk g vs (fun _ S Q => Q true S) e sd xs [] S Q :=
  lcL_pure (p := fun _ => true) hc xs [] (fun x hx => let ⟨sd', e1, e2⟩ := h x hx; ⟨sd', e1, fun Q' q => q, fun _ => e2⟩) (by rw [List.nil_append, List.filter_eq_self.mpr fun _ _ => rfl]; exact q)
/-- a dict comprehension that changes nothing -/
theorem dcL_map {chk : Store → Prop} {g : CG} {vs : List Nat} {ek ev : DE} {sd : Slots} {S : Store} {Q : List (Key × D) → Store → Prop} {fk : D → D} {kk : D → Key} {fv : D → D} (hc : chk S) :
    ∀ (xs : List D) (acc : List (Key × D)), (∀ x ∈ xs, ∃ sd', gset g x (dwipe sd vs) = some sd' ∧ (∀ Q', Q' (fk x) S → ek sd' S Q') ∧ (∀ Q', Q' (fv x) S → ev sd' S Q') ∧ keyD (fk x) = some (kk x)) →
      Q ((xs.map fun x => (kk x, fv x)).foldl (fun a kv => dput a kv.1 kv.2) acc) S → dcL chk g vs (fun _ S Q => Q true S) ek ev sd xs acc S Q
  | [], acc, _, q => ⟨hc, q⟩
  | x :: xs, acc, h, q => by
    obtain ⟨sd', e1, e2, e3, e4⟩ := h x List.mem_cons_self
    refine ⟨hc, ?_⟩
    rw [e1]
    show if true = true then _ else _
    rw [if_pos rfl]
    refine e2 _ (e3 _ ?_)
    rw [e4]
    exact dcL_map hc xs _ (fun y hy => h y (List.mem_cons_of_mem _ hy)) q

theorem atI_pos {α : Type} {xs : List α} {k : Int} (h : 0 ≤ k) (h2 : k < xs.length) : atI xs k = some (xs[k.toNat]'(by omega)) := by
  unfold atI ixN
  rw [if_pos h, if_pos h2]
  exact List.getElem?_eq_getElem (by omega)
theorem atI_getD {ns : List Int} {i : Nat} (h : i < ns.length) : atI (ns.map D.int) (i : Int) = some (.int (ns.getD i 0)) := by
  rw [atI_pos (Int.natCast_nonneg i) (by rw [List.length_map]; omega)]
  simp [List.getD_eq_getElem?_getD, List.getElem?_eq_getElem h]
/-! ### == worked out -/
section
variable {S : Store} {Q : DQ}
theorem shp_int (i : Int) : SeqAt.shaped (.int i) = true := by rfl
theorem shp_bl (i : Bool) : SeqAt.shaped (.bool i) = true := by rfl
theorem fEq_int {i j : Int} : fEq (.int i) (.int j) S Q = Q (.bl (decide (i = j))) S := by
  refine propext ⟨fun ⟨d, e, h1, h2, _, _, q⟩ => ?_, fun q => ⟨.int i, .int j, rfl, rfl, rfl, rfl, ?_⟩⟩
  · cases h1; cases h2; exact q
  · exact q
theorem fNe_int {i j : Int} : fNe (.int i) (.int j) S Q = Q (.bl (!decide (i = j))) S := by
  refine propext ⟨fun ⟨d, e, h1, h2, _, _, q⟩ => ?_, fun q => ⟨.int i, .int j, rfl, rfl, rfl, rfl, ?_⟩⟩
  · cases h1; cases h2; exact q
  · exact q
theorem fEq_bl {i j : Bool} : fEq (.bl i) (.bl j) S Q = Q (.bl (i == j)) S := by
  refine propext ⟨fun ⟨d, e, h1, h2, _, _, q⟩ => ?_, fun q => ⟨.bool i, .bool j, rfl, rfl, rfl, rfl, ?_⟩⟩
  · cases h1; cases h2; exact q
  · exact q
theorem fNe_bl {i j : Bool} : fNe (.bl i) (.bl j) S Q = Q (.bl (!(i == j))) S := by
  refine propext ⟨fun ⟨d, e, h1, h2, _, _, q⟩ => ?_, fun q => ⟨.bool i, .bool j, rfl, rfl, rfl, rfl, ?_⟩⟩
  · cases h1; cases h2; exact q
  · exact q
theorem fEq_nil : fEq (.lst []) (.lst []) S Q = Q (.bl true) S := by
  refine propext ⟨fun ⟨d, e, h1, h2, _, _, q⟩ => ?_, fun q => ⟨.list [], .list [], rfl, rfl, rfl, rfl, ?_⟩⟩
  · cases h1; cases h2; exact q
  · exact q
theorem fNe_nil : fNe (.lst []) (.lst []) S Q = Q (.bl false) S := by
  refine propext ⟨fun ⟨d, e, h1, h2, _, _, q⟩ => ?_, fun q => ⟨.list [], .list [], rfl, rfl, rfl, rfl, ?_⟩⟩
  · cases h1; cases h2; exact q
  · exact q
theorem toPys_ints : ∀ ns : List Int, toPys S (ns.map D.int) = some (ns.map PyData.int)
  | [] => rfl
  | n :: ns => by
    show (match toPy S (.int n), toPys S (ns.map D.int) with | some e, some es => some (e :: es) | _, _ => none) = _
    rw [toPys_ints ns]; rfl
theorem can_ints : ∀ ns : List Int, PyData.canLayAll0 (ns.map PyData.int) = true
  | [] => rfl
  | n :: ns => by
    show (PyData.canLay0 (.int n) && PyData.canLayAll0 (ns.map PyData.int)) = true
    rw [can_ints ns]; rfl
theorem depthAll_ints : ∀ ns : List Int, PyData.depthAll (ns.map PyData.int) ≤ 1
  | [] => by simp [PyData.depthAll]
  | n :: ns => by
    have := depthAll_ints ns
    simp only [List.map_cons, PyData.depthAll, PyData.depth]
    omega
theorem shp_ints (ns : List Int) : SeqAt.shaped (.list (ns.map PyData.int)) = true := by
  have h1 := can_ints ns
  have h2 := depthAll_ints ns
  unfold SeqAt.shaped
  rw [Bool.and_eq_true]
  refine ⟨h1, decide_eq_true ?_⟩
  simp only [PyData.depth]
  omega
theorem eqv_ints : ∀ ns ms : List Int, PyData.eqvAll (ns.map PyData.int) (ms.map PyData.int) = decide (ns = ms)
  | [], [] => rfl
  | [], _ :: _ => rfl
  | _ :: _, [] => rfl
  | n :: ns, m :: ms => by
    show ((n == m) && PyData.eqvAll (ns.map PyData.int) (ms.map PyData.int)) = _
    rw [eqv_ints ns ms]
    by_cases h : n = m <;> by_cases h2 : ns = ms <;> simp [h, h2]
theorem fEq_ints {ns ms : List Int} : fEq (.lst (ns.map D.int)) (.lst (ms.map D.int)) S Q = Q (.bl (decide (ns = ms))) S := by
  have a : ∀ ns : List Int, toPyR S (.lst (ns.map D.int)) = some (.list (ns.map PyData.int)) := fun ns => by
    show (toPys S (ns.map D.int)).map PyData.list = _
    rw [toPys_ints]; rfl
  have e : PyData.eqv (.list (ns.map PyData.int)) (.list (ms.map PyData.int)) = decide (ns = ms) := eqv_ints ns ms
  refine propext ⟨fun ⟨d, e', h1, h2, _, _, q⟩ => ?_, fun q => ⟨_, _, a ns, a ms, shp_ints ns, shp_ints ms, by rw [e]; exact q⟩⟩
  rw [a] at h1 h2
  cases h1; cases h2
  rw [e] at q; exact q
theorem fEq_str {x y : Str} (hx : PyData.strOk x = true) (hy : PyData.strOk y = true) : fEq (.str x) (.str y) S Q = Q (.bl (x == y)) S := by
  refine propext ⟨fun ⟨d, e, h1, h2, _, _, q⟩ => ?_, fun q => ⟨.str x, .str y, rfl, rfl, ?_, ?_, ?_⟩⟩
  · cases h1; cases h2; exact q
  · unfold SeqAt.shaped; rw [Bool.and_eq_true]; exact ⟨hx, by simp [PyData.depth]⟩
  · unfold SeqAt.shaped; rw [Bool.and_eq_true]; exact ⟨hy, by simp [PyData.depth]⟩
  · exact q
end
/-! ### what was laid is forgotten at the return -/
theorem rt_drop {Q : DQ} {d : D} {S S1 : Store} (h : ∀ a o, S a = some o → S1 a = some o) (q : Q d S) : rtQ Q d S1 := ⟨d, S, .forget h .refl, q⟩
theorem frz_dct {S : Store} {p : Addr} {kvs : List (Key × D)} : frzD (sup S p (.dct kvs)) p = some (.dct kvs) := by unfold frzD; rw [sup_same]
theorem frz_lst {S : Store} {p : Addr} {kvs : List D} : frzD (sup S p (.lst kvs)) p = some (.lst kvs) := by unfold frzD; rw [sup_same]
theorem sdel_sup {S : Store} {p : Addr} {o : O} (h : S p = none) : sdel (sup S p o) p = S := by
  funext b
  unfold sdel sup
  by_cases e : b = p
  · subst e; rw [if_pos rfl, h]
  · rw [if_neg e, if_neg e]
/-! ### numbers -/
/-- less than a thousand bits -/
def kilo : Nat := 1000
def Sml (x : Int) : Prop := x.natAbs < 2 ^ kilo
theorem Sml.log {x : Int} (h : Sml x) : x.natAbs.log2 < 1000 := by
  by_cases z : x.natAbs = 0
  · rw [z]; decide
  · exact (Nat.log2_lt z).mpr h
theorem cmulW {i j : Int} (hi : Sml i) (hj : Sml j) : CMulW i j := by
  have h1 := hi.log
  have h2 := hj.log
  unfold CMulW; omega
theorem cdivW {i j : Int} (h : 0 < j) (hj : Sml j) : CDivW i j := by
  have h2 := hj.log
  exact ⟨h, by omega⟩
theorem two1000 : (2 : Nat) ^ 64 ≤ 2 ^ kilo := Nat.pow_le_pow_right (by decide) (by decide)
theorem Sml.of {x : Int} (h : -18446744073709551616 < x) (h' : x < 18446744073709551616) : Sml x := by
  refine Nat.lt_of_lt_of_le ?_ two1000
  omega
theorem Sml.bits {x : Int} {n k : Nat} (h : x.natAbs ≤ n) (hn : n < 2 ^ k) (hk : k ≤ kilo) : Sml x := Nat.lt_of_le_of_lt h (Nat.lt_of_lt_of_le hn (Nat.pow_le_pow_right (by decide) hk))
theorem cpow {i j : Int} (h : -18446744073709551616 < i) (h' : i < 18446744073709551616) (h0 : 0 ≤ j) (h1 : j ≤ 1000000) : CPow i j := by
  refine ⟨h0, h1, ?_⟩
  omega
end DL
set_option Elab.async false
set_option linter.all false
set_option maxRecDepth 100000
set_option maxHeartbeats 1000000
/-! DL17: large displays, piece by piece. -/
namespace DL
open PySem L2
section
variable {T : Tb} {sd : Slots} {S : Store}
def Ve (T : Tb) (sd : Slots) (S : Store) (e : CE) (x : D) : Prop := ∀ Q : DQ, Q x S → (den T e).v sd S Q
def Vs (T : Tb) (sd : Slots) (S : Store) (es : CEs) (xs : List D) : Prop := ∀ Q : List D → Store → Prop, Q xs S → dens T es sd S Q
theorem small100 {n : Nat} (h : Nat.ble n 100 = true) : n ≤ sizeLine := Nat.le_trans (Nat.le_of_ble_eq_true h) (by decide)
theorem ve_slot {i : Nat} {d : D} (h : sd[i]? = some (some d)) : Ve T sd S (.slot i) d := fun Q q => by
  show (match sd[i]? with | some (some d) => Q d S | _ => False)
  rw [h]; exact q
theorem ve_int {i : Int} : Ve T sd S (.int i) (.int i) := fun Q q => q
theorem ve_neg {i : Int} : Ve T sd S (.neg (.int i)) (.int (-i)) := fun Q q => q
theorem ve_bl {i : Bool} : Ve T sd S (.bl i) (.bl i) := fun Q q => q
theorem ve_non : Ve T sd S .non .non := fun Q q => q
theorem ve_str {s : Str} : Ve T sd S (.str s) (.str s) := fun Q q => q
theorem vs_nil : Vs T sd S .nil [] := fun Q q => q
theorem vs_cons {e : CE} {r : CEs} {x : D} {xs : List D} (h : Ve T sd S e x) (t : Vs T sd S r xs) : Vs T sd S (.cons e r) (x :: xs) := fun Q q => h _ (t _ q)
theorem ve_tup {es : CEs} {xs : List D} (h : Vs T sd S es xs) (z : Nat.ble xs.length 100 = true) : Ve T sd S (.tup es) (.tup xs) := fun Q q => h _ ⟨small100 z, q⟩
theorem ve_lst {es : CEs} {xs : List D} (h : Vs T sd S es xs) (z : Nat.ble xs.length 100 = true) : Ve T sd S (.lst false es) (.lst xs) := fun Q q => h _ ⟨small100 z, q⟩
theorem ve_dict0 : Ve T sd S (.dict0 false) (.dct []) := fun Q q => q
theorem ve_addT {a b : CE} {w : Bool} {xs ys : List D} (ha : Ve T sd S a (.tup xs)) (hb : Ve T sd S b (.tup ys)) (z : xs.length + ys.length ≤ sizeLine) : Ve T sd S (.op w .Add a b) (.tup (xs ++ ys)) := fun Q q => ha _ (hb _ ⟨z, q⟩)
theorem ve_addL {a b : CE} {xs ys : List D} (ha : Ve T sd S a (.lst xs)) (hb : Ve T sd S b (.lst ys)) (z : xs.length + ys.length ≤ sizeLine) : Ve T sd S (.op false .Add a b) (.lst (xs ++ ys)) := fun Q q => ha _ (hb _ ⟨z, q⟩)
theorem ve_list {a : CE} {xs : List D} (ha : Ve T sd S a (.tup xs)) : Ve T sd S (.blt false .list (.cons a .nil)) (.lst xs) := fun Q q => ha _ q
theorem vs_set {i : Nat} {e : CE} {x : D} {r : CSs} {Dd : DEnds} (h : Ve T sd S e x) (q : denSs T r Dd (sd.set i (some x)) S) : denSs T (.cons (.set i e) r) Dd sd S := h _ q
end
end DL
set_option Elab.async false
set_option linter.all false
set_option maxRecDepth 100000
set_option maxHeartbeats 1000000
/-! DL18: statements one by one, calls of what keeps its promise. -/
namespace DL
open PySem L2
section
variable {T : Tb} {sd : Slots} {S : Store} {Dd : DEnds} {r : CSs}
theorem call_run {j n : Nat} {sp : DSp} {es : CEs} {xs : List D} {K : DQ} (hf : T.fn j = some (n, sp)) (hs : Vs T sd S es xs) (hl : xs.length = n) (h : sp xs S K) : (den T (.call j es)).v sd S K := by
  show (match T.fn j with | some (n, sp) => dCall (guardN n sp) (dens T es) | none => dFail) sd S K
  rw [hf]
  exact hs _ ⟨hl, h⟩
theorem ve_call {j n : Nat} {sp : DSp} {es : CEs} {xs : List D} {y : D} (hf : T.fn j = some (n, sp)) (hs : Vs T sd S es xs) (hl : xs.length = n) (h : ∀ Q : DQ, Q y S → sp xs S Q) : Ve T sd S (.call j es) y := fun Q q => call_run hf hs hl (h Q q)
theorem callk_run {j n : Nat} {sp : DSp} {ks : List Str} {perm : List Nat} {es : CEs} {xs : List D} {K : DQ} (hf : T.fn j = some (n, sp)) (hk : (T.kw j).contains (ks, perm) = true) (hs : Vs T sd S es xs) (hl : xs.length = ks.length) (hn : (permV perm [] xs).length = n) (h : sp (permV perm [] xs) S K) : (den T (.callk j ks perm es)).v sd S K := by
  show (match T.fn j with | some (n, sp) => if (T.kw j).contains (ks, perm) = true then dCall (fun ds S Q => ds.length = ks.length ∧ guardN n sp (permV perm [] ds) S Q) (dens T es) else dFail | none => dFail) sd S K
  rw [hf]
  show (if (T.kw j).contains (ks, perm) = true then dCall (fun ds S Q => ds.length = ks.length ∧ guardN n sp (permV perm [] ds) S Q) (dens T es) else dFail) sd S K
  rw [if_pos hk]
  exact hs _ ⟨hl, hn, h⟩
theorem ve_callk {j n : Nat} {sp : DSp} {ks : List Str} {perm : List Nat} {es : CEs} {xs : List D} {y : D} (hf : T.fn j = some (n, sp)) (hk : (T.kw j).contains (ks, perm) = true) (hs : Vs T sd S es xs) (hl : xs.length = ks.length) (hn : (permV perm [] xs).length = n) (h : ∀ Q : DQ, Q y S → sp (permV perm [] xs) S Q) : Ve T sd S (.callk j ks perm es) y := fun Q q => callk_run hf hk hs hl hn (h Q q)
theorem ve_ixL {a : CE} {xs : List D} {i : Int} {x : D} (ha : Ve T sd S a (.lst xs)) (h : atI xs i = some x) : Ve T sd S (.ix a (.int i)) x := fun Q q => ha _ (by
  show (match atI xs i with | some d => Q d S | none => False)
  rw [h]; exact q)
theorem ve_ixT {a : CE} {xs : List D} {i : Int} {x : D} (ha : Ve T sd S a (.tup xs)) (h : atI xs i = some x) : Ve T sd S (.ix a (.int i)) x := fun Q q => ha _ (by
  show (match atI xs i with | some d => Q d S | none => False)
  rw [h]; exact q)
theorem ve_addI {a b : CE} {w : Bool} {i j : Int} (ha : Ve T sd S a (.int i)) (hb : Ve T sd S b (.int j)) : Ve T sd S (.op w .Add a b) (.int (i + j)) := fun Q q => ha _ (hb _ q)
theorem ve_subI {a b : CE} {w : Bool} {i j : Int} (ha : Ve T sd S a (.int i)) (hb : Ve T sd S b (.int j)) : Ve T sd S (.op w .Sub a b) (.int (i - j)) := fun Q q => ha _ (hb _ q)
theorem ve_mulI {a b : CE} {w : Bool} {i j : Int} (ha : Ve T sd S a (.int i)) (hb : Ve T sd S b (.int j)) (h : CMulW i j) : Ve T sd S (.op w .Mult a b) (.int (i * j)) := fun Q q => ha _ (hb _ ⟨h, q⟩)
/-- statements -/
theorem vs_setE {i : Nat} {e : CE} (h : (den T e).v sd S fun x S1 => denSs T r Dd (sd.set i (some x)) S1) : denSs T (.cons (.set i e) r) Dd sd S := h
theorem vs_par {i j : Nat} {a b : CE} (h : (den T a).v sd S fun x S1 => (den T b).v sd S1 fun y S2 => denSs T r Dd ((sd.set i (some x)).set j (some y)) S2) : denSs T (.cons (.par i j a b) r) Dd sd S := h
theorem vs_par3 {i j l : Nat} {a b c : CE} (h : (den T a).v sd S fun x S1 => (den T b).v sd S1 fun y S2 => (den T c).v sd S2 fun z S3 => denSs T r Dd (((sd.set i (some x)).set j (some y)).set l (some z)) S3) : denSs T (.cons (.par3 i j l a b c) r) Dd sd S := h
theorem vs_ifsF {c : CE} {a : CSs} (h : ∀ K : Bool → Store → Prop, K false S → (den T c).t sd S K) (q : denSs T r Dd sd S) : denSs T (.cons (.ifs c a .nil) r) Dd sd S := h _ q
theorem vs_ifsE {c : CE} {a b : CSs} (h : (den T c).t sd S fun k S1 => if k = true then denSs T a { Dd with nx := fun sd' S' => denSs T r Dd sd' S' } sd S1 else denSs T b { Dd with nx := fun sd' S' => denSs T r Dd sd' S' } sd S1) : denSs T (.cons (.ifs c a b) r) Dd sd S := h
theorem vs_ret {e : CE} {x : D} (h : Ve T sd S e x) (q : Dd.rt x S) : denSs T (.cons (.ret e) r) Dd sd S := h _ q
theorem vs_retE {e : CE} (h : (den T e).v sd S Dd.rt) : denSs T (.cons (.ret e) r) Dd sd S := h
theorem vs_exprE {e : CE} (h : (den T e).v sd S fun _ S1 => denSs T r Dd sd S1) : denSs T (.cons (.expr e) r) Dd sd S := h
end
end DL
set_option Elab.async false
set_option linter.all false
set_option maxRecDepth 100000
set_option maxHeartbeats 1000000
namespace K00
open PySem L2 DL
def top (i : Nat) : Stmt := PySem.Challenge.pw_everystepheld_k00_sums_judged_and_added.main.body.getD i (.Pass ⟨0, 0, 0, 0⟩)
def bl : List Str := ["abs", "all", "bool", "dict", "int", "isinstance", "len", "list", "max", "min", "range", "set", "sorted", "str", "sum", "tuple"]
def gls : List Str := ["RESULT"]

-- is_whole
def N_is_whole : List Str := ["thing"]
def fns_is_whole : List Str := []
def core_is_whole : CSs := (.cons (.ret (.and (.isi .int (.slot 0)) (.last (.not (.isi .bool (.slot 0))))))
      .nil)
theorem sc_is_whole : FnScope N_is_whole ["thing"] (defScope (top 1)) := ⟨rfl, rfl, rfl, by decide +kernel, rfl, by decide +kernel, by decide +kernel⟩
theorem chk_is_whole : chkSs core_is_whole ⟨defScope (top 1), N_is_whole, fun _ => true, bl, fns_is_whole, gls⟩ (defBody (top 1)) = true := by decide +kernel

-- is_pair
def N_is_pair : List Str := ["thing"]
def fns_is_pair : List Str := ["is_whole"]
def core_is_pair : CSs := (.cons (.ifs (.or (.not (.isi .tuple (.slot 0))) (.or (.cmp .NotEq (.blt false .len (.cons (.slot 0) .nil)) (.int 2)) (.or (.not (.call 0 (.cons (.ix (.slot 0) (.int 0)) .nil))) (.last (.not (.call 0 (.cons (.ix (.slot 0) (.int 1)) .nil))))))) (.cons (.ret (.bl false))
      .nil) .nil)
      (.cons (.ret (.and (.cmp .GtE (.ix (.slot 0) (.int 0)) (.glb 0)) (.last (.cmp .NotEq (.ix (.slot 0) (.int 1)) (.int 0)))))
      .nil))
theorem sc_is_pair : FnScope N_is_pair ["thing"] (defScope (top 4)) := ⟨rfl, rfl, rfl, by decide +kernel, rfl, by decide +kernel, by decide +kernel⟩
theorem chk_is_pair : chkSs core_is_pair ⟨defScope (top 4), N_is_pair, fun _ => true, bl, fns_is_pair, gls⟩ (defBody (top 4)) = true := by decide +kernel

-- is_sum
def N_is_sum : List Str := ["thing", "pair", "names", "name", "factor", "at"]
def fns_is_sum : List Str := ["is_whole", "is_pair"]
def core_is_sum : CSs := (.cons (.ifs (.or (.not (.isi .tuple (.slot 0))) (.or (.cmp .NotEq (.blt false .len (.cons (.slot 0) .nil)) (.int 2)) (.or (.not (.call 0 (.cons (.ix (.slot 0) (.int 0)) .nil))) (.last (.not (.isi .tuple (.ix (.slot 0) (.int 1)))))))) (.cons (.ret (.bl false))
      .nil) .nil)
      (.cons (.ifs (.not (.blt false .all (.cons (.lc false [("pair", 1)] (.slot 1) (.seq (.ix (.slot 0) (.int 1))) .no (.call 1 (.cons (.slot 1) .nil))) .nil))) (.cons (.ret (.bl false))
      .nil) .nil)
      (.cons (.set 2 (.lc false [("name", 3), ("factor", 4)] (.tup (.cons (.slot 3) (.cons (.slot 4) .nil))) (.seq (.ix (.slot 0) (.int 1))) .no (.slot 3)))
      (.cons (.ret (.blt false .all (.cons (.lc false [("at", 5)] (.slot 5) (.range1 (.op false .Sub (.blt false .len (.cons (.slot 2) .nil)) (.int 1))) .no (.cmp .Lt (.ix (.slot 2) (.slot 5)) (.ix (.slot 2) (.op false .Add (.slot 5) (.int 1))))) .nil)))
      .nil))))
theorem sc_is_sum : FnScope N_is_sum ["thing"] (defScope (top 5)) := ⟨rfl, rfl, rfl, by decide +kernel, rfl, by decide +kernel, by decide +kernel⟩
theorem chk_is_sum : chkSs core_is_sum ⟨defScope (top 5), N_is_sum, fun _ => true, bl, fns_is_sum, gls⟩ (defBody (top 5)) = true := by decide +kernel

-- sum_with
def N_sum_with : List Str := ["constant", "factors", "name"]
def fns_sum_with : List Str := ["is_whole", "is_pair", "is_sum"]
def core_sum_with : CSs := (.cons (.ret (.tup (.cons (.slot 0) (.cons (.blt false .tuple (.cons (.lc false [("name", 2)] (.slot 2) (.seq (.blt false .sorted (.cons (.slot 1) .nil))) (.one (.cmp .NotEq (.ix (.slot 1) (.slot 2)) (.int 0))) (.tup (.cons (.slot 2) (.cons (.ix (.slot 1) (.slot 2)) .nil)))) .nil)) .nil))))
      .nil)
theorem sc_sum_with : FnScope N_sum_with ["constant", "factors"] (defScope (top 6)) := ⟨rfl, rfl, rfl, by decide +kernel, rfl, by decide +kernel, by decide +kernel⟩
theorem chk_sum_with : chkSs core_sum_with ⟨defScope (top 6), N_sum_with, fun _ => true, bl, fns_sum_with, gls⟩ (defBody (top 6)) = true := by decide +kernel

-- sum_of
def N_sum_of : List Str := ["operand", "word", "thing"]
def fns_sum_of : List Str := ["is_whole", "is_pair", "is_sum", "sum_with"]
def core_sum_of : CSs := (.cons (.setg (.tup (.cons (.slot 1) (.cons (.slot 2) .nil))) (.slot 0))
      (.cons (.ret (.ite (.cmp .Eq (.slot 1) (.str "num")) (.tup (.cons (.slot 2) (.cons (.tup .nil) .nil))) (.tup (.cons (.int 0) (.cons (.tup (.cons (.tup (.cons (.slot 2) (.cons (.int 1) .nil))) .nil)) .nil)))))
      .nil))
theorem sc_sum_of : FnScope N_sum_of ["operand"] (defScope (top 7)) := ⟨rfl, rfl, rfl, by decide +kernel, rfl, by decide +kernel, by decide +kernel⟩
theorem chk_sum_of : chkSs core_sum_of ⟨defScope (top 7), N_sum_of, fun _ => true, bl, fns_sum_of, gls⟩ (defBody (top 7)) = true := by decide +kernel

-- added
def N_added : List Str := ["one", "other", "factors", "name", "factor"]
def fns_added : List Str := ["is_whole", "is_pair", "is_sum", "sum_with", "sum_of"]
def core_added : CSs := (.cons (.set 2 (.blt true .dict (.cons (.ix (.slot 0) (.int 1)) .nil)))
      (.cons (.for_ (.tup (.cons (.slot 3) (.cons (.slot 4) .nil))) (.seq (.ix (.slot 1) (.int 1))) (.cons (.setix (.slot 2) (.slot 3) (.op false .Add (.get2 (.slot 2) (.slot 3) (.int 0)) (.slot 4)))
      .nil))
      (.frz 2 (.cons (.ret (.call 3 (.cons (.op false .Add (.ix (.slot 0) (.int 0)) (.ix (.slot 1) (.int 0))) (.cons (.slot 2) .nil))))
      .nil))))
theorem sc_added : FnScope N_added ["one", "other"] (defScope (top 8)) := ⟨rfl, rfl, rfl, by decide +kernel, rfl, by decide +kernel, by decide +kernel⟩
theorem chk_added : chkSs core_added ⟨defScope (top 8), N_added, fun _ => true, bl, fns_added, gls⟩ (defBody (top 8)) = true := by decide +kernel

-- times
def N_times : List Str := ["factor", "one", "name", "own"]
def fns_times : List Str := ["is_whole", "is_pair", "is_sum", "sum_with", "sum_of", "added"]
def core_times : CSs := (.cons (.ret (.call 3 (.cons (.op false .Mult (.slot 0) (.ix (.slot 1) (.int 0))) (.cons (.dc false [("name", 2), ("own", 3)] (.tup (.cons (.slot 2) (.cons (.slot 3) .nil))) (.seq (.ix (.slot 1) (.int 1))) .no (.slot 2) (.op false .Mult (.slot 0) (.slot 3))) .nil))))
      .nil)
theorem sc_times : FnScope N_times ["factor", "one"] (defScope (top 9)) := ⟨rfl, rfl, rfl, by decide +kernel, rfl, by decide +kernel, by decide +kernel⟩
theorem chk_times : chkSs core_times ⟨defScope (top 9), N_times, fun _ => true, bl, fns_times, gls⟩ (defBody (top 9)) = true := by decide +kernel

-- without
def N_without : List Str := ["one", "other"]
def fns_without : List Str := ["is_whole", "is_pair", "is_sum", "sum_with", "sum_of", "added", "times"]
def core_without : CSs := (.cons (.ret (.call 5 (.cons (.slot 0) (.cons (.call 6 (.cons (.neg (.int 1)) (.cons (.slot 1) .nil))) .nil))))
      .nil)
theorem sc_without : FnScope N_without ["one", "other"] (defScope (top 10)) := ⟨rfl, rfl, rfl, by decide +kernel, rfl, by decide +kernel, by decide +kernel⟩
theorem chk_without : chkSs core_without ⟨defScope (top 10), N_without, fun _ => true, bl, fns_without, gls⟩ (defBody (top 10)) = true := by decide +kernel

-- put_in
def N_put_in : List Str := ["one", "meanings", "found", "name", "factor"]
def fns_put_in : List Str := ["is_whole", "is_pair", "is_sum", "sum_with", "sum_of", "added", "times", "without"]
def core_put_in : CSs := (.cons (.set 2 (.tup (.cons (.ix (.slot 0) (.int 0)) (.cons (.tup .nil) .nil))))
      (.cons (.for_ (.tup (.cons (.slot 3) (.cons (.slot 4) .nil))) (.seq (.ix (.slot 0) (.int 1))) (.cons (.set 2 (.call 5 (.cons (.slot 2) (.cons (.call 6 (.cons (.slot 4) (.cons (.get2 (.slot 1) (.slot 3) (.tup (.cons (.int 0) (.cons (.tup (.cons (.tup (.cons (.slot 3) (.cons (.int 1) .nil))) .nil)) .nil)))) .nil))) .nil))))
      .nil))
      (.cons (.ret (.slot 2))
      .nil)))
theorem sc_put_in : FnScope N_put_in ["one", "meanings"] (defScope (top 11)) := ⟨rfl, rfl, rfl, by decide +kernel, rfl, by decide +kernel, by decide +kernel⟩
theorem chk_put_in : chkSs core_put_in ⟨defScope (top 11), N_put_in, fun _ => true, bl, fns_put_in, gls⟩ (defBody (top 11)) = true := by decide +kernel

-- worth
def N_worth : List Str := ["one", "values", "name", "factor"]
def fns_worth : List Str := ["is_whole", "is_pair", "is_sum", "sum_with", "sum_of", "added", "times", "without", "put_in"]
def core_worth : CSs := (.cons (.ret (.op false .Add (.ix (.slot 0) (.int 0)) (.blt false .sum (.cons (.lc false [("name", 2), ("factor", 3)] (.tup (.cons (.slot 2) (.cons (.slot 3) .nil))) (.seq (.ix (.slot 0) (.int 1))) .no (.op false .Mult (.slot 3) (.ix (.slot 1) (.slot 2)))) .nil))))
      .nil)
theorem sc_worth : FnScope N_worth ["one", "values"] (defScope (top 12)) := ⟨rfl, rfl, rfl, by decide +kernel, rfl, by decide +kernel, by decide +kernel⟩
theorem chk_worth : chkSs core_worth ⟨defScope (top 12), N_worth, fun _ => true, bl, fns_worth, gls⟩ (defBody (top 12)) = true := by decide +kernel

-- names_of
def N_names_of : List Str := ["one", "name", "factor"]
def fns_names_of : List Str := ["is_whole", "is_pair", "is_sum", "sum_with", "sum_of", "added", "times", "without", "put_in", "worth"]
def core_names_of : CSs := (.cons (.ret (.lc false [("name", 1), ("factor", 2)] (.tup (.cons (.slot 1) (.cons (.slot 2) .nil))) (.seq (.ix (.slot 0) (.int 1))) .no (.slot 1)))
      .nil)
theorem sc_names_of : FnScope N_names_of ["one"] (defScope (top 13)) := ⟨rfl, rfl, rfl, by decide +kernel, rfl, by decide +kernel, by decide +kernel⟩
theorem chk_names_of : chkSs core_names_of ⟨defScope (top 13), N_names_of, fun _ => true, bl, fns_names_of, gls⟩ (defBody (top 13)) = true := by decide +kernel

-- names_in
def N_names_in : List Str := ["sums", "found", "one", "name"]
def fns_names_in : List Str := ["is_whole", "is_pair", "is_sum", "sum_with", "sum_of", "added", "times", "without", "put_in", "worth", "names_of"]
def core_names_in : CSs := (.cons (.set 1 (.dict0 true))
      (.cons (.for_ (.slot 2) (.seq (.slot 0)) (.cons (.for_ (.slot 3) (.seq (.call 10 (.cons (.slot 2) .nil))) (.cons (.setix (.slot 1) (.slot 3) (.bl true))
      .nil))
      .nil))
      (.frz 1 (.cons (.ret (.blt true .sorted (.cons (.slot 1) .nil)))
      .nil))))
theorem sc_names_in : FnScope N_names_in ["sums"] (defScope (top 14)) := ⟨rfl, rfl, rfl, by decide +kernel, rfl, by decide +kernel, by decide +kernel⟩
theorem chk_names_in : chkSs core_names_in ⟨defScope (top 14), N_names_in, fun _ => true, bl, fns_names_in, gls⟩ (defBody (top 14)) = true := by decide +kernel

-- _law_cell
def N__law_cell : List Str := ["script", "k"]
def fns__law_cell : List Str := ["is_whole", "is_pair", "is_sum", "sum_with", "sum_of", "added", "times", "without", "put_in", "worth", "names_of", "names_in"]
def core__law_cell : CSs := (.cons (.ret (.ite (.cmp .Lt (.slot 1) (.blt false .len (.cons (.slot 0) .nil))) (.ix (.slot 0) (.slot 1)) (.op false .Add (.op false .Mult (.int 4987) (.slot 1)) (.op false .Mod (.blt false .int (.cons (.blt false .sum (.cons (.cut false (.slot 0) .no (.one (.int 1))) .nil)) .nil)) (.int 1000081)))))
      .nil)
theorem sc__law_cell : FnScope N__law_cell ["script", "k"] (defScope (top 16)) := ⟨rfl, rfl, rfl, by decide +kernel, rfl, by decide +kernel, by decide +kernel⟩
theorem chk__law_cell : chkSs core__law_cell ⟨defScope (top 16), N__law_cell, fun _ => true, bl, fns__law_cell, gls⟩ (defBody (top 16)) = true := by decide +kernel

-- _law_take
def N__law_take : List Str := ["box", "many", "digit", "mixed"]
def fns__law_take : List Str := ["is_whole", "is_pair", "is_sum", "sum_with", "sum_of", "added", "times", "without", "put_in", "worth", "names_of", "names_in", "_law_cell"]
def core__law_take : CSs := (.cons (.ifs (.and (.ix (.slot 0) (.int 1)) (.last (.cmp .Gt (.ix (.slot 0) (.int 0)) (.int 0)))) (.cons (.set 2 (.op false .Mod (.blt false .int (.cons (.ix (.slot 0) (.int 0)) .nil)) (.slot 1)))
      (.cons (.setix (.slot 0) (.int 0) (.op false .FloorDiv (.ix (.slot 0) (.int 0)) (.slot 1)))
      (.cons (.ret (.slot 2))
      .nil))) .nil)
      (.cons (.setix (.slot 0) (.int 3) (.op false .Add (.ix (.slot 0) (.int 3)) (.int 1)))
      (.cons (.set 3 (.op false .Mod (.blt false .int (.cons (.op false .Pow (.op false .Add (.op false .Add (.ix (.slot 0) (.int 2)) (.op false .Mult (.int 15489221) (.ix (.slot 0) (.int 3)))) (.int 179426549)) (.int 5)) .nil)) (.int 2147483647)))
      (.cons (.ret (.op false .Mod (.blt false .int (.cons (.op false .FloorDiv (.op false .Mod (.blt false .int (.cons (.op false .Pow (.op false .Add (.op false .Mult (.slot 3) (.int 48271)) (.op false .Mult (.int 104917) (.ix (.slot 0) (.int 3)))) (.int 3)) .nil)) (.int 2147483587)) (.int 64)) .nil)) (.slot 1)))
      .nil))))
theorem sc__law_take : FnScope N__law_take ["box", "many"] (defScope (top 17)) := ⟨rfl, rfl, rfl, by decide +kernel, rfl, by decide +kernel, by decide +kernel⟩
theorem chk__law_take : chkSs core__law_take ⟨defScope (top 17), N__law_take, fun _ => true, bl, fns__law_take, gls⟩ (defBody (top 17)) = true := by decide +kernel

-- _law_box
def N__law_box : List Str := ["great"]
def fns__law_box : List Str := ["is_whole", "is_pair", "is_sum", "sum_with", "sum_of", "added", "times", "without", "put_in", "worth", "names_of", "names_in", "_law_cell", "_law_take"]
def core__law_box : CSs := (.cons (.ret (.lst true (.cons (.blt false .abs (.cons (.slot 0) .nil)) (.cons (.cmp .GtE (.blt false .abs (.cons (.slot 0) .nil)) (.op false .Pow (.int 10) (.int 18))) (.cons (.op false .Mod (.blt false .int (.cons (.blt false .abs (.cons (.slot 0) .nil)) .nil)) (.int 2147483629)) (.cons (.int 0) .nil))))))
      .nil)
theorem sc__law_box : FnScope N__law_box ["great"] (defScope (top 18)) := ⟨rfl, rfl, rfl, by decide +kernel, rfl, by decide +kernel, by decide +kernel⟩
theorem chk__law_box : chkSs core__law_box ⟨defScope (top 18), N__law_box, fun _ => true, bl, fns__law_box, gls⟩ (defBody (top 18)) = true := by decide +kernel

-- _law_same
def N__law_same : List Str := ["told", "due", "k"]
def fns__law_same : List Str := ["is_whole", "is_pair", "is_sum", "sum_with", "sum_of", "added", "times", "without", "put_in", "worth", "names_of", "names_in", "_law_cell", "_law_take", "_law_box", "_law_same"]
def core__law_same : CSs := (.cons (.ifs (.or (.cmp .Is (.slot 1) .non) (.last (.isi .bool (.slot 1)))) (.cons (.ret (.ite (.cmp .Is (.slot 1) .non) (.cmp .Is (.slot 0) .non) (.and (.isi .bool (.slot 0)) (.last (.cmp .Eq (.cmp .Is (.slot 0) (.bl true)) (.cmp .Is (.slot 1) (.bl true)))))))
      .nil) .nil)
      (.cons (.ifs (.isi .int (.slot 1)) (.cons (.ret (.and (.isi .int (.slot 0)) (.and (.not (.isi .bool (.slot 0))) (.last (.cmp .Eq (.op false .Sub (.blt false .int (.cons (.slot 0) .nil)) (.slot 1)) (.int 0))))))
      .nil) .nil)
      (.cons (.ifs (.isi .str (.slot 1)) (.cons (.ret (.and (.isi .str (.slot 0)) (.last (.cmp .Eq (.slot 0) (.slot 1)))))
      .nil) .nil)
      (.cons (.ifs (.isi .dict (.slot 1)) (.cons (.ret (.and (.isi .dict (.slot 0)) (.last (.cmp .Eq (.slot 0) (.slot 1)))))
      .nil) .nil)
      (.cons (.ifs (.or (.cmp .NotEq (.isi .list (.slot 0)) (.isi .list (.slot 1))) (.last (.cmp .NotEq (.isi .tuple (.slot 0)) (.isi .tuple (.slot 1))))) (.cons (.ret (.bl false))
      .nil) .nil)
      (.cons (.ret (.and (.cmp .Eq (.blt false .len (.cons (.slot 0) .nil)) (.blt false .len (.cons (.slot 1) .nil))) (.last (.cmp .Eq (.lc false [("k", 2)] (.slot 2) (.range1 (.blt false .len (.cons (.slot 1) .nil))) (.one (.not (.call 15 (.cons (.ix (.slot 0) (.slot 2)) (.cons (.ix (.slot 1) (.slot 2)) .nil))))) (.slot 2)) (.lst false .nil)))))
      .nil))))))
theorem sc__law_same : FnScope N__law_same ["told", "due"] (defScope (top 19)) := ⟨rfl, rfl, rfl, by decide +kernel, rfl, by decide +kernel, by decide +kernel⟩
theorem chk__law_same : chkSs core__law_same ⟨defScope (top 19), N__law_same, fun _ => true, bl, fns__law_same, gls⟩ (defBody (top 19)) = true := by decide +kernel

-- _law_sum
def N__law_sum : List Str := ["constant", "factors", "name"]
def fns__law_sum : List Str := ["is_whole", "is_pair", "is_sum", "sum_with", "sum_of", "added", "times", "without", "put_in", "worth", "names_of", "names_in", "_law_cell", "_law_take", "_law_box", "_law_same"]
def core__law_sum : CSs := (.cons (.ret (.tup (.cons (.slot 0) (.cons (.blt false .tuple (.cons (.lc false [("name", 2)] (.slot 2) (.seq (.blt false .sorted (.cons (.slot 1) .nil))) (.one (.cmp .NotEq (.ix (.slot 1) (.slot 2)) (.int 0))) (.tup (.cons (.slot 2) (.cons (.ix (.slot 1) (.slot 2)) .nil)))) .nil)) .nil))))
      .nil)
theorem sc__law_sum : FnScope N__law_sum ["constant", "factors"] (defScope (top 20)) := ⟨rfl, rfl, rfl, by decide +kernel, rfl, by decide +kernel, by decide +kernel⟩
theorem chk__law_sum : chkSs core__law_sum ⟨defScope (top 20), N__law_sum, fun _ => true, bl, fns__law_sum, gls⟩ (defBody (top 20)) = true := by decide +kernel

-- _law_plus
def N__law_plus : List Str := ["one", "other", "factor", "factors", "name", "own"]
def fns__law_plus : List Str := ["is_whole", "is_pair", "is_sum", "sum_with", "sum_of", "added", "times", "without", "put_in", "worth", "names_of", "names_in", "_law_cell", "_law_take", "_law_box", "_law_same", "_law_sum"]
def core__law_plus : CSs := (.cons (.set 3 (.blt true .dict (.cons (.ix (.slot 0) (.int 1)) .nil)))
      (.cons (.for_ (.tup (.cons (.slot 4) (.cons (.slot 5) .nil))) (.seq (.ix (.slot 1) (.int 1))) (.cons (.setix (.slot 3) (.slot 4) (.op false .Add (.get2 (.slot 3) (.slot 4) (.int 0)) (.op false .Mult (.slot 2) (.slot 5))))
      .nil))
      (.frz 3 (.cons (.ret (.call 16 (.cons (.op false .Add (.ix (.slot 0) (.int 0)) (.op false .Mult (.slot 2) (.ix (.slot 1) (.int 0)))) (.cons (.slot 3) .nil))))
      .nil))))
theorem sc__law_plus : FnScope N__law_plus ["one", "other", "factor"] (defScope (top 21)) := ⟨rfl, rfl, rfl, by decide +kernel, rfl, by decide +kernel, by decide +kernel⟩
theorem chk__law_plus : chkSs core__law_plus ⟨defScope (top 21), N__law_plus, fun _ => true, bl, fns__law_plus, gls⟩ (defBody (top 21)) = true := by decide +kernel

-- _law_swap
def N__law_swap : List Str := ["one", "means", "found", "name", "factor"]
def fns__law_swap : List Str := ["is_whole", "is_pair", "is_sum", "sum_with", "sum_of", "added", "times", "without", "put_in", "worth", "names_of", "names_in", "_law_cell", "_law_take", "_law_box", "_law_same", "_law_sum", "_law_plus"]
def core__law_swap : CSs := (.cons (.set 2 (.tup (.cons (.ix (.slot 0) (.int 0)) (.cons (.tup .nil) .nil))))
      (.cons (.for_ (.tup (.cons (.slot 3) (.cons (.slot 4) .nil))) (.seq (.ix (.slot 0) (.int 1))) (.cons (.set 2 (.call 17 (.cons (.slot 2) (.cons (.get2 (.slot 1) (.slot 3) (.tup (.cons (.int 0) (.cons (.tup (.cons (.tup (.cons (.slot 3) (.cons (.int 1) .nil))) .nil)) .nil)))) (.cons (.slot 4) .nil)))))
      .nil))
      (.cons (.ret (.slot 2))
      .nil)))
theorem sc__law_swap : FnScope N__law_swap ["one", "means"] (defScope (top 22)) := ⟨rfl, rfl, rfl, by decide +kernel, rfl, by decide +kernel, by decide +kernel⟩
theorem chk__law_swap : chkSs core__law_swap ⟨defScope (top 22), N__law_swap, fun _ => true, bl, fns__law_swap, gls⟩ (defBody (top 22)) = true := by decide +kernel

-- _law_worth
def N__law_worth : List Str := ["one", "values", "name", "factor"]
def fns__law_worth : List Str := ["is_whole", "is_pair", "is_sum", "sum_with", "sum_of", "added", "times", "without", "put_in", "worth", "names_of", "names_in", "_law_cell", "_law_take", "_law_box", "_law_same", "_law_sum", "_law_plus", "_law_swap"]
def core__law_worth : CSs := (.cons (.ret (.op false .Add (.ix (.slot 0) (.int 0)) (.blt false .sum (.cons (.lc false [("name", 2), ("factor", 3)] (.tup (.cons (.slot 2) (.cons (.slot 3) .nil))) (.seq (.ix (.slot 0) (.int 1))) .no (.op false .Mult (.slot 3) (.ix (.slot 1) (.slot 2)))) .nil))))
      .nil)
theorem sc__law_worth : FnScope N__law_worth ["one", "values"] (defScope (top 23)) := ⟨rfl, rfl, rfl, by decide +kernel, rfl, by decide +kernel, by decide +kernel⟩
theorem chk__law_worth : chkSs core__law_worth ⟨defScope (top 23), N__law_worth, fun _ => true, bl, fns__law_worth, gls⟩ (defBody (top 23)) = true := by decide +kernel

-- _law_int
def N__law_int : List Str := ["thing"]
def fns__law_int : List Str := ["is_whole", "is_pair", "is_sum", "sum_with", "sum_of", "added", "times", "without", "put_in", "worth", "names_of", "names_in", "_law_cell", "_law_take", "_law_box", "_law_same", "_law_sum", "_law_plus", "_law_swap", "_law_worth"]
def core__law_int : CSs := (.cons (.ret (.and (.isi .int (.slot 0)) (.last (.not (.isi .bool (.slot 0))))))
      .nil)
theorem sc__law_int : FnScope N__law_int ["thing"] (defScope (top 27)) := ⟨rfl, rfl, rfl, by decide +kernel, rfl, by decide +kernel, by decide +kernel⟩
theorem chk__law_int : chkSs core__law_int ⟨defScope (top 27), N__law_int, fun _ => true, bl, fns__law_int, gls⟩ (defBody (top 27)) = true := by decide +kernel

-- _law_is_sum
def N__law_is_sum : List Str := ["thing", "pair", "names"]
def fns__law_is_sum : List Str := ["is_whole", "is_pair", "is_sum", "sum_with", "sum_of", "added", "times", "without", "put_in", "worth", "names_of", "names_in", "_law_cell", "_law_take", "_law_box", "_law_same", "_law_sum", "_law_plus", "_law_swap", "_law_worth", "_law_int"]
def core__law_is_sum : CSs := (.cons (.ifs (.or (.not (.isi .tuple (.slot 0))) (.or (.cmp .NotEq (.blt false .len (.cons (.slot 0) .nil)) (.int 2)) (.or (.not (.call 20 (.cons (.ix (.slot 0) (.int 0)) .nil))) (.last (.not (.isi .tuple (.ix (.slot 0) (.int 1)))))))) (.cons (.ret (.bl false))
      .nil) .nil)
      (.cons (.for_ (.slot 1) (.seq (.ix (.slot 0) (.int 1))) (.cons (.ifs (.or (.not (.isi .tuple (.slot 1))) (.or (.cmp .NotEq (.blt false .len (.cons (.slot 1) .nil)) (.int 2)) (.or (.not (.call 20 (.cons (.ix (.slot 1) (.int 0)) .nil))) (.or (.cmp .Lt (.ix (.slot 1) (.int 0)) (.neg (.int 1))) (.or (.not (.call 20 (.cons (.ix (.slot 1) (.int 1)) .nil))) (.last (.cmp .Eq (.ix (.slot 1) (.int 1)) (.int 0)))))))) (.cons (.ret (.bl false))
      .nil) .nil)
      .nil))
      (.cons (.setlc 2 false [("pair", 1)] (.slot 1) (.seq (.ix (.slot 0) (.int 1))) .no (.ix (.slot 1) (.int 0)))
      (.cons (.ret (.and (.cmp .Eq (.slot 2) (.blt false .sorted (.cons (.slot 2) .nil))) (.last (.cmp .Eq (.lenset (.slot 2)) (.blt false .len (.cons (.slot 2) .nil))))))
      .nil))))
theorem sc__law_is_sum : FnScope N__law_is_sum ["thing"] (defScope (top 24)) := ⟨rfl, rfl, rfl, by decide +kernel, rfl, by decide +kernel, by decide +kernel⟩
theorem chk__law_is_sum : chkSs core__law_is_sum ⟨defScope (top 24), N__law_is_sum, fun _ => true, bl, fns__law_is_sum, gls⟩ (defBody (top 24)) = true := by decide +kernel

-- _law_draw_sum
def N__law_draw_sum : List Str := ["box", "names", "size", "factors", "name"]
def fns__law_draw_sum : List Str := ["is_whole", "is_pair", "is_sum", "sum_with", "sum_of", "added", "times", "without", "put_in", "worth", "names_of", "names_in", "_law_cell", "_law_take", "_law_box", "_law_same", "_law_sum", "_law_plus", "_law_swap", "_law_worth", "_law_int", "_law_is_sum"]
def core__law_draw_sum : CSs := (.cons (.set 3 (.dict0 true))
      (.cons (.for_ (.slot 4) (.seq (.slot 1)) (.cons (.ifs (.cmp .Eq (.call 13 (.cons (.slot 0) (.cons (.int 2) .nil))) (.int 0)) (.cons (.setix (.slot 3) (.slot 4) (.op false .Mult (.ix (.lst false (.cons (.int 1) (.cons (.neg (.int 1)) (.cons (.int 2) (.cons (.neg (.int 3)) (.cons (.int 1) (.cons (.int 5) (.cons (.neg (.int 2)) .nil)))))))) (.call 13 (.cons (.slot 0) (.cons (.int 7) .nil)))) (.slot 2)))
      .nil) .nil)
      .nil))
      (.frz 3 (.cons (.ret (.call 16 (.cons (.op false .Mult (.ix (.lst false (.cons (.int 0) (.cons (.int 1) (.cons (.neg (.int 1)) (.cons (.int 4) (.cons (.neg (.int 7)) (.cons (.int 10) (.cons (.int 3) .nil)))))))) (.call 13 (.cons (.slot 0) (.cons (.int 7) .nil)))) (.slot 2)) (.cons (.slot 3) .nil))))
      .nil))))
theorem sc__law_draw_sum : FnScope N__law_draw_sum ["box", "names", "size"] (defScope (top 25)) := ⟨rfl, rfl, rfl, by decide +kernel, rfl, by decide +kernel, by decide +kernel⟩
theorem chk__law_draw_sum : chkSs core__law_draw_sum ⟨defScope (top 25), N__law_draw_sum, fun _ => true, bl, fns__law_draw_sum, gls⟩ (defBody (top 25)) = true := by decide +kernel

-- _law_names_of
def N__law_names_of : List Str := ["sums", "found", "one", "name", "factor"]
def fns__law_names_of : List Str := ["is_whole", "is_pair", "is_sum", "sum_with", "sum_of", "added", "times", "without", "put_in", "worth", "names_of", "names_in", "_law_cell", "_law_take", "_law_box", "_law_same", "_law_sum", "_law_plus", "_law_swap", "_law_worth", "_law_int", "_law_is_sum", "_law_draw_sum"]
def core__law_names_of : CSs := (.cons (.set 1 (.dict0 true))
      (.cons (.for_ (.slot 2) (.seq (.slot 0)) (.cons (.for_ (.tup (.cons (.slot 3) (.cons (.slot 4) .nil))) (.seq (.ix (.slot 2) (.int 1))) (.cons (.setix (.slot 1) (.slot 3) (.bl true))
      .nil))
      .nil))
      (.frz 1 (.cons (.ret (.blt false .sorted (.cons (.slot 1) .nil)))
      .nil))))
theorem sc__law_names_of : FnScope N__law_names_of ["sums"] (defScope (top 26)) := ⟨rfl, rfl, rfl, by decide +kernel, rfl, by decide +kernel, by decide +kernel⟩
theorem chk__law_names_of : chkSs core__law_names_of ⟨defScope (top 26), N__law_names_of, fun _ => true, bl, fns__law_names_of, gls⟩ (defBody (top 26)) = true := by decide +kernel

-- _law_odd
def N__law_odd : List Str := ["box", "one", "constant", "pairs", "some"]
def fns__law_odd : List Str := ["is_whole", "is_pair", "is_sum", "sum_with", "sum_of", "added", "times", "without", "put_in", "worth", "names_of", "names_in", "_law_cell", "_law_take", "_law_box", "_law_same", "_law_sum", "_law_plus", "_law_swap", "_law_worth", "_law_int", "_law_is_sum", "_law_draw_sum", "_law_names_of"]
def core__law_odd : CSs := (.cons (.setg (.tup (.cons (.slot 2) (.cons (.slot 3) .nil))) (.slot 1))
      (.cons (.set 4 (.lst false (.cons (.tup (.cons (.slot 2) (.cons (.blt false .list (.cons (.slot 3) .nil)) .nil))) (.cons (.lst false (.cons (.slot 2) (.cons (.slot 3) .nil))) (.cons (.tup (.cons (.slot 2) .nil)) (.cons (.tup (.cons (.slot 2) (.cons (.slot 3) (.cons (.int 0) .nil)))) (.cons (.tup (.cons (.bl true) (.cons (.slot 3) .nil))) (.cons (.tup (.cons .non (.cons (.slot 3) .nil))) (.cons (.tup (.cons (.str "1") (.cons (.slot 3) .nil))) (.cons (.tup (.cons (.slot 2) (.cons (.op false .Add (.slot 3) (.tup (.cons (.tup (.cons (.int 3) (.cons (.int 0) .nil))) .nil))) .nil))) (.cons (.tup (.cons (.slot 2) (.cons (.op false .Add (.slot 3) (.tup (.cons (.tup (.cons (.int 3) (.cons (.bl true) .nil))) .nil))) .nil))) .nil)))))))))))
      (.cons (.set 4 (.op false .Add (.slot 4) (.lst false (.cons (.tup (.cons (.slot 2) (.cons (.tup (.cons (.tup (.cons (.neg (.int 2)) (.cons (.int 1) .nil))) .nil)) .nil))) (.cons (.tup (.cons (.slot 2) (.cons (.tup (.cons (.tup (.cons (.int 2) (.cons (.int 1) .nil))) (.cons (.tup (.cons (.int 1) (.cons (.int 1) .nil))) .nil))) .nil))) (.cons (.tup (.cons (.slot 2) (.cons (.tup (.cons (.tup (.cons (.int 1) (.cons (.int 1) .nil))) (.cons (.tup (.cons (.int 1) (.cons (.int 2) .nil))) .nil))) .nil))) (.cons (.tup (.cons (.slot 2) (.cons (.tup (.cons (.tup (.cons (.bl true) (.cons (.int 1) .nil))) .nil)) .nil))) (.cons (.tup (.cons (.slot 2) (.cons (.tup (.cons (.lst false (.cons (.int 1) (.cons (.int 1) .nil))) .nil)) .nil))) (.cons (.tup (.cons (.slot 2) (.cons (.tup (.cons (.tup (.cons (.int 1) .nil)) .nil)) .nil))) (.cons (.tup (.cons (.slot 2) (.cons (.tup (.cons (.tup (.cons (.int 1) (.cons (.int 2) (.cons (.int 3) .nil)))) .nil)) .nil))) .nil))))))))))
      (.cons (.set 4 (.op false .Add (.slot 4) (.lst false (.cons (.tup (.cons (.slot 2) (.cons (.tup (.cons (.tup (.cons (.str "a") (.cons (.int 1) .nil))) .nil)) .nil))) (.cons (.tup (.cons (.slot 2) (.cons (.tup (.cons (.tup (.cons (.int 1) (.cons .non .nil))) .nil)) .nil))) (.cons (.tup (.cons (.slot 2) (.cons .non .nil))) (.cons .non (.cons (.int 7) (.cons (.str "sum") (.cons (.dict0 false) (.cons (.tup .nil) (.cons (.lst false .nil) (.cons (.bl true) (.cons (.slot 3) .nil))))))))))))))
      (.cons (.ret (.ix (.slot 4) (.call 13 (.cons (.slot 0) (.cons (.blt false .len (.cons (.slot 4) .nil)) .nil)))))
      .nil)))))
theorem sc__law_odd : FnScope N__law_odd ["box", "one"] (defScope (top 28)) := ⟨rfl, rfl, rfl, by decide +kernel, rfl, by decide +kernel, by decide +kernel⟩
theorem chk__law_odd : chkSs core__law_odd ⟨defScope (top 28), N__law_odd, fun _ => true, bl, fns__law_odd, gls⟩ (defBody (top 28)) = true := by decide +kernel

-- _law_values
def N__law_values : List Str := ["box", "names", "name"]
def fns__law_values : List Str := ["is_whole", "is_pair", "is_sum", "sum_with", "sum_of", "added", "times", "without", "put_in", "worth", "names_of", "names_in", "_law_cell", "_law_take", "_law_box", "_law_same", "_law_sum", "_law_plus", "_law_swap", "_law_worth", "_law_int", "_law_is_sum", "_law_draw_sum", "_law_names_of", "_law_odd"]
def core__law_values : CSs := (.cons (.ret (.blt false .dict (.cons (.lc false [("name", 2)] (.slot 2) (.seq (.slot 1)) .no (.tup (.cons (.slot 2) (.cons (.ix (.lst false (.cons (.int 0) (.cons (.int 1) (.cons (.neg (.int 3)) (.cons (.op false .Pow (.int 10) (.int 12)) (.cons (.int 7) (.cons (.neg (.op false .Pow (.int 10) (.int 20))) .nil))))))) (.call 13 (.cons (.slot 0) (.cons (.int 6) .nil)))) .nil)))) .nil)))
      .nil)
theorem sc__law_values : FnScope N__law_values ["box", "names"] (defScope (top 29)) := ⟨rfl, rfl, rfl, by decide +kernel, rfl, by decide +kernel, by decide +kernel⟩
theorem chk__law_values : chkSs core__law_values ⟨defScope (top 29), N__law_values, fun _ => true, bl, fns__law_values, gls⟩ (defBody (top 29)) = true := by decide +kernel

-- _law_sums_right
def N__law_sums_right : List Str := ["box", "sums", "names", "size", "one", "other", "factor", "values", "found", "due", "told", "worths"]
def fns__law_sums_right : List Str := ["is_whole", "is_pair", "is_sum", "sum_with", "sum_of", "added", "times", "without", "put_in", "worth", "names_of", "names_in", "_law_cell", "_law_take", "_law_box", "_law_same", "_law_sum", "_law_plus", "_law_swap", "_law_worth", "_law_int", "_law_is_sum", "_law_draw_sum", "_law_names_of", "_law_odd", "_law_values"]
def core__law_sums_right : CSs := (.cons (.par3 4 5 6 (.ix (.slot 1) (.int 0)) (.ix (.slot 1) (.int 1)) (.op false .Mult (.ix (.lst false (.cons (.int 0) (.cons (.int 1) (.cons (.neg (.int 1)) (.cons (.int 4) (.cons (.neg (.int 6)) .nil)))))) (.call 13 (.cons (.slot 0) (.cons (.int 5) .nil)))) (.slot 3)))
      (.cons (.set 7 (.call 25 (.cons (.slot 0) (.cons (.slot 2) .nil))))
      (.cons (.set 8 (.lst false (.cons (.call 5 (.cons (.slot 4) (.cons (.slot 5) .nil))) (.cons (.call 7 (.cons (.slot 4) (.cons (.slot 5) .nil))) (.cons (.call 6 (.cons (.slot 6) (.cons (.slot 4) .nil))) (.cons (.callk 5 ["other", "one"] [1, 0] (.cons (.slot 5) (.cons (.slot 4) .nil))) (.cons (.callk 6 ["one", "factor"] [1, 0] (.cons (.slot 5) (.cons (.slot 6) .nil))) .nil)))))))
      (.cons (.set 9 (.lst false (.cons (.call 17 (.cons (.slot 4) (.cons (.slot 5) (.cons (.int 1) .nil)))) (.cons (.call 17 (.cons (.slot 4) (.cons (.slot 5) (.cons (.neg (.int 1)) .nil)))) (.cons (.call 17 (.cons (.tup (.cons (.int 0) (.cons (.tup .nil) .nil))) (.cons (.slot 4) (.cons (.slot 6) .nil)))) (.cons (.call 17 (.cons (.slot 4) (.cons (.slot 5) (.cons (.int 1) .nil)))) (.cons (.call 17 (.cons (.tup (.cons (.int 0) (.cons (.tup .nil) .nil))) (.cons (.slot 5) (.cons (.slot 6) .nil)))) .nil)))))))
      (.cons (.ifs (.or (.not (.call 15 (.cons (.slot 8) (.cons (.slot 9) .nil)))) (.last (.cmp .NotEq (.lc false [("told", 10)] (.slot 10) (.seq (.slot 8)) (.one (.cmp .IsNot (.call 2 (.cons (.slot 10) .nil)) (.bl true))) (.slot 10)) (.lst false .nil)))) (.cons (.ret (.bl false))
      .nil) .nil)
      (.cons (.set 11 (.lst false (.cons (.call 19 (.cons (.slot 4) (.cons (.slot 7) .nil))) (.cons (.call 19 (.cons (.slot 5) (.cons (.slot 7) .nil))) .nil))))
      (.cons (.set 10 (.lst false (.cons (.call 9 (.cons (.slot 4) (.cons (.slot 7) .nil))) (.cons (.callk 9 ["values", "one"] [1, 0] (.cons (.slot 7) (.cons (.ix (.slot 8) (.int 0)) .nil))) (.cons (.call 9 (.cons (.ix (.slot 8) (.int 1)) (.cons (.slot 7) .nil))) (.cons (.call 9 (.cons (.ix (.slot 8) (.int 2)) (.cons (.slot 7) .nil))) .nil))))))
      (.cons (.ret (.call 15 (.cons (.slot 10) (.cons (.lst false (.cons (.ix (.slot 11) (.int 0)) (.cons (.op false .Add (.ix (.slot 11) (.int 0)) (.ix (.slot 11) (.int 1))) (.cons (.op false .Sub (.ix (.slot 11) (.int 0)) (.ix (.slot 11) (.int 1))) (.cons (.op false .Mult (.slot 6) (.ix (.slot 11) (.int 0))) .nil))))) .nil))))
      .nil))))))))
theorem sc__law_sums_right : FnScope N__law_sums_right ["box", "sums", "names", "size"] (defScope (top 30)) := ⟨rfl, rfl, rfl, by decide +kernel, rfl, by decide +kernel, by decide +kernel⟩
theorem chk__law_sums_right : chkSs core__law_sums_right ⟨defScope (top 30), N__law_sums_right, fun _ => true, bl, fns__law_sums_right, gls⟩ (defBody (top 30)) = true := by decide +kernel

-- _law_swaps_right
def N__law_swaps_right : List Str := ["box", "sums", "names", "means", "name", "kept", "values", "told", "inner"]
def fns__law_swaps_right : List Str := ["is_whole", "is_pair", "is_sum", "sum_with", "sum_of", "added", "times", "without", "put_in", "worth", "names_of", "names_in", "_law_cell", "_law_take", "_law_box", "_law_same", "_law_sum", "_law_plus", "_law_swap", "_law_worth", "_law_int", "_law_is_sum", "_law_draw_sum", "_law_names_of", "_law_odd", "_law_values", "_law_sums_right"]
def core__law_swaps_right : CSs := (.cons (.set 3 (.dict0 true))
      (.cons (.for_ (.slot 4) (.seq (.slot 2)) (.cons (.ifs (.cmp .Gt (.call 13 (.cons (.slot 0) (.cons (.int 3) .nil))) (.int 0)) (.cons (.setix (.slot 3) (.slot 4) (.ix (.lst false (.cons (.ix (.slot 1) (.call 13 (.cons (.slot 0) (.cons (.blt false .len (.cons (.slot 1) .nil)) .nil)))) (.cons (.tup (.cons (.int 0) (.cons (.tup (.cons (.tup (.cons (.ix (.slot 2) (.call 13 (.cons (.slot 0) (.cons (.blt false .len (.cons (.slot 2) .nil)) .nil)))) (.cons (.int 1) .nil))) .nil)) .nil))) .nil))) (.call 13 (.cons (.slot 0) (.cons (.int 2) .nil)))))
      .nil) .nil)
      .nil))
      (.frz 3 (.cons (.par 5 6 (.blt false .dict (.cons (.slot 3) .nil)) (.call 25 (.cons (.slot 0) (.cons (.slot 2) .nil))))
      (.cons (.set 7 (.ite (.cmp .Eq (.call 13 (.cons (.slot 0) (.cons (.int 2) .nil))) (.int 0)) (.call 8 (.cons (.ix (.slot 1) (.int 0)) (.cons (.slot 3) .nil))) (.callk 8 ["meanings", "one"] [1, 0] (.cons (.slot 3) (.cons (.ix (.slot 1) (.int 0)) .nil)))))
      (.cons (.ifs (.or (.not (.call 15 (.cons (.slot 7) (.cons (.call 18 (.cons (.ix (.slot 1) (.int 0)) (.cons (.slot 3) .nil))) .nil)))) (.last (.not (.call 15 (.cons (.sitems false (.slot 3)) (.cons (.sitems false (.slot 5)) .nil)))))) (.cons (.ret (.bl false))
      .nil) .nil)
      (.cons (.set 8 (.blt true .dict (.cons (.slot 6) .nil)))
      (.cons (.forkeys (.slot 4) 3 (.cons (.setix (.slot 8) (.slot 4) (.call 19 (.cons (.ix (.slot 3) (.slot 4)) (.cons (.slot 6) .nil))))
      .nil))
      (.frz 8 (.cons (.ret (.call 15 (.cons (.call 9 (.cons (.slot 7) (.cons (.slot 6) .nil))) (.cons (.call 19 (.cons (.ix (.slot 1) (.int 0)) (.cons (.slot 8) .nil))) .nil))))
      .nil))))))))))
theorem sc__law_swaps_right : FnScope N__law_swaps_right ["box", "sums", "names"] (defScope (top 31)) := ⟨rfl, rfl, rfl, by decide +kernel, rfl, by decide +kernel, by decide +kernel⟩
theorem chk__law_swaps_right : chkSs core__law_swaps_right ⟨defScope (top 31), N__law_swaps_right, fun _ => true, bl, fns__law_swaps_right, gls⟩ (defBody (top 31)) = true := by decide +kernel

-- law
def N_law : List Str := ["script", "k", "box", "names", "size", "sums", "turn", "one", "thing", "number", "told", "pair"]
def fns_law : List Str := ["is_whole", "is_pair", "is_sum", "sum_with", "sum_of", "added", "times", "without", "put_in", "worth", "names_of", "names_in", "_law_cell", "_law_take", "_law_box", "_law_same", "_law_sum", "_law_plus", "_law_swap", "_law_worth", "_law_int", "_law_is_sum", "_law_draw_sum", "_law_names_of", "_law_odd", "_law_values", "_law_sums_right", "_law_swaps_right"]
def core_law : CSs := (.cons (.ifs (.not (.call 15 (.cons (.glb 0) (.cons (.neg (.int 1)) .nil)))) (.cons (.ret (.bl false))
      .nil) .nil)
      (.cons (.for_ (.slot 1) (.range1 (.blt false .max (.cons (.int 2) (.cons (.blt false .min (.cons (.int 5) (.cons (.blt false .len (.cons (.slot 0) .nil)) .nil))) .nil)))) (.cons (.set 2 (.call 14 (.cons (.call 12 (.cons (.slot 0) (.cons (.slot 1) .nil))) .nil)))
      (.cons (.set 3 (.blt false .sorted (.cons (.cut false (.cut false (.lst false (.cons (.neg (.int 1)) (.cons (.int 0) (.cons (.int 1) (.cons (.int 4) (.cons (.int 9) (.cons (.op false .Pow (.int 10) (.int 6)) .nil))))))) (.one (.call 13 (.cons (.slot 2) (.cons (.int 3) .nil)))) .no) .no (.one (.op false .Add (.int 1) (.call 13 (.cons (.slot 2) (.cons (.int 5) .nil)))))) .nil)))
      (.cons (.set 4 (.ix (.lst false (.cons (.int 1) (.cons (.int 1) (.cons (.op false .Pow (.int 10) (.int 13)) .nil)))) (.call 13 (.cons (.slot 2) (.cons (.int 3) .nil)))))
      (.cons (.setlc 5 false [("turn", 6)] (.slot 6) (.range1 (.op false .Add (.int 2) (.call 13 (.cons (.slot 2) (.cons (.int 3) .nil))))) .no (.call 22 (.cons (.slot 2) (.cons (.slot 3) (.cons (.slot 4) .nil)))))
      (.cons (.ifs (.cmp .NotEq (.lc false [("one", 7)] (.slot 7) (.seq (.slot 5)) (.one (.or (.cmp .IsNot (.call 2 (.cons (.slot 7) .nil)) (.bl true)) (.last (.cmp .IsNot (.callk 2 ["thing"] [0] (.cons (.slot 7) .nil)) (.bl true))))) (.slot 7)) (.lst false .nil)) (.cons (.ret (.bl false))
      .nil) .nil)
      (.cons (.for_ (.slot 6) (.range1 (.int 4)) (.cons (.set 8 (.call 24 (.cons (.slot 2) (.cons (.ix (.slot 5) (.int 0)) .nil))))
      (.cons (.ifs (.not (.call 15 (.cons (.call 2 (.cons (.slot 8) .nil)) (.cons (.call 21 (.cons (.slot 8) .nil)) .nil)))) (.cons (.ret (.bl false))
      .nil) .nil)
      .nil)))
      (.cons (.ifs (.or (.not (.call 26 (.cons (.slot 2) (.cons (.slot 5) (.cons (.slot 3) (.cons (.slot 4) .nil)))))) (.last (.not (.call 27 (.cons (.slot 2) (.cons (.slot 5) (.cons (.slot 3) .nil))))))) (.cons (.ret (.bl false))
      .nil) .nil)
      (.cons (.set 9 (.ix (.lst false (.cons (.int 0) (.cons (.neg (.int 5)) (.cons (.op false .Pow (.int 10) (.int 30)) .nil)))) (.call 13 (.cons (.slot 2) (.cons (.int 3) .nil)))))
      (.cons (.ifs (.not (.call 15 (.cons (.lst false (.cons (.call 4 (.cons (.tup (.cons (.str "num") (.cons (.slot 9) .nil))) .nil)) (.cons (.callk 4 ["operand"] [0] (.cons (.tup (.cons (.str "name") (.cons (.int 4) .nil))) .nil)) .nil))) (.cons (.lst false (.cons (.tup (.cons (.slot 9) (.cons (.tup .nil) .nil))) (.cons (.tup (.cons (.int 0) (.cons (.tup (.cons (.tup (.cons (.int 4) (.cons (.int 1) .nil))) .nil)) .nil))) .nil))) .nil)))) (.cons (.ret (.bl false))
      .nil) .nil)
      (.cons (.set 10 (.call 11 (.cons (.slot 5) .nil)))
      (.cons (.ifs (.not (.call 15 (.cons (.lst false (.cons (.call 10 (.cons (.ix (.slot 5) (.int 0)) .nil)) (.cons (.slot 10) .nil))) (.cons (.lst false (.cons (.lc false [("pair", 11)] (.slot 11) (.seq (.ix (.ix (.slot 5) (.int 0)) (.int 1))) .no (.ix (.slot 11) (.int 0))) (.cons (.call 23 (.cons (.slot 5) .nil)) .nil))) .nil)))) (.cons (.ret (.bl false))
      .nil) .nil)
      (.cons (.expr (.app (.slot 10) (.int 99)))
      (.cons (.ifs (.not (.call 15 (.cons (.callk 11 ["sums"] [0] (.cons (.blt false .tuple (.cons (.slot 5) .nil)) .nil)) (.cons (.call 23 (.cons (.slot 5) .nil)) .nil)))) (.cons (.ret (.bl false))
      .nil) .nil)
      .nil))))))))))))))
      (.cons (.ret (.bl true))
      .nil)))
theorem sc_law : FnScope N_law ["script"] (defScope (top 32)) := ⟨rfl, rfl, rfl, by decide +kernel, rfl, by decide +kernel, by decide +kernel⟩
theorem chk_law : chkSs core_law ⟨defScope (top 32), N_law, fun _ => true, bl, fns_law, gls⟩ (defBody (top 32)) = true := by decide +kernel
-- kws: {'worth': [(['values', 'one'], [1, 0])], 'times': [(['one', 'factor'], [1, 0])], 'added': [(['other', 'one'], [1, 0])], 'put_in': [(['meanings', 'one'], [1, 0])], 'names_in': [(['sums'], [0])], 'sum_of': [(['operand'], [0])], 'is_sum': [(['thing'], [0])]}
end K00
set_option Elab.async false
set_option linter.all false
set_option maxRecDepth 100000
set_option maxHeartbeats 1000000
namespace K00
open PySem L2 DL
def DD (Q : DQ) : DEnds := { nx := fun _ S' => rtQ Q .non S', rt := rtQ Q }
/-! ### the box and what is drawn -/
structure Bx where
  n : Int
  f : Bool
  r : Int
  t : Int
def Bx.o (b : Bx) : O := .lst [.int b.n, .bl b.f, .int b.r, .int b.t]
def Bx.ok (b : Bx) (k : Nat) : Prop := 0 ≤ b.r ∧ b.r < 2147483629 ∧ 0 ≤ b.t ∧ b.t ≤ k
def spTake : DSp := fun ds S Q => ∃ b many k bx, ds = [.ref b, .int many] ∧ 0 < many ∧ many < 1000 ∧ S b = some (Bx.o bx) ∧ bx.ok k ∧ k < 1000000 ∧
  ∀ r bx', 0 ≤ r → r < many → Bx.ok bx' (k + 1) → Q (.int r) (sup S b bx'.o)
theorem r_take {T : Tb} {ds : List D} {S : Store} {Q : DQ} (h : spTake ds S Q) : denSs T core__law_take (DD Q) (start0 N__law_take.length ds) S := by
  obtain ⟨b, many, k, bx, rfl, h1, h2, h3, ⟨h4, h5, h6, h7⟩, h8, q⟩ := h
  have h3 : S b = some (.lst [.int bx.n, .bl bx.f, .int bx.r, .int bx.t]) := h3
  simp only [core__law_take, N__law_take, DD, denSs, denS, den, dens, denO, denT, denI, DV.of, DV.ofB, sSeq, sRet, sRetN, sNext, sIf, sSet, sSetG, sPar, sPar3, sSetIx, sDrop, sFor, sForKeys, sBreak, sCont, dAnd, dOr, dNot, dAndT, dOrT, dNotT, dUn, dOp, dIte, dVar, dC, dTup, dLst, dNil, dCons, dCall, dCut, dPart, dNoPart, dGet1, dGet2, dApp,
  dSeq1, dRange1, dRange2, dEnum, dZip, dLc, dDc, dChain, fIsi, fBlt, fLen, fAbs, fInt1, fMax, fMin, fL1, fTuple, fList, fSorted, fDict, fBin, fCmp, fNeg, fAdd, fSub, fMul, fMod, fDiv, fPow, fInt, fInt0, fLt, fLe, fGt, fGe, fIs, fIsNot, fInD, fIx, fCut, fSeq, fRange1, fRange2, fEnum, fZip, fSetIx, fGet, fApp, fLenSet, fAug, sAug, tOf, tOfB, guardN, gset, gsets, sFrz, frz_dct, frz_lst, fEq_int, fNe_int, fEq_bl, fNe_bl, fEq_nil, fNe_nil, fEq_ints,
  TyC.name, DL.isNon, start0, List.length_cons, List.length_nil, List.map_cons, List.map_nil, List.cons_append, List.nil_append, List.getElem?_cons_zero, List.getElem?_cons_succ, List.getElem?_nil, List.set_cons_zero, List.set_cons_succ, List.set_nil, List.replicate, Nat.reduceSub, Nat.reduceAdd, mkL, mkD, dwipe, Bool.false_eq_true, if_true, if_false, ite_true, ite_false, true_and, and_true, Option.isSome_some, Option.isSome_none, Option.map_some, Option.map_none, Option.getD_some, Option.getD_none,
  tyD_non, tyD_bl, tyD_int, tyD_str, tyD_tup, tyD_lst, tyD_dct, truD_non, truD_bl, truD_int, truD_tup, truD_lst, truD_dct, asL_non, asD_non, keyD_non, asL_bl, asD_bl, keyD_bl, asL_int, asD_int, keyD_int, asL_str, asD_str, keyD_str, asL_tup, asD_tup, keyD_tup, asL_lst, asD_lst, keyD_lst, asL_dct, asD_dct, keyD_dct, asL_scr, asD_scr, keyD_scr, asL_sup, asD_sup, asL_supD, isLs_sup, tyD_supL, tyD_supD, sup_same, sup_sup, ixN_1_0, ixN_2_0, ixN_2_1, ixN_3_0, ixN_3_1, ixN_3_2, ixN_4_0, ixN_4_1, ixN_4_2, ixN_4_3, ixN_5_0, ixN_5_1, ixN_5_2, ixN_5_3, ixN_5_4, ixN_6_0, ixN_6_1, ixN_6_2, ixN_6_3, ixN_6_4, ixN_6_5, ixN_7_0, ixN_7_1, ixN_7_2, ixN_7_3, ixN_7_4, ixN_7_5, ixN_7_6, ixN_8_0, ixN_8_1, ixN_8_2, ixN_8_3, ixN_8_4, ixN_8_5, ixN_8_6, ixN_8_7, atI_0, atI_1, atI_2, atI_3, atI_4, atI_5, atI_6, atI_7, atI_8, isi_NoneType_bool, isi_NoneType_int, isi_NoneType_str, isi_NoneType_tuple, isi_NoneType_list, isi_NoneType_dict, isi_bool_bool, isi_bool_int, isi_bool_str, isi_bool_tuple, isi_bool_list, isi_bool_dict, isi_int_bool, isi_int_int, isi_int_str, isi_int_tuple, isi_int_list, isi_int_dict, isi_str_bool, isi_str_int, isi_str_str, isi_str_tuple, isi_str_list, isi_str_dict, isi_tuple_bool, isi_tuple_int, isi_tuple_str, isi_tuple_tuple, isi_tuple_list, isi_tuple_dict, isi_list_bool, isi_list_int, isi_list_str, isi_list_tuple, isi_list_list, isi_list_dict, isi_dict_bool, isi_dict_int, isi_dict_str, isi_dict_tuple, isi_dict_list, isi_dict_dict, h3, asL_ref h3]
  have e5 : 0 ≤ bx.r + 15489221 * (bx.t + 1) + 179426549 ∧ bx.r + 15489221 * (bx.t + 1) + 179426549 < 17000000000000 := by omega
  have m0 := Int.emod_nonneg ((bx.r + 15489221 * (bx.t + 1) + 179426549) ^ Int.toNat 5) (b := 2147483647) (by decide)
  have m1 := Int.emod_lt_of_pos ((bx.r + 15489221 * (bx.t + 1) + 179426549) ^ Int.toNat 5) (b := 2147483647) (by decide)
  generalize (bx.r + 15489221 * (bx.t + 1) + 179426549) ^ Int.toNat 5 % 2147483647 = mx at *
  split
  · split
    · exact ⟨h1, cdivW h1 (.of (by omega) (by omega)), .of (q _ ⟨bx.n / many, bx.f, bx.r, bx.t⟩ (Int.emod_nonneg _ (by omega)) (Int.emod_lt_of_pos _ h1) ⟨h4, h5, h6, by show bx.t ≤ _; omega⟩)⟩
    · exact ⟨cmulW (.of (by decide) (by decide)) (.of (by omega) (by omega)), cpow (by omega) (by omega) (by decide) (by decide), by decide, cmulW (.of (by omega) (by omega)) (.of (by decide) (by decide)), cmulW (.of (by decide) (by decide)) (.of (by omega) (by omega)),
        cpow (by omega) (by omega) (by decide) (by decide), by decide, cdivW (by decide) (.of (by decide) (by decide)), h1, .of (q _ ⟨bx.n, bx.f, bx.r, bx.t + 1⟩ (Int.emod_nonneg _ (by omega)) (Int.emod_lt_of_pos _ h1) ⟨h4, h5, by show 0 ≤ bx.t + 1; omega, by show bx.t + 1 ≤ _; omega⟩)⟩
  · exact ⟨cmulW (.of (by decide) (by decide)) (.of (by omega) (by omega)), cpow (by omega) (by omega) (by decide) (by decide), by decide, cmulW (.of (by omega) (by omega)) (.of (by decide) (by decide)), cmulW (.of (by decide) (by decide)) (.of (by omega) (by omega)),
        cpow (by omega) (by omega) (by decide) (by decide), by decide, cdivW (by decide) (.of (by decide) (by decide)), h1, .of (q _ ⟨bx.n, bx.f, bx.r, bx.t + 1⟩ (Int.emod_nonneg _ (by omega)) (Int.emod_lt_of_pos _ h1) ⟨h4, h5, by show 0 ≤ bx.t + 1; omega, by show bx.t + 1 ≤ _; omega⟩)⟩
def spBox : DSp := fun ds S Q => ∃ g, ds = [.int g] ∧ ∀ b bx, S b = none → Bx.ok bx 0 → Q (.ref b) (sup S b bx.o)
theorem r_box {T : Tb} {ds : List D} {S : Store} {Q : DQ} (h : spBox ds S Q) : denSs T core__law_box (DD Q) (start0 N__law_box.length ds) S := by
  obtain ⟨g, rfl, q⟩ := h
  simp only [core__law_box, N__law_box, DD, denSs, denS, den, dens, denO, denT, denI, DV.of, DV.ofB, sSeq, sRet, sRetN, sNext, sIf, sSet, sSetG, sPar, sPar3, sSetIx, sDrop, sFor, sForKeys, sBreak, sCont, dAnd, dOr, dNot, dAndT, dOrT, dNotT, dUn, dOp, dIte, dVar, dC, dTup, dLst, dNil, dCons, dCall, dCut, dPart, dNoPart, dGet1, dGet2, dApp,
  dSeq1, dRange1, dRange2, dEnum, dZip, dLc, dDc, dChain, fIsi, fBlt, fLen, fAbs, fInt1, fMax, fMin, fL1, fTuple, fList, fSorted, fDict, fBin, fCmp, fNeg, fAdd, fSub, fMul, fMod, fDiv, fPow, fInt, fInt0, fLt, fLe, fGt, fGe, fIs, fIsNot, fInD, fIx, fCut, fSeq, fRange1, fRange2, fEnum, fZip, fSetIx, fGet, fApp, fLenSet, fAug, sAug, tOf, tOfB, guardN, gset, gsets, sFrz, frz_dct, frz_lst, fEq_int, fNe_int, fEq_bl, fNe_bl, fEq_nil, fNe_nil, fEq_ints,
  TyC.name, DL.isNon, start0, List.length_cons, List.length_nil, List.map_cons, List.map_nil, List.cons_append, List.nil_append, List.getElem?_cons_zero, List.getElem?_cons_succ, List.getElem?_nil, List.set_cons_zero, List.set_cons_succ, List.set_nil, List.replicate, Nat.reduceSub, Nat.reduceAdd, mkL, mkD, dwipe, Bool.false_eq_true, if_true, if_false, ite_true, ite_false, true_and, and_true, Option.isSome_some, Option.isSome_none, Option.map_some, Option.map_none, Option.getD_some, Option.getD_none,
  tyD_non, tyD_bl, tyD_int, tyD_str, tyD_tup, tyD_lst, tyD_dct, truD_non, truD_bl, truD_int, truD_tup, truD_lst, truD_dct, asL_non, asD_non, keyD_non, asL_bl, asD_bl, keyD_bl, asL_int, asD_int, keyD_int, asL_str, asD_str, keyD_str, asL_tup, asD_tup, keyD_tup, asL_lst, asD_lst, keyD_lst, asL_dct, asD_dct, keyD_dct, asL_scr, asD_scr, keyD_scr, asL_sup, asD_sup, asL_supD, isLs_sup, tyD_supL, tyD_supD, sup_same, sup_sup, ixN_1_0, ixN_2_0, ixN_2_1, ixN_3_0, ixN_3_1, ixN_3_2, ixN_4_0, ixN_4_1, ixN_4_2, ixN_4_3, ixN_5_0, ixN_5_1, ixN_5_2, ixN_5_3, ixN_5_4, ixN_6_0, ixN_6_1, ixN_6_2, ixN_6_3, ixN_6_4, ixN_6_5, ixN_7_0, ixN_7_1, ixN_7_2, ixN_7_3, ixN_7_4, ixN_7_5, ixN_7_6, ixN_8_0, ixN_8_1, ixN_8_2, ixN_8_3, ixN_8_4, ixN_8_5, ixN_8_6, ixN_8_7, atI_0, atI_1, atI_2, atI_3, atI_4, atI_5, atI_6, atI_7, atI_8, isi_NoneType_bool, isi_NoneType_int, isi_NoneType_str, isi_NoneType_tuple, isi_NoneType_list, isi_NoneType_dict, isi_bool_bool, isi_bool_int, isi_bool_str, isi_bool_tuple, isi_bool_list, isi_bool_dict, isi_int_bool, isi_int_int, isi_int_str, isi_int_tuple, isi_int_list, isi_int_dict, isi_str_bool, isi_str_int, isi_str_str, isi_str_tuple, isi_str_list, isi_str_dict, isi_tuple_bool, isi_tuple_int, isi_tuple_str, isi_tuple_tuple, isi_tuple_list, isi_tuple_dict, isi_list_bool, isi_list_int, isi_list_str, isi_list_tuple, isi_list_list, isi_list_dict, isi_dict_bool, isi_dict_int, isi_dict_str, isi_dict_tuple, isi_dict_list, isi_dict_dict]
  refine ⟨cpow (by decide) (by decide) (by decide) (by decide), by decide, by decide, fun p hp => .of ?_⟩
  exact q p ⟨_, _, _, _⟩ hp ⟨Int.emod_nonneg _ (by decide), Int.emod_lt_of_pos _ (by decide), Int.le_refl 0, Int.le_refl 0⟩
def spCell : DSp := fun ds S Q => ∃ ns k, ds = [.scr ns, .int k] ∧ 0 ≤ k ∧ k < 1000 ∧ ∀ g, Q (.int g) S
theorem r_cell {T : Tb} {ds : List D} {S : Store} {Q : DQ} (h : spCell ds S Q) : denSs T core__law_cell (DD Q) (start0 N__law_cell.length ds) S := by
  obtain ⟨ns, k, rfl, h1, h2, q⟩ := h
  simp only [core__law_cell, N__law_cell, DD, denSs, denS, den, dens, denO, denT, denI, DV.of, DV.ofB, sSeq, sRet, sRetN, sNext, sIf, sSet, sSetG, sPar, sPar3, sSetIx, sDrop, sFor, sForKeys, sBreak, sCont, dAnd, dOr, dNot, dAndT, dOrT, dNotT, dUn, dOp, dIte, dVar, dC, dTup, dLst, dNil, dCons, dCall, dCut, dPart, dNoPart, dGet1, dGet2, dApp,
  dSeq1, dRange1, dRange2, dEnum, dZip, dLc, dDc, dChain, fIsi, fBlt, fLen, fAbs, fInt1, fMax, fMin, fL1, fTuple, fList, fSorted, fDict, fBin, fCmp, fNeg, fAdd, fSub, fMul, fMod, fDiv, fPow, fInt, fInt0, fLt, fLe, fGt, fGe, fIs, fIsNot, fInD, fIx, fCut, fSeq, fRange1, fRange2, fEnum, fZip, fSetIx, fGet, fApp, fLenSet, fAug, sAug, tOf, tOfB, guardN, gset, gsets, sFrz, frz_dct, frz_lst, fEq_int, fNe_int, fEq_bl, fNe_bl, fEq_nil, fNe_nil, fEq_ints,
  TyC.name, DL.isNon, start0, List.length_cons, List.length_nil, List.map_cons, List.map_nil, List.cons_append, List.nil_append, List.getElem?_cons_zero, List.getElem?_cons_succ, List.getElem?_nil, List.set_cons_zero, List.set_cons_succ, List.set_nil, List.replicate, Nat.reduceSub, Nat.reduceAdd, mkL, mkD, dwipe, Bool.false_eq_true, if_true, if_false, ite_true, ite_false, true_and, and_true, Option.isSome_some, Option.isSome_none, Option.map_some, Option.map_none, Option.getD_some, Option.getD_none,
  tyD_non, tyD_bl, tyD_int, tyD_str, tyD_tup, tyD_lst, tyD_dct, truD_non, truD_bl, truD_int, truD_tup, truD_lst, truD_dct, asL_non, asD_non, keyD_non, asL_bl, asD_bl, keyD_bl, asL_int, asD_int, keyD_int, asL_str, asD_str, keyD_str, asL_tup, asD_tup, keyD_tup, asL_lst, asD_lst, keyD_lst, asL_dct, asD_dct, keyD_dct, asL_scr, asD_scr, keyD_scr, asL_sup, asD_sup, asL_supD, isLs_sup, tyD_supL, tyD_supD, sup_same, sup_sup, ixN_1_0, ixN_2_0, ixN_2_1, ixN_3_0, ixN_3_1, ixN_3_2, ixN_4_0, ixN_4_1, ixN_4_2, ixN_4_3, ixN_5_0, ixN_5_1, ixN_5_2, ixN_5_3, ixN_5_4, ixN_6_0, ixN_6_1, ixN_6_2, ixN_6_3, ixN_6_4, ixN_6_5, ixN_7_0, ixN_7_1, ixN_7_2, ixN_7_3, ixN_7_4, ixN_7_5, ixN_7_6, ixN_8_0, ixN_8_1, ixN_8_2, ixN_8_3, ixN_8_4, ixN_8_5, ixN_8_6, ixN_8_7, atI_0, atI_1, atI_2, atI_3, atI_4, atI_5, atI_6, atI_7, atI_8, isi_NoneType_bool, isi_NoneType_int, isi_NoneType_str, isi_NoneType_tuple, isi_NoneType_list, isi_NoneType_dict, isi_bool_bool, isi_bool_int, isi_bool_str, isi_bool_tuple, isi_bool_list, isi_bool_dict, isi_int_bool, isi_int_int, isi_int_str, isi_int_tuple, isi_int_list, isi_int_dict, isi_str_bool, isi_str_int, isi_str_str, isi_str_tuple, isi_str_list, isi_str_dict, isi_tuple_bool, isi_tuple_int, isi_tuple_str, isi_tuple_tuple, isi_tuple_list, isi_tuple_dict, isi_list_bool, isi_list_int, isi_list_str, isi_list_tuple, isi_list_list, isi_list_dict, isi_dict_bool, isi_dict_int, isi_dict_str, isi_dict_tuple, isi_dict_list, isi_dict_dict]
  split
  · rename_i hk
    rw [decide_eq_true_eq] at hk
    rw [atI_pos h1 hk]
    exact .of (q _)
  · have e : cutD (ns.map D.int) none (some 1) = (ns.take 1).map D.int := by
      unfold cutD
      have e1 : HT.sIx (ns.map D.int).length 0 none = 0 := rfl
      have e2 : HT.sIx (ns.map D.int).length (ns.map D.int).length (some 1) = min 1 ns.length := by
        rw [List.length_map]
        unfold HT.sIx
        show (if (1 : Int) < 0 then _ else min (1 : Int).toNat ns.length) = _
        rw [if_neg (by decide)]; rfl
      rw [e1, e2, List.drop_zero, ← List.map_take]
      congr 1
      cases ns with
      | nil => rfl
      | cons a r => simp
    rw [e, asInts_map]
    exact ⟨cmulW (.of (by decide) (by decide)) (.of (by omega) (by omega)), by decide, .of (q _)⟩
/-! ### what is a whole number, a pair, a sum -/
mutual
def pd : D → Bool
  | .tup xs => pds xs
  | .lst xs => pds xs
  | .ref _ => false
  | .scr _ => false
  | .ins _ _ => false
  | _ => true
def pds : List D → Bool
  | [] => true
  | d :: ds => pd d && pds ds
end
def wh : D → Bool
  | .int _ => true
  | _ => false
def spWhole : DSp := fun ds S Q => ∃ d, ds = [d] ∧ pd d = true ∧ Q (.bl (wh d)) S
theorem r_is_whole {T : Tb} {ds : List D} {S : Store} {Q : DQ} (h : spWhole ds S Q) : denSs T core_is_whole (DD Q) (start0 N_is_whole.length ds) S := by
  obtain ⟨d, rfl, hd, q⟩ := h
  cases d <;> first | (cases hd; done) | (simp only [core_is_whole, N_is_whole, DD, denSs, denS, den, dens, denO, denT, denI, DV.of, DV.ofB, sSeq, sRet, sRetN, sNext, sIf, sSet, sSetG, sPar, sPar3, sSetIx, sDrop, sFor, sForKeys, sBreak, sCont, dAnd, dOr, dNot, dAndT, dOrT, dNotT, dUn, dOp, dIte, dVar, dC, dTup, dLst, dNil, dCons, dCall, dCut, dPart, dNoPart, dGet1, dGet2, dApp,
  dSeq1, dRange1, dRange2, dEnum, dZip, dLc, dDc, dChain, fIsi, fBlt, fLen, fAbs, fInt1, fMax, fMin, fL1, fTuple, fList, fSorted, fDict, fBin, fCmp, fNeg, fAdd, fSub, fMul, fMod, fDiv, fPow, fInt, fInt0, fLt, fLe, fGt, fGe, fIs, fIsNot, fInD, fIx, fCut, fSeq, fRange1, fRange2, fEnum, fZip, fSetIx, fGet, fApp, fLenSet, fAug, sAug, tOf, tOfB, guardN, gset, gsets, sFrz, frz_dct, frz_lst, fEq_int, fNe_int, fEq_bl, fNe_bl, fEq_nil, fNe_nil, fEq_ints,
  TyC.name, DL.isNon, start0, List.length_cons, List.length_nil, List.map_cons, List.map_nil, List.cons_append, List.nil_append, List.getElem?_cons_zero, List.getElem?_cons_succ, List.getElem?_nil, List.set_cons_zero, List.set_cons_succ, List.set_nil, List.replicate, Nat.reduceSub, Nat.reduceAdd, mkL, mkD, dwipe, Bool.false_eq_true, if_true, if_false, ite_true, ite_false, true_and, and_true, Option.isSome_some, Option.isSome_none, Option.map_some, Option.map_none, Option.getD_some, Option.getD_none,
  tyD_non, tyD_bl, tyD_int, tyD_str, tyD_tup, tyD_lst, tyD_dct, truD_non, truD_bl, truD_int, truD_tup, truD_lst, truD_dct, asL_non, asD_non, keyD_non, asL_bl, asD_bl, keyD_bl, asL_int, asD_int, keyD_int, asL_str, asD_str, keyD_str, asL_tup, asD_tup, keyD_tup, asL_lst, asD_lst, keyD_lst, asL_dct, asD_dct, keyD_dct, asL_scr, asD_scr, keyD_scr, asL_sup, asD_sup, asL_supD, isLs_sup, tyD_supL, tyD_supD, sup_same, sup_sup, ixN_1_0, ixN_2_0, ixN_2_1, ixN_3_0, ixN_3_1, ixN_3_2, ixN_4_0, ixN_4_1, ixN_4_2, ixN_4_3, ixN_5_0, ixN_5_1, ixN_5_2, ixN_5_3, ixN_5_4, ixN_6_0, ixN_6_1, ixN_6_2, ixN_6_3, ixN_6_4, ixN_6_5, ixN_7_0, ixN_7_1, ixN_7_2, ixN_7_3, ixN_7_4, ixN_7_5, ixN_7_6, ixN_8_0, ixN_8_1, ixN_8_2, ixN_8_3, ixN_8_4, ixN_8_5, ixN_8_6, ixN_8_7, atI_0, atI_1, atI_2, atI_3, atI_4, atI_5, atI_6, atI_7, atI_8, isi_NoneType_bool, isi_NoneType_int, isi_NoneType_str, isi_NoneType_tuple, isi_NoneType_list, isi_NoneType_dict, isi_bool_bool, isi_bool_int, isi_bool_str, isi_bool_tuple, isi_bool_list, isi_bool_dict, isi_int_bool, isi_int_int, isi_int_str, isi_int_tuple, isi_int_list, isi_int_dict, isi_str_bool, isi_str_int, isi_str_str, isi_str_tuple, isi_str_list, isi_str_dict, isi_tuple_bool, isi_tuple_int, isi_tuple_str, isi_tuple_tuple, isi_tuple_list, isi_tuple_dict, isi_list_bool, isi_list_int, isi_list_str, isi_list_tuple, isi_list_list, isi_list_dict, isi_dict_bool, isi_dict_int, isi_dict_str, isi_dict_tuple, isi_dict_list, isi_dict_dict, Bool.not_true, Bool.not_false]; exact .of q)
theorem r_int {T : Tb} {ds : List D} {S : Store} {Q : DQ} (h : spWhole ds S Q) : denSs T core__law_int (DD Q) (start0 N__law_int.length ds) S := by
  obtain ⟨d, rfl, hd, q⟩ := h
  cases d <;> first | (cases hd; done) | (simp only [core__law_int, N__law_int, DD, denSs, denS, den, dens, denO, denT, denI, DV.of, DV.ofB, sSeq, sRet, sRetN, sNext, sIf, sSet, sSetG, sPar, sPar3, sSetIx, sDrop, sFor, sForKeys, sBreak, sCont, dAnd, dOr, dNot, dAndT, dOrT, dNotT, dUn, dOp, dIte, dVar, dC, dTup, dLst, dNil, dCons, dCall, dCut, dPart, dNoPart, dGet1, dGet2, dApp,
  dSeq1, dRange1, dRange2, dEnum, dZip, dLc, dDc, dChain, fIsi, fBlt, fLen, fAbs, fInt1, fMax, fMin, fL1, fTuple, fList, fSorted, fDict, fBin, fCmp, fNeg, fAdd, fSub, fMul, fMod, fDiv, fPow, fInt, fInt0, fLt, fLe, fGt, fGe, fIs, fIsNot, fInD, fIx, fCut, fSeq, fRange1, fRange2, fEnum, fZip, fSetIx, fGet, fApp, fLenSet, fAug, sAug, tOf, tOfB, guardN, gset, gsets, sFrz, frz_dct, frz_lst, fEq_int, fNe_int, fEq_bl, fNe_bl, fEq_nil, fNe_nil, fEq_ints,
  TyC.name, DL.isNon, start0, List.length_cons, List.length_nil, List.map_cons, List.map_nil, List.cons_append, List.nil_append, List.getElem?_cons_zero, List.getElem?_cons_succ, List.getElem?_nil, List.set_cons_zero, List.set_cons_succ, List.set_nil, List.replicate, Nat.reduceSub, Nat.reduceAdd, mkL, mkD, dwipe, Bool.false_eq_true, if_true, if_false, ite_true, ite_false, true_and, and_true, Option.isSome_some, Option.isSome_none, Option.map_some, Option.map_none, Option.getD_some, Option.getD_none,
  tyD_non, tyD_bl, tyD_int, tyD_str, tyD_tup, tyD_lst, tyD_dct, truD_non, truD_bl, truD_int, truD_tup, truD_lst, truD_dct, asL_non, asD_non, keyD_non, asL_bl, asD_bl, keyD_bl, asL_int, asD_int, keyD_int, asL_str, asD_str, keyD_str, asL_tup, asD_tup, keyD_tup, asL_lst, asD_lst, keyD_lst, asL_dct, asD_dct, keyD_dct, asL_scr, asD_scr, keyD_scr, asL_sup, asD_sup, asL_supD, isLs_sup, tyD_supL, tyD_supD, sup_same, sup_sup, ixN_1_0, ixN_2_0, ixN_2_1, ixN_3_0, ixN_3_1, ixN_3_2, ixN_4_0, ixN_4_1, ixN_4_2, ixN_4_3, ixN_5_0, ixN_5_1, ixN_5_2, ixN_5_3, ixN_5_4, ixN_6_0, ixN_6_1, ixN_6_2, ixN_6_3, ixN_6_4, ixN_6_5, ixN_7_0, ixN_7_1, ixN_7_2, ixN_7_3, ixN_7_4, ixN_7_5, ixN_7_6, ixN_8_0, ixN_8_1, ixN_8_2, ixN_8_3, ixN_8_4, ixN_8_5, ixN_8_6, ixN_8_7, atI_0, atI_1, atI_2, atI_3, atI_4, atI_5, atI_6, atI_7, atI_8, isi_NoneType_bool, isi_NoneType_int, isi_NoneType_str, isi_NoneType_tuple, isi_NoneType_list, isi_NoneType_dict, isi_bool_bool, isi_bool_int, isi_bool_str, isi_bool_tuple, isi_bool_list, isi_bool_dict, isi_int_bool, isi_int_int, isi_int_str, isi_int_tuple, isi_int_list, isi_int_dict, isi_str_bool, isi_str_int, isi_str_str, isi_str_tuple, isi_str_list, isi_str_dict, isi_tuple_bool, isi_tuple_int, isi_tuple_str, isi_tuple_tuple, isi_tuple_list, isi_tuple_dict, isi_list_bool, isi_list_int, isi_list_str, isi_list_tuple, isi_list_list, isi_list_dict, isi_dict_bool, isi_dict_int, isi_dict_str, isi_dict_tuple, isi_dict_list, isi_dict_dict, Bool.not_true, Bool.not_false]; exact .of q)
def isPair : D → Bool
  | .tup [.int a, .int b] => decide (-1 ≤ a) && decide (b ≠ 0)
  | _ => false
def spPair : DSp := fun ds S Q => ∃ d, ds = [d] ∧ pd d = true ∧ Q (.bl (isPair d)) S
theorem r_is_pair {T : Tb} (h0 : T.fn 0 = some (1, spWhole)) (g0 : T.glb 0 = some (.int (-1))) {ds : List D} {S : Store} {Q : DQ} (h : spPair ds S Q) : denSs T core_is_pair (DD Q) (start0 N_is_pair.length ds) S := by
  obtain ⟨d, rfl, hd0, q⟩ := h
  cases d <;> first | (cases hd0; done) | skip
  case tup xs =>
    have hd : pds xs = true := hd0
    clear hd0
    rcases xs with _ | ⟨x, _ | ⟨y, _ | ⟨z, r⟩⟩⟩
    · simp only [core_is_pair, N_is_pair, DD, denSs, denS, den, dens, denO, denT, denI, DV.of, DV.ofB, sSeq, sRet, sRetN, sNext, sIf, sSet, sSetG, sPar, sPar3, sSetIx, sDrop, sFor, sForKeys, sBreak, sCont, dAnd, dOr, dNot, dAndT, dOrT, dNotT, dUn, dOp, dIte, dVar, dC, dTup, dLst, dNil, dCons, dCall, dCut, dPart, dNoPart, dGet1, dGet2, dApp,
  dSeq1, dRange1, dRange2, dEnum, dZip, dLc, dDc, dChain, fIsi, fBlt, fLen, fAbs, fInt1, fMax, fMin, fL1, fTuple, fList, fSorted, fDict, fBin, fCmp, fNeg, fAdd, fSub, fMul, fMod, fDiv, fPow, fInt, fInt0, fLt, fLe, fGt, fGe, fIs, fIsNot, fInD, fIx, fCut, fSeq, fRange1, fRange2, fEnum, fZip, fSetIx, fGet, fApp, fLenSet, fAug, sAug, tOf, tOfB, guardN, gset, gsets, sFrz, frz_dct, frz_lst, fEq_int, fNe_int, fEq_bl, fNe_bl, fEq_nil, fNe_nil, fEq_ints,
  TyC.name, DL.isNon, start0, List.length_cons, List.length_nil, List.map_cons, List.map_nil, List.cons_append, List.nil_append, List.getElem?_cons_zero, List.getElem?_cons_succ, List.getElem?_nil, List.set_cons_zero, List.set_cons_succ, List.set_nil, List.replicate, Nat.reduceSub, Nat.reduceAdd, mkL, mkD, dwipe, Bool.false_eq_true, if_true, if_false, ite_true, ite_false, true_and, and_true, Option.isSome_some, Option.isSome_none, Option.map_some, Option.map_none, Option.getD_some, Option.getD_none,
  tyD_non, tyD_bl, tyD_int, tyD_str, tyD_tup, tyD_lst, tyD_dct, truD_non, truD_bl, truD_int, truD_tup, truD_lst, truD_dct, asL_non, asD_non, keyD_non, asL_bl, asD_bl, keyD_bl, asL_int, asD_int, keyD_int, asL_str, asD_str, keyD_str, asL_tup, asD_tup, keyD_tup, asL_lst, asD_lst, keyD_lst, asL_dct, asD_dct, keyD_dct, asL_scr, asD_scr, keyD_scr, asL_sup, asD_sup, asL_supD, isLs_sup, tyD_supL, tyD_supD, sup_same, sup_sup, ixN_1_0, ixN_2_0, ixN_2_1, ixN_3_0, ixN_3_1, ixN_3_2, ixN_4_0, ixN_4_1, ixN_4_2, ixN_4_3, ixN_5_0, ixN_5_1, ixN_5_2, ixN_5_3, ixN_5_4, ixN_6_0, ixN_6_1, ixN_6_2, ixN_6_3, ixN_6_4, ixN_6_5, ixN_7_0, ixN_7_1, ixN_7_2, ixN_7_3, ixN_7_4, ixN_7_5, ixN_7_6, ixN_8_0, ixN_8_1, ixN_8_2, ixN_8_3, ixN_8_4, ixN_8_5, ixN_8_6, ixN_8_7, atI_0, atI_1, atI_2, atI_3, atI_4, atI_5, atI_6, atI_7, atI_8, isi_NoneType_bool, isi_NoneType_int, isi_NoneType_str, isi_NoneType_tuple, isi_NoneType_list, isi_NoneType_dict, isi_bool_bool, isi_bool_int, isi_bool_str, isi_bool_tuple, isi_bool_list, isi_bool_dict, isi_int_bool, isi_int_int, isi_int_str, isi_int_tuple, isi_int_list, isi_int_dict, isi_str_bool, isi_str_int, isi_str_str, isi_str_tuple, isi_str_list, isi_str_dict, isi_tuple_bool, isi_tuple_int, isi_tuple_str, isi_tuple_tuple, isi_tuple_list, isi_tuple_dict, isi_list_bool, isi_list_int, isi_list_str, isi_list_tuple, isi_list_list, isi_list_dict, isi_dict_bool, isi_dict_int, isi_dict_str, isi_dict_tuple, isi_dict_list, isi_dict_dict, h0, g0, Bool.not_true]
      exact .of q
    · simp only [core_is_pair, N_is_pair, DD, denSs, denS, den, dens, denO, denT, denI, DV.of, DV.ofB, sSeq, sRet, sRetN, sNext, sIf, sSet, sSetG, sPar, sPar3, sSetIx, sDrop, sFor, sForKeys, sBreak, sCont, dAnd, dOr, dNot, dAndT, dOrT, dNotT, dUn, dOp, dIte, dVar, dC, dTup, dLst, dNil, dCons, dCall, dCut, dPart, dNoPart, dGet1, dGet2, dApp,
  dSeq1, dRange1, dRange2, dEnum, dZip, dLc, dDc, dChain, fIsi, fBlt, fLen, fAbs, fInt1, fMax, fMin, fL1, fTuple, fList, fSorted, fDict, fBin, fCmp, fNeg, fAdd, fSub, fMul, fMod, fDiv, fPow, fInt, fInt0, fLt, fLe, fGt, fGe, fIs, fIsNot, fInD, fIx, fCut, fSeq, fRange1, fRange2, fEnum, fZip, fSetIx, fGet, fApp, fLenSet, fAug, sAug, tOf, tOfB, guardN, gset, gsets, sFrz, frz_dct, frz_lst, fEq_int, fNe_int, fEq_bl, fNe_bl, fEq_nil, fNe_nil, fEq_ints,
  TyC.name, DL.isNon, start0, List.length_cons, List.length_nil, List.map_cons, List.map_nil, List.cons_append, List.nil_append, List.getElem?_cons_zero, List.getElem?_cons_succ, List.getElem?_nil, List.set_cons_zero, List.set_cons_succ, List.set_nil, List.replicate, Nat.reduceSub, Nat.reduceAdd, mkL, mkD, dwipe, Bool.false_eq_true, if_true, if_false, ite_true, ite_false, true_and, and_true, Option.isSome_some, Option.isSome_none, Option.map_some, Option.map_none, Option.getD_some, Option.getD_none,
  tyD_non, tyD_bl, tyD_int, tyD_str, tyD_tup, tyD_lst, tyD_dct, truD_non, truD_bl, truD_int, truD_tup, truD_lst, truD_dct, asL_non, asD_non, keyD_non, asL_bl, asD_bl, keyD_bl, asL_int, asD_int, keyD_int, asL_str, asD_str, keyD_str, asL_tup, asD_tup, keyD_tup, asL_lst, asD_lst, keyD_lst, asL_dct, asD_dct, keyD_dct, asL_scr, asD_scr, keyD_scr, asL_sup, asD_sup, asL_supD, isLs_sup, tyD_supL, tyD_supD, sup_same, sup_sup, ixN_1_0, ixN_2_0, ixN_2_1, ixN_3_0, ixN_3_1, ixN_3_2, ixN_4_0, ixN_4_1, ixN_4_2, ixN_4_3, ixN_5_0, ixN_5_1, ixN_5_2, ixN_5_3, ixN_5_4, ixN_6_0, ixN_6_1, ixN_6_2, ixN_6_3, ixN_6_4, ixN_6_5, ixN_7_0, ixN_7_1, ixN_7_2, ixN_7_3, ixN_7_4, ixN_7_5, ixN_7_6, ixN_8_0, ixN_8_1, ixN_8_2, ixN_8_3, ixN_8_4, ixN_8_5, ixN_8_6, ixN_8_7, atI_0, atI_1, atI_2, atI_3, atI_4, atI_5, atI_6, atI_7, atI_8, isi_NoneType_bool, isi_NoneType_int, isi_NoneType_str, isi_NoneType_tuple, isi_NoneType_list, isi_NoneType_dict, isi_bool_bool, isi_bool_int, isi_bool_str, isi_bool_tuple, isi_bool_list, isi_bool_dict, isi_int_bool, isi_int_int, isi_int_str, isi_int_tuple, isi_int_list, isi_int_dict, isi_str_bool, isi_str_int, isi_str_str, isi_str_tuple, isi_str_list, isi_str_dict, isi_tuple_bool, isi_tuple_int, isi_tuple_str, isi_tuple_tuple, isi_tuple_list, isi_tuple_dict, isi_list_bool, isi_list_int, isi_list_str, isi_list_tuple, isi_list_list, isi_list_dict, isi_dict_bool, isi_dict_int, isi_dict_str, isi_dict_tuple, isi_dict_list, isi_dict_dict, h0, g0, Bool.not_true]
      have e : isPair (.tup [x]) = false := by cases x <;> rfl
      rw [e] at q
      exact .of q
    · simp only [core_is_pair, N_is_pair, DD, denSs, denS, den, dens, denO, denT, denI, DV.of, DV.ofB, sSeq, sRet, sRetN, sNext, sIf, sSet, sSetG, sPar, sPar3, sSetIx, sDrop, sFor, sForKeys, sBreak, sCont, dAnd, dOr, dNot, dAndT, dOrT, dNotT, dUn, dOp, dIte, dVar, dC, dTup, dLst, dNil, dCons, dCall, dCut, dPart, dNoPart, dGet1, dGet2, dApp,
  dSeq1, dRange1, dRange2, dEnum, dZip, dLc, dDc, dChain, fIsi, fBlt, fLen, fAbs, fInt1, fMax, fMin, fL1, fTuple, fList, fSorted, fDict, fBin, fCmp, fNeg, fAdd, fSub, fMul, fMod, fDiv, fPow, fInt, fInt0, fLt, fLe, fGt, fGe, fIs, fIsNot, fInD, fIx, fCut, fSeq, fRange1, fRange2, fEnum, fZip, fSetIx, fGet, fApp, fLenSet, fAug, sAug, tOf, tOfB, guardN, gset, gsets, sFrz, frz_dct, frz_lst, fEq_int, fNe_int, fEq_bl, fNe_bl, fEq_nil, fNe_nil, fEq_ints,
  TyC.name, DL.isNon, start0, List.length_cons, List.length_nil, List.map_cons, List.map_nil, List.cons_append, List.nil_append, List.getElem?_cons_zero, List.getElem?_cons_succ, List.getElem?_nil, List.set_cons_zero, List.set_cons_succ, List.set_nil, List.replicate, Nat.reduceSub, Nat.reduceAdd, mkL, mkD, dwipe, Bool.false_eq_true, if_true, if_false, ite_true, ite_false, true_and, and_true, Option.isSome_some, Option.isSome_none, Option.map_some, Option.map_none, Option.getD_some, Option.getD_none,
  tyD_non, tyD_bl, tyD_int, tyD_str, tyD_tup, tyD_lst, tyD_dct, truD_non, truD_bl, truD_int, truD_tup, truD_lst, truD_dct, asL_non, asD_non, keyD_non, asL_bl, asD_bl, keyD_bl, asL_int, asD_int, keyD_int, asL_str, asD_str, keyD_str, asL_tup, asD_tup, keyD_tup, asL_lst, asD_lst, keyD_lst, asL_dct, asD_dct, keyD_dct, asL_scr, asD_scr, keyD_scr, asL_sup, asD_sup, asL_supD, isLs_sup, tyD_supL, tyD_supD, sup_same, sup_sup, ixN_1_0, ixN_2_0, ixN_2_1, ixN_3_0, ixN_3_1, ixN_3_2, ixN_4_0, ixN_4_1, ixN_4_2, ixN_4_3, ixN_5_0, ixN_5_1, ixN_5_2, ixN_5_3, ixN_5_4, ixN_6_0, ixN_6_1, ixN_6_2, ixN_6_3, ixN_6_4, ixN_6_5, ixN_7_0, ixN_7_1, ixN_7_2, ixN_7_3, ixN_7_4, ixN_7_5, ixN_7_6, ixN_8_0, ixN_8_1, ixN_8_2, ixN_8_3, ixN_8_4, ixN_8_5, ixN_8_6, ixN_8_7, atI_0, atI_1, atI_2, atI_3, atI_4, atI_5, atI_6, atI_7, atI_8, isi_NoneType_bool, isi_NoneType_int, isi_NoneType_str, isi_NoneType_tuple, isi_NoneType_list, isi_NoneType_dict, isi_bool_bool, isi_bool_int, isi_bool_str, isi_bool_tuple, isi_bool_list, isi_bool_dict, isi_int_bool, isi_int_int, isi_int_str, isi_int_tuple, isi_int_list, isi_int_dict, isi_str_bool, isi_str_int, isi_str_str, isi_str_tuple, isi_str_list, isi_str_dict, isi_tuple_bool, isi_tuple_int, isi_tuple_str, isi_tuple_tuple, isi_tuple_list, isi_tuple_dict, isi_list_bool, isi_list_int, isi_list_str, isi_list_tuple, isi_list_list, isi_list_dict, isi_dict_bool, isi_dict_int, isi_dict_str, isi_dict_tuple, isi_dict_list, isi_dict_dict, h0, g0, Bool.not_true]
      rw [if_neg (by decide)]
      have hx : pd x = true ∧ pd y = true := by simpa [pds] using hd
      refine ⟨_, rfl, hx.1, ?_⟩
      cases x <;> first | (cases hx.1; done) | (simp only [wh, denSs, denS, den, dens, denO, denT, denI, DV.of, DV.ofB, sSeq, sRet, sRetN, sNext, sIf, sSet, sSetG, sPar, sPar3, sSetIx, sDrop, sFor, sForKeys, sBreak, sCont, dAnd, dOr, dNot, dAndT, dOrT, dNotT, dUn, dOp, dIte, dVar, dC, dTup, dLst, dNil, dCons, dCall, dCut, dPart, dNoPart, dGet1, dGet2, dApp,
  dSeq1, dRange1, dRange2, dEnum, dZip, dLc, dDc, dChain, fIsi, fBlt, fLen, fAbs, fInt1, fMax, fMin, fL1, fTuple, fList, fSorted, fDict, fBin, fCmp, fNeg, fAdd, fSub, fMul, fMod, fDiv, fPow, fInt, fInt0, fLt, fLe, fGt, fGe, fIs, fIsNot, fInD, fIx, fCut, fSeq, fRange1, fRange2, fEnum, fZip, fSetIx, fGet, fApp, fLenSet, fAug, sAug, tOf, tOfB, guardN, gset, gsets, sFrz, frz_dct, frz_lst, fEq_int, fNe_int, fEq_bl, fNe_bl, fEq_nil, fNe_nil, fEq_ints,
  TyC.name, DL.isNon, start0, List.length_cons, List.length_nil, List.map_cons, List.map_nil, List.cons_append, List.nil_append, List.getElem?_cons_zero, List.getElem?_cons_succ, List.getElem?_nil, List.set_cons_zero, List.set_cons_succ, List.set_nil, List.replicate, Nat.reduceSub, Nat.reduceAdd, mkL, mkD, dwipe, Bool.false_eq_true, if_true, if_false, ite_true, ite_false, true_and, and_true, Option.isSome_some, Option.isSome_none, Option.map_some, Option.map_none, Option.getD_some, Option.getD_none,
  tyD_non, tyD_bl, tyD_int, tyD_str, tyD_tup, tyD_lst, tyD_dct, truD_non, truD_bl, truD_int, truD_tup, truD_lst, truD_dct, asL_non, asD_non, keyD_non, asL_bl, asD_bl, keyD_bl, asL_int, asD_int, keyD_int, asL_str, asD_str, keyD_str, asL_tup, asD_tup, keyD_tup, asL_lst, asD_lst, keyD_lst, asL_dct, asD_dct, keyD_dct, asL_scr, asD_scr, keyD_scr, asL_sup, asD_sup, asL_supD, isLs_sup, tyD_supL, tyD_supD, sup_same, sup_sup, ixN_1_0, ixN_2_0, ixN_2_1, ixN_3_0, ixN_3_1, ixN_3_2, ixN_4_0, ixN_4_1, ixN_4_2, ixN_4_3, ixN_5_0, ixN_5_1, ixN_5_2, ixN_5_3, ixN_5_4, ixN_6_0, ixN_6_1, ixN_6_2, ixN_6_3, ixN_6_4, ixN_6_5, ixN_7_0, ixN_7_1, ixN_7_2, ixN_7_3, ixN_7_4, ixN_7_5, ixN_7_6, ixN_8_0, ixN_8_1, ixN_8_2, ixN_8_3, ixN_8_4, ixN_8_5, ixN_8_6, ixN_8_7, atI_0, atI_1, atI_2, atI_3, atI_4, atI_5, atI_6, atI_7, atI_8, isi_NoneType_bool, isi_NoneType_int, isi_NoneType_str, isi_NoneType_tuple, isi_NoneType_list, isi_NoneType_dict, isi_bool_bool, isi_bool_int, isi_bool_str, isi_bool_tuple, isi_bool_list, isi_bool_dict, isi_int_bool, isi_int_int, isi_int_str, isi_int_tuple, isi_int_list, isi_int_dict, isi_str_bool, isi_str_int, isi_str_str, isi_str_tuple, isi_str_list, isi_str_dict, isi_tuple_bool, isi_tuple_int, isi_tuple_str, isi_tuple_tuple, isi_tuple_list, isi_tuple_dict, isi_list_bool, isi_list_int, isi_list_str, isi_list_tuple, isi_list_list, isi_list_dict, isi_dict_bool, isi_dict_int, isi_dict_str, isi_dict_tuple, isi_dict_list, isi_dict_dict, Bool.not_false]; exact .of q) | skip
      rename_i a
      simp only [wh, denSs, denS, den, dens, denO, denT, denI, DV.of, DV.ofB, sSeq, sRet, sRetN, sNext, sIf, sSet, sSetG, sPar, sPar3, sSetIx, sDrop, sFor, sForKeys, sBreak, sCont, dAnd, dOr, dNot, dAndT, dOrT, dNotT, dUn, dOp, dIte, dVar, dC, dTup, dLst, dNil, dCons, dCall, dCut, dPart, dNoPart, dGet1, dGet2, dApp,
  dSeq1, dRange1, dRange2, dEnum, dZip, dLc, dDc, dChain, fIsi, fBlt, fLen, fAbs, fInt1, fMax, fMin, fL1, fTuple, fList, fSorted, fDict, fBin, fCmp, fNeg, fAdd, fSub, fMul, fMod, fDiv, fPow, fInt, fInt0, fLt, fLe, fGt, fGe, fIs, fIsNot, fInD, fIx, fCut, fSeq, fRange1, fRange2, fEnum, fZip, fSetIx, fGet, fApp, fLenSet, fAug, sAug, tOf, tOfB, guardN, gset, gsets, sFrz, frz_dct, frz_lst, fEq_int, fNe_int, fEq_bl, fNe_bl, fEq_nil, fNe_nil, fEq_ints,
  TyC.name, DL.isNon, start0, List.length_cons, List.length_nil, List.map_cons, List.map_nil, List.cons_append, List.nil_append, List.getElem?_cons_zero, List.getElem?_cons_succ, List.getElem?_nil, List.set_cons_zero, List.set_cons_succ, List.set_nil, List.replicate, Nat.reduceSub, Nat.reduceAdd, mkL, mkD, dwipe, Bool.false_eq_true, if_true, if_false, ite_true, ite_false, true_and, and_true, Option.isSome_some, Option.isSome_none, Option.map_some, Option.map_none, Option.getD_some, Option.getD_none,
  tyD_non, tyD_bl, tyD_int, tyD_str, tyD_tup, tyD_lst, tyD_dct, truD_non, truD_bl, truD_int, truD_tup, truD_lst, truD_dct, asL_non, asD_non, keyD_non, asL_bl, asD_bl, keyD_bl, asL_int, asD_int, keyD_int, asL_str, asD_str, keyD_str, asL_tup, asD_tup, keyD_tup, asL_lst, asD_lst, keyD_lst, asL_dct, asD_dct, keyD_dct, asL_scr, asD_scr, keyD_scr, asL_sup, asD_sup, asL_supD, isLs_sup, tyD_supL, tyD_supD, sup_same, sup_sup, ixN_1_0, ixN_2_0, ixN_2_1, ixN_3_0, ixN_3_1, ixN_3_2, ixN_4_0, ixN_4_1, ixN_4_2, ixN_4_3, ixN_5_0, ixN_5_1, ixN_5_2, ixN_5_3, ixN_5_4, ixN_6_0, ixN_6_1, ixN_6_2, ixN_6_3, ixN_6_4, ixN_6_5, ixN_7_0, ixN_7_1, ixN_7_2, ixN_7_3, ixN_7_4, ixN_7_5, ixN_7_6, ixN_8_0, ixN_8_1, ixN_8_2, ixN_8_3, ixN_8_4, ixN_8_5, ixN_8_6, ixN_8_7, atI_0, atI_1, atI_2, atI_3, atI_4, atI_5, atI_6, atI_7, atI_8, isi_NoneType_bool, isi_NoneType_int, isi_NoneType_str, isi_NoneType_tuple, isi_NoneType_list, isi_NoneType_dict, isi_bool_bool, isi_bool_int, isi_bool_str, isi_bool_tuple, isi_bool_list, isi_bool_dict, isi_int_bool, isi_int_int, isi_int_str, isi_int_tuple, isi_int_list, isi_int_dict, isi_str_bool, isi_str_int, isi_str_str, isi_str_tuple, isi_str_list, isi_str_dict, isi_tuple_bool, isi_tuple_int, isi_tuple_str, isi_tuple_tuple, isi_tuple_list, isi_tuple_dict, isi_list_bool, isi_list_int, isi_list_str, isi_list_tuple, isi_list_list, isi_list_dict, isi_dict_bool, isi_dict_int, isi_dict_str, isi_dict_tuple, isi_dict_list, isi_dict_dict, Bool.not_true]
      refine ⟨_, rfl, hx.2, ?_⟩
      cases y <;> first | (cases hx.2; done) | (simp only [wh, denSs, denS, den, dens, denO, denT, denI, DV.of, DV.ofB, sSeq, sRet, sRetN, sNext, sIf, sSet, sSetG, sPar, sPar3, sSetIx, sDrop, sFor, sForKeys, sBreak, sCont, dAnd, dOr, dNot, dAndT, dOrT, dNotT, dUn, dOp, dIte, dVar, dC, dTup, dLst, dNil, dCons, dCall, dCut, dPart, dNoPart, dGet1, dGet2, dApp,
  dSeq1, dRange1, dRange2, dEnum, dZip, dLc, dDc, dChain, fIsi, fBlt, fLen, fAbs, fInt1, fMax, fMin, fL1, fTuple, fList, fSorted, fDict, fBin, fCmp, fNeg, fAdd, fSub, fMul, fMod, fDiv, fPow, fInt, fInt0, fLt, fLe, fGt, fGe, fIs, fIsNot, fInD, fIx, fCut, fSeq, fRange1, fRange2, fEnum, fZip, fSetIx, fGet, fApp, fLenSet, fAug, sAug, tOf, tOfB, guardN, gset, gsets, sFrz, frz_dct, frz_lst, fEq_int, fNe_int, fEq_bl, fNe_bl, fEq_nil, fNe_nil, fEq_ints,
  TyC.name, DL.isNon, start0, List.length_cons, List.length_nil, List.map_cons, List.map_nil, List.cons_append, List.nil_append, List.getElem?_cons_zero, List.getElem?_cons_succ, List.getElem?_nil, List.set_cons_zero, List.set_cons_succ, List.set_nil, List.replicate, Nat.reduceSub, Nat.reduceAdd, mkL, mkD, dwipe, Bool.false_eq_true, if_true, if_false, ite_true, ite_false, true_and, and_true, Option.isSome_some, Option.isSome_none, Option.map_some, Option.map_none, Option.getD_some, Option.getD_none,
  tyD_non, tyD_bl, tyD_int, tyD_str, tyD_tup, tyD_lst, tyD_dct, truD_non, truD_bl, truD_int, truD_tup, truD_lst, truD_dct, asL_non, asD_non, keyD_non, asL_bl, asD_bl, keyD_bl, asL_int, asD_int, keyD_int, asL_str, asD_str, keyD_str, asL_tup, asD_tup, keyD_tup, asL_lst, asD_lst, keyD_lst, asL_dct, asD_dct, keyD_dct, asL_scr, asD_scr, keyD_scr, asL_sup, asD_sup, asL_supD, isLs_sup, tyD_supL, tyD_supD, sup_same, sup_sup, ixN_1_0, ixN_2_0, ixN_2_1, ixN_3_0, ixN_3_1, ixN_3_2, ixN_4_0, ixN_4_1, ixN_4_2, ixN_4_3, ixN_5_0, ixN_5_1, ixN_5_2, ixN_5_3, ixN_5_4, ixN_6_0, ixN_6_1, ixN_6_2, ixN_6_3, ixN_6_4, ixN_6_5, ixN_7_0, ixN_7_1, ixN_7_2, ixN_7_3, ixN_7_4, ixN_7_5, ixN_7_6, ixN_8_0, ixN_8_1, ixN_8_2, ixN_8_3, ixN_8_4, ixN_8_5, ixN_8_6, ixN_8_7, atI_0, atI_1, atI_2, atI_3, atI_4, atI_5, atI_6, atI_7, atI_8, isi_NoneType_bool, isi_NoneType_int, isi_NoneType_str, isi_NoneType_tuple, isi_NoneType_list, isi_NoneType_dict, isi_bool_bool, isi_bool_int, isi_bool_str, isi_bool_tuple, isi_bool_list, isi_bool_dict, isi_int_bool, isi_int_int, isi_int_str, isi_int_tuple, isi_int_list, isi_int_dict, isi_str_bool, isi_str_int, isi_str_str, isi_str_tuple, isi_str_list, isi_str_dict, isi_tuple_bool, isi_tuple_int, isi_tuple_str, isi_tuple_tuple, isi_tuple_list, isi_tuple_dict, isi_list_bool, isi_list_int, isi_list_str, isi_list_tuple, isi_list_list, isi_list_dict, isi_dict_bool, isi_dict_int, isi_dict_str, isi_dict_tuple, isi_dict_list, isi_dict_dict, Bool.not_false]; exact .of q) | skip
      rename_i b
      simp only [wh, denSs, denS, den, dens, denO, denT, denI, DV.of, DV.ofB, sSeq, sRet, sRetN, sNext, sIf, sSet, sSetG, sPar, sPar3, sSetIx, sDrop, sFor, sForKeys, sBreak, sCont, dAnd, dOr, dNot, dAndT, dOrT, dNotT, dUn, dOp, dIte, dVar, dC, dTup, dLst, dNil, dCons, dCall, dCut, dPart, dNoPart, dGet1, dGet2, dApp,
  dSeq1, dRange1, dRange2, dEnum, dZip, dLc, dDc, dChain, fIsi, fBlt, fLen, fAbs, fInt1, fMax, fMin, fL1, fTuple, fList, fSorted, fDict, fBin, fCmp, fNeg, fAdd, fSub, fMul, fMod, fDiv, fPow, fInt, fInt0, fLt, fLe, fGt, fGe, fIs, fIsNot, fInD, fIx, fCut, fSeq, fRange1, fRange2, fEnum, fZip, fSetIx, fGet, fApp, fLenSet, fAug, sAug, tOf, tOfB, guardN, gset, gsets, sFrz, frz_dct, frz_lst, fEq_int, fNe_int, fEq_bl, fNe_bl, fEq_nil, fNe_nil, fEq_ints,
  TyC.name, DL.isNon, start0, List.length_cons, List.length_nil, List.map_cons, List.map_nil, List.cons_append, List.nil_append, List.getElem?_cons_zero, List.getElem?_cons_succ, List.getElem?_nil, List.set_cons_zero, List.set_cons_succ, List.set_nil, List.replicate, Nat.reduceSub, Nat.reduceAdd, mkL, mkD, dwipe, Bool.false_eq_true, if_true, if_false, ite_true, ite_false, true_and, and_true, Option.isSome_some, Option.isSome_none, Option.map_some, Option.map_none, Option.getD_some, Option.getD_none,
  tyD_non, tyD_bl, tyD_int, tyD_str, tyD_tup, tyD_lst, tyD_dct, truD_non, truD_bl, truD_int, truD_tup, truD_lst, truD_dct, asL_non, asD_non, keyD_non, asL_bl, asD_bl, keyD_bl, asL_int, asD_int, keyD_int, asL_str, asD_str, keyD_str, asL_tup, asD_tup, keyD_tup, asL_lst, asD_lst, keyD_lst, asL_dct, asD_dct, keyD_dct, asL_scr, asD_scr, keyD_scr, asL_sup, asD_sup, asL_supD, isLs_sup, tyD_supL, tyD_supD, sup_same, sup_sup, ixN_1_0, ixN_2_0, ixN_2_1, ixN_3_0, ixN_3_1, ixN_3_2, ixN_4_0, ixN_4_1, ixN_4_2, ixN_4_3, ixN_5_0, ixN_5_1, ixN_5_2, ixN_5_3, ixN_5_4, ixN_6_0, ixN_6_1, ixN_6_2, ixN_6_3, ixN_6_4, ixN_6_5, ixN_7_0, ixN_7_1, ixN_7_2, ixN_7_3, ixN_7_4, ixN_7_5, ixN_7_6, ixN_8_0, ixN_8_1, ixN_8_2, ixN_8_3, ixN_8_4, ixN_8_5, ixN_8_6, ixN_8_7, atI_0, atI_1, atI_2, atI_3, atI_4, atI_5, atI_6, atI_7, atI_8, isi_NoneType_bool, isi_NoneType_int, isi_NoneType_str, isi_NoneType_tuple, isi_NoneType_list, isi_NoneType_dict, isi_bool_bool, isi_bool_int, isi_bool_str, isi_bool_tuple, isi_bool_list, isi_bool_dict, isi_int_bool, isi_int_int, isi_int_str, isi_int_tuple, isi_int_list, isi_int_dict, isi_str_bool, isi_str_int, isi_str_str, isi_str_tuple, isi_str_list, isi_str_dict, isi_tuple_bool, isi_tuple_int, isi_tuple_str, isi_tuple_tuple, isi_tuple_list, isi_tuple_dict, isi_list_bool, isi_list_int, isi_list_str, isi_list_tuple, isi_list_list, isi_list_dict, isi_dict_bool, isi_dict_int, isi_dict_str, isi_dict_tuple, isi_dict_list, isi_dict_dict, Bool.not_true]
      have e : isPair (.tup [.int a, .int b]) = (decide (-1 ≤ a) && decide (b ≠ 0)) := rfl
      rw [e] at q
      split
      · rename_i h; rw [h] at q; simp only [Bool.true_and, decide_not] at q; exact .of q
      · rename_i h; rw [Bool.not_eq_true] at h; rw [h] at q; exact .of q
    · simp only [core_is_pair, N_is_pair, DD, denSs, denS, den, dens, denO, denT, denI, DV.of, DV.ofB, sSeq, sRet, sRetN, sNext, sIf, sSet, sSetG, sPar, sPar3, sSetIx, sDrop, sFor, sForKeys, sBreak, sCont, dAnd, dOr, dNot, dAndT, dOrT, dNotT, dUn, dOp, dIte, dVar, dC, dTup, dLst, dNil, dCons, dCall, dCut, dPart, dNoPart, dGet1, dGet2, dApp,
  dSeq1, dRange1, dRange2, dEnum, dZip, dLc, dDc, dChain, fIsi, fBlt, fLen, fAbs, fInt1, fMax, fMin, fL1, fTuple, fList, fSorted, fDict, fBin, fCmp, fNeg, fAdd, fSub, fMul, fMod, fDiv, fPow, fInt, fInt0, fLt, fLe, fGt, fGe, fIs, fIsNot, fInD, fIx, fCut, fSeq, fRange1, fRange2, fEnum, fZip, fSetIx, fGet, fApp, fLenSet, fAug, sAug, tOf, tOfB, guardN, gset, gsets, sFrz, frz_dct, frz_lst, fEq_int, fNe_int, fEq_bl, fNe_bl, fEq_nil, fNe_nil, fEq_ints,
  TyC.name, DL.isNon, start0, List.length_cons, List.length_nil, List.map_cons, List.map_nil, List.cons_append, List.nil_append, List.getElem?_cons_zero, List.getElem?_cons_succ, List.getElem?_nil, List.set_cons_zero, List.set_cons_succ, List.set_nil, List.replicate, Nat.reduceSub, Nat.reduceAdd, mkL, mkD, dwipe, Bool.false_eq_true, if_true, if_false, ite_true, ite_false, true_and, and_true, Option.isSome_some, Option.isSome_none, Option.map_some, Option.map_none, Option.getD_some, Option.getD_none,
  tyD_non, tyD_bl, tyD_int, tyD_str, tyD_tup, tyD_lst, tyD_dct, truD_non, truD_bl, truD_int, truD_tup, truD_lst, truD_dct, asL_non, asD_non, keyD_non, asL_bl, asD_bl, keyD_bl, asL_int, asD_int, keyD_int, asL_str, asD_str, keyD_str, asL_tup, asD_tup, keyD_tup, asL_lst, asD_lst, keyD_lst, asL_dct, asD_dct, keyD_dct, asL_scr, asD_scr, keyD_scr, asL_sup, asD_sup, asL_supD, isLs_sup, tyD_supL, tyD_supD, sup_same, sup_sup, ixN_1_0, ixN_2_0, ixN_2_1, ixN_3_0, ixN_3_1, ixN_3_2, ixN_4_0, ixN_4_1, ixN_4_2, ixN_4_3, ixN_5_0, ixN_5_1, ixN_5_2, ixN_5_3, ixN_5_4, ixN_6_0, ixN_6_1, ixN_6_2, ixN_6_3, ixN_6_4, ixN_6_5, ixN_7_0, ixN_7_1, ixN_7_2, ixN_7_3, ixN_7_4, ixN_7_5, ixN_7_6, ixN_8_0, ixN_8_1, ixN_8_2, ixN_8_3, ixN_8_4, ixN_8_5, ixN_8_6, ixN_8_7, atI_0, atI_1, atI_2, atI_3, atI_4, atI_5, atI_6, atI_7, atI_8, isi_NoneType_bool, isi_NoneType_int, isi_NoneType_str, isi_NoneType_tuple, isi_NoneType_list, isi_NoneType_dict, isi_bool_bool, isi_bool_int, isi_bool_str, isi_bool_tuple, isi_bool_list, isi_bool_dict, isi_int_bool, isi_int_int, isi_int_str, isi_int_tuple, isi_int_list, isi_int_dict, isi_str_bool, isi_str_int, isi_str_str, isi_str_tuple, isi_str_list, isi_str_dict, isi_tuple_bool, isi_tuple_int, isi_tuple_str, isi_tuple_tuple, isi_tuple_list, isi_tuple_dict, isi_list_bool, isi_list_int, isi_list_str, isi_list_tuple, isi_list_list, isi_list_dict, isi_dict_bool, isi_dict_int, isi_dict_str, isi_dict_tuple, isi_dict_list, isi_dict_dict, h0, g0, Bool.not_true]
      have e : isPair (.tup (x :: y :: z :: r)) = false := by cases x <;> cases y <;> rfl
      rw [e] at q
      rw [if_pos (by rw [decide_eq_false (by omega)]; rfl)]
      exact .of q
  all_goals (simp only [core_is_pair, N_is_pair, DD, denSs, denS, den, dens, denO, denT, denI, DV.of, DV.ofB, sSeq, sRet, sRetN, sNext, sIf, sSet, sSetG, sPar, sPar3, sSetIx, sDrop, sFor, sForKeys, sBreak, sCont, dAnd, dOr, dNot, dAndT, dOrT, dNotT, dUn, dOp, dIte, dVar, dC, dTup, dLst, dNil, dCons, dCall, dCut, dPart, dNoPart, dGet1, dGet2, dApp,
  dSeq1, dRange1, dRange2, dEnum, dZip, dLc, dDc, dChain, fIsi, fBlt, fLen, fAbs, fInt1, fMax, fMin, fL1, fTuple, fList, fSorted, fDict, fBin, fCmp, fNeg, fAdd, fSub, fMul, fMod, fDiv, fPow, fInt, fInt0, fLt, fLe, fGt, fGe, fIs, fIsNot, fInD, fIx, fCut, fSeq, fRange1, fRange2, fEnum, fZip, fSetIx, fGet, fApp, fLenSet, fAug, sAug, tOf, tOfB, guardN, gset, gsets, sFrz, frz_dct, frz_lst, fEq_int, fNe_int, fEq_bl, fNe_bl, fEq_nil, fNe_nil, fEq_ints,
  TyC.name, DL.isNon, start0, List.length_cons, List.length_nil, List.map_cons, List.map_nil, List.cons_append, List.nil_append, List.getElem?_cons_zero, List.getElem?_cons_succ, List.getElem?_nil, List.set_cons_zero, List.set_cons_succ, List.set_nil, List.replicate, Nat.reduceSub, Nat.reduceAdd, mkL, mkD, dwipe, Bool.false_eq_true, if_true, if_false, ite_true, ite_false, true_and, and_true, Option.isSome_some, Option.isSome_none, Option.map_some, Option.map_none, Option.getD_some, Option.getD_none,
  tyD_non, tyD_bl, tyD_int, tyD_str, tyD_tup, tyD_lst, tyD_dct, truD_non, truD_bl, truD_int, truD_tup, truD_lst, truD_dct, asL_non, asD_non, keyD_non, asL_bl, asD_bl, keyD_bl, asL_int, asD_int, keyD_int, asL_str, asD_str, keyD_str, asL_tup, asD_tup, keyD_tup, asL_lst, asD_lst, keyD_lst, asL_dct, asD_dct, keyD_dct, asL_scr, asD_scr, keyD_scr, asL_sup, asD_sup, asL_supD, isLs_sup, tyD_supL, tyD_supD, sup_same, sup_sup, ixN_1_0, ixN_2_0, ixN_2_1, ixN_3_0, ixN_3_1, ixN_3_2, ixN_4_0, ixN_4_1, ixN_4_2, ixN_4_3, ixN_5_0, ixN_5_1, ixN_5_2, ixN_5_3, ixN_5_4, ixN_6_0, ixN_6_1, ixN_6_2, ixN_6_3, ixN_6_4, ixN_6_5, ixN_7_0, ixN_7_1, ixN_7_2, ixN_7_3, ixN_7_4, ixN_7_5, ixN_7_6, ixN_8_0, ixN_8_1, ixN_8_2, ixN_8_3, ixN_8_4, ixN_8_5, ixN_8_6, ixN_8_7, atI_0, atI_1, atI_2, atI_3, atI_4, atI_5, atI_6, atI_7, atI_8, isi_NoneType_bool, isi_NoneType_int, isi_NoneType_str, isi_NoneType_tuple, isi_NoneType_list, isi_NoneType_dict, isi_bool_bool, isi_bool_int, isi_bool_str, isi_bool_tuple, isi_bool_list, isi_bool_dict, isi_int_bool, isi_int_int, isi_int_str, isi_int_tuple, isi_int_list, isi_int_dict, isi_str_bool, isi_str_int, isi_str_str, isi_str_tuple, isi_str_list, isi_str_dict, isi_tuple_bool, isi_tuple_int, isi_tuple_str, isi_tuple_tuple, isi_tuple_list, isi_tuple_dict, isi_list_bool, isi_list_int, isi_list_str, isi_list_tuple, isi_list_list, isi_list_dict, isi_dict_bool, isi_dict_int, isi_dict_str, isi_dict_tuple, isi_dict_list, isi_dict_dict, h0, g0]; exact .of q)
/-! ### sums -/
abbrev P2 := Int × Int
def pD (p : P2) : D := .tup [.int p.1, .int p.2]
def asP : D → Option P2
  | .tup [.int a, .int b] => if -1 ≤ a ∧ b ≠ 0 then some (a, b) else none
  | _ => none
theorem asP_is {d : D} : isPair d = (asP d).isSome := by
  unfold isPair asP
  split
  · split
    · rename_i h; simp [h.1, h.2]
    · rename_i h
      simp only [Option.isSome_none]
      by_cases h1 : -1 ≤ ‹Int› <;> simp_all
  · rfl
theorem asP_eq {d : D} {p : P2} (h : asP d = some p) : d = pD p ∧ -1 ≤ p.1 ∧ p.2 ≠ 0 := by
  unfold asP at h
  split at h
  · split at h
    · rename_i h1; cases h; exact ⟨rfl, h1.1, h1.2⟩
    · cases h
  · cases h
def asPs : List D → Option (List P2)
  | [] => some []
  | d :: ds => match asP d, asPs ds with
    | some p, some ps => some (p :: ps)
    | _, _ => none
theorem asPs_eq : ∀ {ds : List D} {ps : List P2}, asPs ds = some ps → ds = ps.map pD ∧ ∀ p ∈ ps, -1 ≤ p.1 ∧ p.2 ≠ 0
  | [], ps, h => by cases h; exact ⟨rfl, fun p hp => by cases hp⟩
  | d :: ds, ps, h => by
    unfold asPs at h
    split at h
    · rename_i p qs e1 e2
      cases h
      obtain ⟨h1, h2⟩ := asP_eq e1
      obtain ⟨h3, h4⟩ := asPs_eq e2
      refine ⟨by rw [h1, h3]; rfl, fun x hx => ?_⟩
      rcases List.mem_cons.mp hx with rfl | hx
      · exact h2
      · exact h4 x hx
    · cases h
theorem asPs_all : ∀ {ds : List D}, ds.all isPair = (asPs ds).isSome
  | [] => rfl
  | d :: ds => by
    rw [List.all_cons, asPs_all (ds := ds), asP_is]
    show _ = (match asP d, asPs ds with | some p, some ps => some (p :: ps) | _, _ => none).isSome
    cases asP d <;> cases asPs ds <;> rfl
/-- strictly rising -/
def rise : List Int → Bool
  | a :: b :: r => decide (a < b) && rise (b :: r)
  | _ => true
def isSum : D → Bool
  | .tup [.int _, .tup ds] => match asPs ds with
    | some ps => rise (ps.map (·.1))
    | none => false
  | _ => false
def spSum : DSp := fun ds S Q => ∃ d, ds = [d] ∧ pd d = true ∧ (∀ x ps, d = .tup [x, .tup ps] → ps.length ≤ 1000) ∧ Q (.bl (isSum d)) S
theorem pds_all : ∀ {ds : List D}, pds ds = true → ∀ d ∈ ds, pd d = true
  | [], _, d, h => by cases h
  | x :: xs, h, d, hd => by
    have h : (pd x && pds xs) = true := h
    rw [Bool.and_eq_true] at h
    rcases List.mem_cons.mp hd with rfl | hd
    · exact h.1
    · exact pds_all h.2 d hd
theorem map_all (ds : List D) : asBls (ds.map fun d => D.bl (isPair d)) = some (ds.map isPair) := by
  have := asBls_map (ds.map isPair)
  rw [List.map_map] at this
  exact this
theorem rise_ix (ns : List Int) : rise ns = ((List.range (ns.length - 1)).map fun i => decide (ns.getD i 0 < ns.getD (i + 1) 0)).all id := by
  induction ns with
  | nil => rfl
  | cons a r ih =>
    cases r with
    | nil => rfl
    | cons b r =>
      show (decide (a < b) && rise (b :: r)) = _
      rw [ih]
      have e : (a :: b :: r).length - 1 = ((b :: r).length - 1) + 1 := by simp
      rw [e, List.range_succ_eq_map, List.map_cons, List.all_cons, List.map_map]
      rfl
theorem r_is_sum {T : Tb} (h0 : T.fn 0 = some (1, spWhole)) (h1 : T.fn 1 = some (1, spPair)) {ds : List D} {S : Store} {Q : DQ} (h : spSum ds S Q) : denSs T core_is_sum (DD Q) (start0 N_is_sum.length ds) S := by
  obtain ⟨d, rfl, hd0, hz, q⟩ := h
  cases d <;> first | (cases hd0; done) | skip
  case tup xs =>
    have hd : pds xs = true := hd0
    clear hd0
    rcases xs with _ | ⟨x, _ | ⟨y, _ | ⟨z, r⟩⟩⟩
    · simp only [core_is_sum, N_is_sum, DD, denSs, denS, den, dens, denO, denT, denI, DV.of, DV.ofB, sSeq, sRet, sRetN, sNext, sIf, sSet, sSetG, sPar, sPar3, sSetIx, sDrop, sFor, sForKeys, sBreak, sCont, dAnd, dOr, dNot, dAndT, dOrT, dNotT, dUn, dOp, dIte, dVar, dC, dTup, dLst, dNil, dCons, dCall, dCut, dPart, dNoPart, dGet1, dGet2, dApp,
  dSeq1, dRange1, dRange2, dEnum, dZip, dLc, dDc, dChain, fIsi, fBlt, fLen, fAbs, fInt1, fMax, fMin, fL1, fTuple, fList, fSorted, fDict, fBin, fCmp, fNeg, fAdd, fSub, fMul, fMod, fDiv, fPow, fInt, fInt0, fLt, fLe, fGt, fGe, fIs, fIsNot, fInD, fIx, fCut, fSeq, fRange1, fRange2, fEnum, fZip, fSetIx, fGet, fApp, fLenSet, fAug, sAug, tOf, tOfB, guardN, gset, gsets, sFrz, frz_dct, frz_lst, fEq_int, fNe_int, fEq_bl, fNe_bl, fEq_nil, fNe_nil, fEq_ints,
  TyC.name, DL.isNon, start0, List.length_cons, List.length_nil, List.map_cons, List.map_nil, List.cons_append, List.nil_append, List.getElem?_cons_zero, List.getElem?_cons_succ, List.getElem?_nil, List.set_cons_zero, List.set_cons_succ, List.set_nil, List.replicate, Nat.reduceSub, Nat.reduceAdd, mkL, mkD, dwipe, Bool.false_eq_true, if_true, if_false, ite_true, ite_false, true_and, and_true, Option.isSome_some, Option.isSome_none, Option.map_some, Option.map_none, Option.getD_some, Option.getD_none,
  tyD_non, tyD_bl, tyD_int, tyD_str, tyD_tup, tyD_lst, tyD_dct, truD_non, truD_bl, truD_int, truD_tup, truD_lst, truD_dct, asL_non, asD_non, keyD_non, asL_bl, asD_bl, keyD_bl, asL_int, asD_int, keyD_int, asL_str, asD_str, keyD_str, asL_tup, asD_tup, keyD_tup, asL_lst, asD_lst, keyD_lst, asL_dct, asD_dct, keyD_dct, asL_scr, asD_scr, keyD_scr, asL_sup, asD_sup, asL_supD, isLs_sup, tyD_supL, tyD_supD, sup_same, sup_sup, ixN_1_0, ixN_2_0, ixN_2_1, ixN_3_0, ixN_3_1, ixN_3_2, ixN_4_0, ixN_4_1, ixN_4_2, ixN_4_3, ixN_5_0, ixN_5_1, ixN_5_2, ixN_5_3, ixN_5_4, ixN_6_0, ixN_6_1, ixN_6_2, ixN_6_3, ixN_6_4, ixN_6_5, ixN_7_0, ixN_7_1, ixN_7_2, ixN_7_3, ixN_7_4, ixN_7_5, ixN_7_6, ixN_8_0, ixN_8_1, ixN_8_2, ixN_8_3, ixN_8_4, ixN_8_5, ixN_8_6, ixN_8_7, atI_0, atI_1, atI_2, atI_3, atI_4, atI_5, atI_6, atI_7, atI_8, isi_NoneType_bool, isi_NoneType_int, isi_NoneType_str, isi_NoneType_tuple, isi_NoneType_list, isi_NoneType_dict, isi_bool_bool, isi_bool_int, isi_bool_str, isi_bool_tuple, isi_bool_list, isi_bool_dict, isi_int_bool, isi_int_int, isi_int_str, isi_int_tuple, isi_int_list, isi_int_dict, isi_str_bool, isi_str_int, isi_str_str, isi_str_tuple, isi_str_list, isi_str_dict, isi_tuple_bool, isi_tuple_int, isi_tuple_str, isi_tuple_tuple, isi_tuple_list, isi_tuple_dict, isi_list_bool, isi_list_int, isi_list_str, isi_list_tuple, isi_list_list, isi_list_dict, isi_dict_bool, isi_dict_int, isi_dict_str, isi_dict_tuple, isi_dict_list, isi_dict_dict, h0, h1, Bool.not_true]
      exact .of q
    · simp only [core_is_sum, N_is_sum, DD, denSs, denS, den, dens, denO, denT, denI, DV.of, DV.ofB, sSeq, sRet, sRetN, sNext, sIf, sSet, sSetG, sPar, sPar3, sSetIx, sDrop, sFor, sForKeys, sBreak, sCont, dAnd, dOr, dNot, dAndT, dOrT, dNotT, dUn, dOp, dIte, dVar, dC, dTup, dLst, dNil, dCons, dCall, dCut, dPart, dNoPart, dGet1, dGet2, dApp,
  dSeq1, dRange1, dRange2, dEnum, dZip, dLc, dDc, dChain, fIsi, fBlt, fLen, fAbs, fInt1, fMax, fMin, fL1, fTuple, fList, fSorted, fDict, fBin, fCmp, fNeg, fAdd, fSub, fMul, fMod, fDiv, fPow, fInt, fInt0, fLt, fLe, fGt, fGe, fIs, fIsNot, fInD, fIx, fCut, fSeq, fRange1, fRange2, fEnum, fZip, fSetIx, fGet, fApp, fLenSet, fAug, sAug, tOf, tOfB, guardN, gset, gsets, sFrz, frz_dct, frz_lst, fEq_int, fNe_int, fEq_bl, fNe_bl, fEq_nil, fNe_nil, fEq_ints,
  TyC.name, DL.isNon, start0, List.length_cons, List.length_nil, List.map_cons, List.map_nil, List.cons_append, List.nil_append, List.getElem?_cons_zero, List.getElem?_cons_succ, List.getElem?_nil, List.set_cons_zero, List.set_cons_succ, List.set_nil, List.replicate, Nat.reduceSub, Nat.reduceAdd, mkL, mkD, dwipe, Bool.false_eq_true, if_true, if_false, ite_true, ite_false, true_and, and_true, Option.isSome_some, Option.isSome_none, Option.map_some, Option.map_none, Option.getD_some, Option.getD_none,
  tyD_non, tyD_bl, tyD_int, tyD_str, tyD_tup, tyD_lst, tyD_dct, truD_non, truD_bl, truD_int, truD_tup, truD_lst, truD_dct, asL_non, asD_non, keyD_non, asL_bl, asD_bl, keyD_bl, asL_int, asD_int, keyD_int, asL_str, asD_str, keyD_str, asL_tup, asD_tup, keyD_tup, asL_lst, asD_lst, keyD_lst, asL_dct, asD_dct, keyD_dct, asL_scr, asD_scr, keyD_scr, asL_sup, asD_sup, asL_supD, isLs_sup, tyD_supL, tyD_supD, sup_same, sup_sup, ixN_1_0, ixN_2_0, ixN_2_1, ixN_3_0, ixN_3_1, ixN_3_2, ixN_4_0, ixN_4_1, ixN_4_2, ixN_4_3, ixN_5_0, ixN_5_1, ixN_5_2, ixN_5_3, ixN_5_4, ixN_6_0, ixN_6_1, ixN_6_2, ixN_6_3, ixN_6_4, ixN_6_5, ixN_7_0, ixN_7_1, ixN_7_2, ixN_7_3, ixN_7_4, ixN_7_5, ixN_7_6, ixN_8_0, ixN_8_1, ixN_8_2, ixN_8_3, ixN_8_4, ixN_8_5, ixN_8_6, ixN_8_7, atI_0, atI_1, atI_2, atI_3, atI_4, atI_5, atI_6, atI_7, atI_8, isi_NoneType_bool, isi_NoneType_int, isi_NoneType_str, isi_NoneType_tuple, isi_NoneType_list, isi_NoneType_dict, isi_bool_bool, isi_bool_int, isi_bool_str, isi_bool_tuple, isi_bool_list, isi_bool_dict, isi_int_bool, isi_int_int, isi_int_str, isi_int_tuple, isi_int_list, isi_int_dict, isi_str_bool, isi_str_int, isi_str_str, isi_str_tuple, isi_str_list, isi_str_dict, isi_tuple_bool, isi_tuple_int, isi_tuple_str, isi_tuple_tuple, isi_tuple_list, isi_tuple_dict, isi_list_bool, isi_list_int, isi_list_str, isi_list_tuple, isi_list_list, isi_list_dict, isi_dict_bool, isi_dict_int, isi_dict_str, isi_dict_tuple, isi_dict_list, isi_dict_dict, h0, h1, Bool.not_true]
      have e : isSum (.tup [x]) = false := by cases x <;> rfl
      rw [e] at q
      exact .of q
    · simp only [core_is_sum, N_is_sum, DD, denSs, denS, den, dens, denO, denT, denI, DV.of, DV.ofB, sSeq, sRet, sRetN, sNext, sIf, sSet, sSetG, sPar, sPar3, sSetIx, sDrop, sFor, sForKeys, sBreak, sCont, dAnd, dOr, dNot, dAndT, dOrT, dNotT, dUn, dOp, dIte, dVar, dC, dTup, dLst, dNil, dCons, dCall, dCut, dPart, dNoPart, dGet1, dGet2, dApp,
  dSeq1, dRange1, dRange2, dEnum, dZip, dLc, dDc, dChain, fIsi, fBlt, fLen, fAbs, fInt1, fMax, fMin, fL1, fTuple, fList, fSorted, fDict, fBin, fCmp, fNeg, fAdd, fSub, fMul, fMod, fDiv, fPow, fInt, fInt0, fLt, fLe, fGt, fGe, fIs, fIsNot, fInD, fIx, fCut, fSeq, fRange1, fRange2, fEnum, fZip, fSetIx, fGet, fApp, fLenSet, fAug, sAug, tOf, tOfB, guardN, gset, gsets, sFrz, frz_dct, frz_lst, fEq_int, fNe_int, fEq_bl, fNe_bl, fEq_nil, fNe_nil, fEq_ints,
  TyC.name, DL.isNon, start0, List.length_cons, List.length_nil, List.map_cons, List.map_nil, List.cons_append, List.nil_append, List.getElem?_cons_zero, List.getElem?_cons_succ, List.getElem?_nil, List.set_cons_zero, List.set_cons_succ, List.set_nil, List.replicate, Nat.reduceSub, Nat.reduceAdd, mkL, mkD, dwipe, Bool.false_eq_true, if_true, if_false, ite_true, ite_false, true_and, and_true, Option.isSome_some, Option.isSome_none, Option.map_some, Option.map_none, Option.getD_some, Option.getD_none,
  tyD_non, tyD_bl, tyD_int, tyD_str, tyD_tup, tyD_lst, tyD_dct, truD_non, truD_bl, truD_int, truD_tup, truD_lst, truD_dct, asL_non, asD_non, keyD_non, asL_bl, asD_bl, keyD_bl, asL_int, asD_int, keyD_int, asL_str, asD_str, keyD_str, asL_tup, asD_tup, keyD_tup, asL_lst, asD_lst, keyD_lst, asL_dct, asD_dct, keyD_dct, asL_scr, asD_scr, keyD_scr, asL_sup, asD_sup, asL_supD, isLs_sup, tyD_supL, tyD_supD, sup_same, sup_sup, ixN_1_0, ixN_2_0, ixN_2_1, ixN_3_0, ixN_3_1, ixN_3_2, ixN_4_0, ixN_4_1, ixN_4_2, ixN_4_3, ixN_5_0, ixN_5_1, ixN_5_2, ixN_5_3, ixN_5_4, ixN_6_0, ixN_6_1, ixN_6_2, ixN_6_3, ixN_6_4, ixN_6_5, ixN_7_0, ixN_7_1, ixN_7_2, ixN_7_3, ixN_7_4, ixN_7_5, ixN_7_6, ixN_8_0, ixN_8_1, ixN_8_2, ixN_8_3, ixN_8_4, ixN_8_5, ixN_8_6, ixN_8_7, atI_0, atI_1, atI_2, atI_3, atI_4, atI_5, atI_6, atI_7, atI_8, isi_NoneType_bool, isi_NoneType_int, isi_NoneType_str, isi_NoneType_tuple, isi_NoneType_list, isi_NoneType_dict, isi_bool_bool, isi_bool_int, isi_bool_str, isi_bool_tuple, isi_bool_list, isi_bool_dict, isi_int_bool, isi_int_int, isi_int_str, isi_int_tuple, isi_int_list, isi_int_dict, isi_str_bool, isi_str_int, isi_str_str, isi_str_tuple, isi_str_list, isi_str_dict, isi_tuple_bool, isi_tuple_int, isi_tuple_str, isi_tuple_tuple, isi_tuple_list, isi_tuple_dict, isi_list_bool, isi_list_int, isi_list_str, isi_list_tuple, isi_list_list, isi_list_dict, isi_dict_bool, isi_dict_int, isi_dict_str, isi_dict_tuple, isi_dict_list, isi_dict_dict, h0, h1, Bool.not_true]
      rw [if_neg (by decide)]
      have hx : pd x = true ∧ pd y = true := by simpa [pds] using hd
      refine ⟨_, rfl, hx.1, ?_⟩
      cases x <;> first | (cases hx.1; done) | (simp only [wh, denSs, denS, den, dens, denO, denT, denI, DV.of, DV.ofB, sSeq, sRet, sRetN, sNext, sIf, sSet, sSetG, sPar, sPar3, sSetIx, sDrop, sFor, sForKeys, sBreak, sCont, dAnd, dOr, dNot, dAndT, dOrT, dNotT, dUn, dOp, dIte, dVar, dC, dTup, dLst, dNil, dCons, dCall, dCut, dPart, dNoPart, dGet1, dGet2, dApp,
  dSeq1, dRange1, dRange2, dEnum, dZip, dLc, dDc, dChain, fIsi, fBlt, fLen, fAbs, fInt1, fMax, fMin, fL1, fTuple, fList, fSorted, fDict, fBin, fCmp, fNeg, fAdd, fSub, fMul, fMod, fDiv, fPow, fInt, fInt0, fLt, fLe, fGt, fGe, fIs, fIsNot, fInD, fIx, fCut, fSeq, fRange1, fRange2, fEnum, fZip, fSetIx, fGet, fApp, fLenSet, fAug, sAug, tOf, tOfB, guardN, gset, gsets, sFrz, frz_dct, frz_lst, fEq_int, fNe_int, fEq_bl, fNe_bl, fEq_nil, fNe_nil, fEq_ints,
  TyC.name, DL.isNon, start0, List.length_cons, List.length_nil, List.map_cons, List.map_nil, List.cons_append, List.nil_append, List.getElem?_cons_zero, List.getElem?_cons_succ, List.getElem?_nil, List.set_cons_zero, List.set_cons_succ, List.set_nil, List.replicate, Nat.reduceSub, Nat.reduceAdd, mkL, mkD, dwipe, Bool.false_eq_true, if_true, if_false, ite_true, ite_false, true_and, and_true, Option.isSome_some, Option.isSome_none, Option.map_some, Option.map_none, Option.getD_some, Option.getD_none,
  tyD_non, tyD_bl, tyD_int, tyD_str, tyD_tup, tyD_lst, tyD_dct, truD_non, truD_bl, truD_int, truD_tup, truD_lst, truD_dct, asL_non, asD_non, keyD_non, asL_bl, asD_bl, keyD_bl, asL_int, asD_int, keyD_int, asL_str, asD_str, keyD_str, asL_tup, asD_tup, keyD_tup, asL_lst, asD_lst, keyD_lst, asL_dct, asD_dct, keyD_dct, asL_scr, asD_scr, keyD_scr, asL_sup, asD_sup, asL_supD, isLs_sup, tyD_supL, tyD_supD, sup_same, sup_sup, ixN_1_0, ixN_2_0, ixN_2_1, ixN_3_0, ixN_3_1, ixN_3_2, ixN_4_0, ixN_4_1, ixN_4_2, ixN_4_3, ixN_5_0, ixN_5_1, ixN_5_2, ixN_5_3, ixN_5_4, ixN_6_0, ixN_6_1, ixN_6_2, ixN_6_3, ixN_6_4, ixN_6_5, ixN_7_0, ixN_7_1, ixN_7_2, ixN_7_3, ixN_7_4, ixN_7_5, ixN_7_6, ixN_8_0, ixN_8_1, ixN_8_2, ixN_8_3, ixN_8_4, ixN_8_5, ixN_8_6, ixN_8_7, atI_0, atI_1, atI_2, atI_3, atI_4, atI_5, atI_6, atI_7, atI_8, isi_NoneType_bool, isi_NoneType_int, isi_NoneType_str, isi_NoneType_tuple, isi_NoneType_list, isi_NoneType_dict, isi_bool_bool, isi_bool_int, isi_bool_str, isi_bool_tuple, isi_bool_list, isi_bool_dict, isi_int_bool, isi_int_int, isi_int_str, isi_int_tuple, isi_int_list, isi_int_dict, isi_str_bool, isi_str_int, isi_str_str, isi_str_tuple, isi_str_list, isi_str_dict, isi_tuple_bool, isi_tuple_int, isi_tuple_str, isi_tuple_tuple, isi_tuple_list, isi_tuple_dict, isi_list_bool, isi_list_int, isi_list_str, isi_list_tuple, isi_list_list, isi_list_dict, isi_dict_bool, isi_dict_int, isi_dict_str, isi_dict_tuple, isi_dict_list, isi_dict_dict, Bool.not_false]; exact .of q) | skip
      rename_i a
      simp only [wh, denSs, denS, den, dens, denO, denT, denI, DV.of, DV.ofB, sSeq, sRet, sRetN, sNext, sIf, sSet, sSetG, sPar, sPar3, sSetIx, sDrop, sFor, sForKeys, sBreak, sCont, dAnd, dOr, dNot, dAndT, dOrT, dNotT, dUn, dOp, dIte, dVar, dC, dTup, dLst, dNil, dCons, dCall, dCut, dPart, dNoPart, dGet1, dGet2, dApp,
  dSeq1, dRange1, dRange2, dEnum, dZip, dLc, dDc, dChain, fIsi, fBlt, fLen, fAbs, fInt1, fMax, fMin, fL1, fTuple, fList, fSorted, fDict, fBin, fCmp, fNeg, fAdd, fSub, fMul, fMod, fDiv, fPow, fInt, fInt0, fLt, fLe, fGt, fGe, fIs, fIsNot, fInD, fIx, fCut, fSeq, fRange1, fRange2, fEnum, fZip, fSetIx, fGet, fApp, fLenSet, fAug, sAug, tOf, tOfB, guardN, gset, gsets, sFrz, frz_dct, frz_lst, fEq_int, fNe_int, fEq_bl, fNe_bl, fEq_nil, fNe_nil, fEq_ints,
  TyC.name, DL.isNon, start0, List.length_cons, List.length_nil, List.map_cons, List.map_nil, List.cons_append, List.nil_append, List.getElem?_cons_zero, List.getElem?_cons_succ, List.getElem?_nil, List.set_cons_zero, List.set_cons_succ, List.set_nil, List.replicate, Nat.reduceSub, Nat.reduceAdd, mkL, mkD, dwipe, Bool.false_eq_true, if_true, if_false, ite_true, ite_false, true_and, and_true, Option.isSome_some, Option.isSome_none, Option.map_some, Option.map_none, Option.getD_some, Option.getD_none,
  tyD_non, tyD_bl, tyD_int, tyD_str, tyD_tup, tyD_lst, tyD_dct, truD_non, truD_bl, truD_int, truD_tup, truD_lst, truD_dct, asL_non, asD_non, keyD_non, asL_bl, asD_bl, keyD_bl, asL_int, asD_int, keyD_int, asL_str, asD_str, keyD_str, asL_tup, asD_tup, keyD_tup, asL_lst, asD_lst, keyD_lst, asL_dct, asD_dct, keyD_dct, asL_scr, asD_scr, keyD_scr, asL_sup, asD_sup, asL_supD, isLs_sup, tyD_supL, tyD_supD, sup_same, sup_sup, ixN_1_0, ixN_2_0, ixN_2_1, ixN_3_0, ixN_3_1, ixN_3_2, ixN_4_0, ixN_4_1, ixN_4_2, ixN_4_3, ixN_5_0, ixN_5_1, ixN_5_2, ixN_5_3, ixN_5_4, ixN_6_0, ixN_6_1, ixN_6_2, ixN_6_3, ixN_6_4, ixN_6_5, ixN_7_0, ixN_7_1, ixN_7_2, ixN_7_3, ixN_7_4, ixN_7_5, ixN_7_6, ixN_8_0, ixN_8_1, ixN_8_2, ixN_8_3, ixN_8_4, ixN_8_5, ixN_8_6, ixN_8_7, atI_0, atI_1, atI_2, atI_3, atI_4, atI_5, atI_6, atI_7, atI_8, isi_NoneType_bool, isi_NoneType_int, isi_NoneType_str, isi_NoneType_tuple, isi_NoneType_list, isi_NoneType_dict, isi_bool_bool, isi_bool_int, isi_bool_str, isi_bool_tuple, isi_bool_list, isi_bool_dict, isi_int_bool, isi_int_int, isi_int_str, isi_int_tuple, isi_int_list, isi_int_dict, isi_str_bool, isi_str_int, isi_str_str, isi_str_tuple, isi_str_list, isi_str_dict, isi_tuple_bool, isi_tuple_int, isi_tuple_str, isi_tuple_tuple, isi_tuple_list, isi_tuple_dict, isi_list_bool, isi_list_int, isi_list_str, isi_list_tuple, isi_list_list, isi_list_dict, isi_dict_bool, isi_dict_int, isi_dict_str, isi_dict_tuple, isi_dict_list, isi_dict_dict, Bool.not_true]
      cases y <;> first | (cases hx.2; done) | (simp only [wh, denSs, denS, den, dens, denO, denT, denI, DV.of, DV.ofB, sSeq, sRet, sRetN, sNext, sIf, sSet, sSetG, sPar, sPar3, sSetIx, sDrop, sFor, sForKeys, sBreak, sCont, dAnd, dOr, dNot, dAndT, dOrT, dNotT, dUn, dOp, dIte, dVar, dC, dTup, dLst, dNil, dCons, dCall, dCut, dPart, dNoPart, dGet1, dGet2, dApp,
  dSeq1, dRange1, dRange2, dEnum, dZip, dLc, dDc, dChain, fIsi, fBlt, fLen, fAbs, fInt1, fMax, fMin, fL1, fTuple, fList, fSorted, fDict, fBin, fCmp, fNeg, fAdd, fSub, fMul, fMod, fDiv, fPow, fInt, fInt0, fLt, fLe, fGt, fGe, fIs, fIsNot, fInD, fIx, fCut, fSeq, fRange1, fRange2, fEnum, fZip, fSetIx, fGet, fApp, fLenSet, fAug, sAug, tOf, tOfB, guardN, gset, gsets, sFrz, frz_dct, frz_lst, fEq_int, fNe_int, fEq_bl, fNe_bl, fEq_nil, fNe_nil, fEq_ints,
  TyC.name, DL.isNon, start0, List.length_cons, List.length_nil, List.map_cons, List.map_nil, List.cons_append, List.nil_append, List.getElem?_cons_zero, List.getElem?_cons_succ, List.getElem?_nil, List.set_cons_zero, List.set_cons_succ, List.set_nil, List.replicate, Nat.reduceSub, Nat.reduceAdd, mkL, mkD, dwipe, Bool.false_eq_true, if_true, if_false, ite_true, ite_false, true_and, and_true, Option.isSome_some, Option.isSome_none, Option.map_some, Option.map_none, Option.getD_some, Option.getD_none,
  tyD_non, tyD_bl, tyD_int, tyD_str, tyD_tup, tyD_lst, tyD_dct, truD_non, truD_bl, truD_int, truD_tup, truD_lst, truD_dct, asL_non, asD_non, keyD_non, asL_bl, asD_bl, keyD_bl, asL_int, asD_int, keyD_int, asL_str, asD_str, keyD_str, asL_tup, asD_tup, keyD_tup, asL_lst, asD_lst, keyD_lst, asL_dct, asD_dct, keyD_dct, asL_scr, asD_scr, keyD_scr, asL_sup, asD_sup, asL_supD, isLs_sup, tyD_supL, tyD_supD, sup_same, sup_sup, ixN_1_0, ixN_2_0, ixN_2_1, ixN_3_0, ixN_3_1, ixN_3_2, ixN_4_0, ixN_4_1, ixN_4_2, ixN_4_3, ixN_5_0, ixN_5_1, ixN_5_2, ixN_5_3, ixN_5_4, ixN_6_0, ixN_6_1, ixN_6_2, ixN_6_3, ixN_6_4, ixN_6_5, ixN_7_0, ixN_7_1, ixN_7_2, ixN_7_3, ixN_7_4, ixN_7_5, ixN_7_6, ixN_8_0, ixN_8_1, ixN_8_2, ixN_8_3, ixN_8_4, ixN_8_5, ixN_8_6, ixN_8_7, atI_0, atI_1, atI_2, atI_3, atI_4, atI_5, atI_6, atI_7, atI_8, isi_NoneType_bool, isi_NoneType_int, isi_NoneType_str, isi_NoneType_tuple, isi_NoneType_list, isi_NoneType_dict, isi_bool_bool, isi_bool_int, isi_bool_str, isi_bool_tuple, isi_bool_list, isi_bool_dict, isi_int_bool, isi_int_int, isi_int_str, isi_int_tuple, isi_int_list, isi_int_dict, isi_str_bool, isi_str_int, isi_str_str, isi_str_tuple, isi_str_list, isi_str_dict, isi_tuple_bool, isi_tuple_int, isi_tuple_str, isi_tuple_tuple, isi_tuple_list, isi_tuple_dict, isi_list_bool, isi_list_int, isi_list_str, isi_list_tuple, isi_list_list, isi_list_dict, isi_dict_bool, isi_dict_int, isi_dict_str, isi_dict_tuple, isi_dict_list, isi_dict_dict, Bool.not_true, Bool.not_false]; exact .of q) | skip
      rename_i ps
      simp only [wh, denSs, denS, den, dens, denO, denT, denI, DV.of, DV.ofB, sSeq, sRet, sRetN, sNext, sIf, sSet, sSetG, sPar, sPar3, sSetIx, sDrop, sFor, sForKeys, sBreak, sCont, dAnd, dOr, dNot, dAndT, dOrT, dNotT, dUn, dOp, dIte, dVar, dC, dTup, dLst, dNil, dCons, dCall, dCut, dPart, dNoPart, dGet1, dGet2, dApp,
  dSeq1, dRange1, dRange2, dEnum, dZip, dLc, dDc, dChain, fIsi, fBlt, fLen, fAbs, fInt1, fMax, fMin, fL1, fTuple, fList, fSorted, fDict, fBin, fCmp, fNeg, fAdd, fSub, fMul, fMod, fDiv, fPow, fInt, fInt0, fLt, fLe, fGt, fGe, fIs, fIsNot, fInD, fIx, fCut, fSeq, fRange1, fRange2, fEnum, fZip, fSetIx, fGet, fApp, fLenSet, fAug, sAug, tOf, tOfB, guardN, gset, gsets, sFrz, frz_dct, frz_lst, fEq_int, fNe_int, fEq_bl, fNe_bl, fEq_nil, fNe_nil, fEq_ints,
  TyC.name, DL.isNon, start0, List.length_cons, List.length_nil, List.map_cons, List.map_nil, List.cons_append, List.nil_append, List.getElem?_cons_zero, List.getElem?_cons_succ, List.getElem?_nil, List.set_cons_zero, List.set_cons_succ, List.set_nil, List.replicate, Nat.reduceSub, Nat.reduceAdd, mkL, mkD, dwipe, Bool.false_eq_true, if_true, if_false, ite_true, ite_false, true_and, and_true, Option.isSome_some, Option.isSome_none, Option.map_some, Option.map_none, Option.getD_some, Option.getD_none,
  tyD_non, tyD_bl, tyD_int, tyD_str, tyD_tup, tyD_lst, tyD_dct, truD_non, truD_bl, truD_int, truD_tup, truD_lst, truD_dct, asL_non, asD_non, keyD_non, asL_bl, asD_bl, keyD_bl, asL_int, asD_int, keyD_int, asL_str, asD_str, keyD_str, asL_tup, asD_tup, keyD_tup, asL_lst, asD_lst, keyD_lst, asL_dct, asD_dct, keyD_dct, asL_scr, asD_scr, keyD_scr, asL_sup, asD_sup, asL_supD, isLs_sup, tyD_supL, tyD_supD, sup_same, sup_sup, ixN_1_0, ixN_2_0, ixN_2_1, ixN_3_0, ixN_3_1, ixN_3_2, ixN_4_0, ixN_4_1, ixN_4_2, ixN_4_3, ixN_5_0, ixN_5_1, ixN_5_2, ixN_5_3, ixN_5_4, ixN_6_0, ixN_6_1, ixN_6_2, ixN_6_3, ixN_6_4, ixN_6_5, ixN_7_0, ixN_7_1, ixN_7_2, ixN_7_3, ixN_7_4, ixN_7_5, ixN_7_6, ixN_8_0, ixN_8_1, ixN_8_2, ixN_8_3, ixN_8_4, ixN_8_5, ixN_8_6, ixN_8_7, atI_0, atI_1, atI_2, atI_3, atI_4, atI_5, atI_6, atI_7, atI_8, isi_NoneType_bool, isi_NoneType_int, isi_NoneType_str, isi_NoneType_tuple, isi_NoneType_list, isi_NoneType_dict, isi_bool_bool, isi_bool_int, isi_bool_str, isi_bool_tuple, isi_bool_list, isi_bool_dict, isi_int_bool, isi_int_int, isi_int_str, isi_int_tuple, isi_int_list, isi_int_dict, isi_str_bool, isi_str_int, isi_str_str, isi_str_tuple, isi_str_list, isi_str_dict, isi_tuple_bool, isi_tuple_int, isi_tuple_str, isi_tuple_tuple, isi_tuple_list, isi_tuple_dict, isi_list_bool, isi_list_int, isi_list_str, isi_list_tuple, isi_list_list, isi_list_dict, isi_dict_bool, isi_dict_int, isi_dict_str, isi_dict_tuple, isi_dict_list, isi_dict_dict, Bool.not_true, Bool.not_false]
      have hps : pds ps = true := hx.2
      refine lcL_map (f := fun d => .bl (isPair d)) trivial (fun x hx => ⟨_, rfl, fun Q' q' => (show guardN 1 spPair [x] S Q' from ⟨rfl, x, rfl, pds_all hps x hx, q'⟩)⟩) ?_
      simp only [map_all, List.all_map]
      have e : (ps.all (id ∘ isPair)) = (asPs ps).isSome := asPs_all
      rw [e]
      have e2 : isSum (.tup [.int a, .tup ps]) = (match asPs ps with | some ps => rise (ps.map (·.1)) | none => false) := rfl
      rw [e2] at q
      cases ea : asPs ps with
      | none =>
        rw [ea] at q
        exact .of q
      | some pp =>
        rw [ea] at q
        obtain ⟨rfl, hpp⟩ := asPs_eq ea
        simp only [Option.isSome_some, denSs, denS, den, dens, denO, denT, denI, DV.of, DV.ofB, sSeq, sRet, sRetN, sNext, sIf, sSet, sSetG, sPar, sPar3, sSetIx, sDrop, sFor, sForKeys, sBreak, sCont, dAnd, dOr, dNot, dAndT, dOrT, dNotT, dUn, dOp, dIte, dVar, dC, dTup, dLst, dNil, dCons, dCall, dCut, dPart, dNoPart, dGet1, dGet2, dApp,
  dSeq1, dRange1, dRange2, dEnum, dZip, dLc, dDc, dChain, fIsi, fBlt, fLen, fAbs, fInt1, fMax, fMin, fL1, fTuple, fList, fSorted, fDict, fBin, fCmp, fNeg, fAdd, fSub, fMul, fMod, fDiv, fPow, fInt, fInt0, fLt, fLe, fGt, fGe, fIs, fIsNot, fInD, fIx, fCut, fSeq, fRange1, fRange2, fEnum, fZip, fSetIx, fGet, fApp, fLenSet, fAug, sAug, tOf, tOfB, guardN, gset, gsets, sFrz, frz_dct, frz_lst, fEq_int, fNe_int, fEq_bl, fNe_bl, fEq_nil, fNe_nil, fEq_ints,
  TyC.name, DL.isNon, start0, List.length_cons, List.length_nil, List.map_cons, List.map_nil, List.cons_append, List.nil_append, List.getElem?_cons_zero, List.getElem?_cons_succ, List.getElem?_nil, List.set_cons_zero, List.set_cons_succ, List.set_nil, List.replicate, Nat.reduceSub, Nat.reduceAdd, mkL, mkD, dwipe, Bool.false_eq_true, if_true, if_false, ite_true, ite_false, true_and, and_true, Option.isSome_some, Option.isSome_none, Option.map_some, Option.map_none, Option.getD_some, Option.getD_none,
  tyD_non, tyD_bl, tyD_int, tyD_str, tyD_tup, tyD_lst, tyD_dct, truD_non, truD_bl, truD_int, truD_tup, truD_lst, truD_dct, asL_non, asD_non, keyD_non, asL_bl, asD_bl, keyD_bl, asL_int, asD_int, keyD_int, asL_str, asD_str, keyD_str, asL_tup, asD_tup, keyD_tup, asL_lst, asD_lst, keyD_lst, asL_dct, asD_dct, keyD_dct, asL_scr, asD_scr, keyD_scr, asL_sup, asD_sup, asL_supD, isLs_sup, tyD_supL, tyD_supD, sup_same, sup_sup, ixN_1_0, ixN_2_0, ixN_2_1, ixN_3_0, ixN_3_1, ixN_3_2, ixN_4_0, ixN_4_1, ixN_4_2, ixN_4_3, ixN_5_0, ixN_5_1, ixN_5_2, ixN_5_3, ixN_5_4, ixN_6_0, ixN_6_1, ixN_6_2, ixN_6_3, ixN_6_4, ixN_6_5, ixN_7_0, ixN_7_1, ixN_7_2, ixN_7_3, ixN_7_4, ixN_7_5, ixN_7_6, ixN_8_0, ixN_8_1, ixN_8_2, ixN_8_3, ixN_8_4, ixN_8_5, ixN_8_6, ixN_8_7, atI_0, atI_1, atI_2, atI_3, atI_4, atI_5, atI_6, atI_7, atI_8, isi_NoneType_bool, isi_NoneType_int, isi_NoneType_str, isi_NoneType_tuple, isi_NoneType_list, isi_NoneType_dict, isi_bool_bool, isi_bool_int, isi_bool_str, isi_bool_tuple, isi_bool_list, isi_bool_dict, isi_int_bool, isi_int_int, isi_int_str, isi_int_tuple, isi_int_list, isi_int_dict, isi_str_bool, isi_str_int, isi_str_str, isi_str_tuple, isi_str_list, isi_str_dict, isi_tuple_bool, isi_tuple_int, isi_tuple_str, isi_tuple_tuple, isi_tuple_list, isi_tuple_dict, isi_list_bool, isi_list_int, isi_list_str, isi_list_tuple, isi_list_list, isi_list_dict, isi_dict_bool, isi_dict_int, isi_dict_str, isi_dict_tuple, isi_dict_list, isi_dict_dict, Bool.not_true]
        refine lcL_map (f := fun d => match d with | .tup [x, _] => x | _ => .non) trivial (fun x hx => ?_) ?_
        · obtain ⟨p, _, rfl⟩ := List.mem_map.mp hx
          exact ⟨_, rfl, fun Q' q' => q'⟩
        · have e3 : (pp.map pD).map (fun d => match d with | .tup [x, _] => x | _ => D.non) = (pp.map (·.1)).map D.int := by
            rw [List.map_map, List.map_map]; rfl
          rw [e3]
          have q : Q (.bl (rise (pp.map (·.1)))) S := q
          have z := hz _ _ rfl
          rw [List.length_map, ← List.length_map (f := fun p : P2 => p.1)] at z
          generalize pp.map (·.1) = ns at q z ⊢
          have z2 : (1000 : Nat) ≤ sizeLine := by decide
          refine ⟨?_, ?_, ?_⟩
          · rw [List.length_map]; omega
          · rw [List.length_map]
            omega
          · rw [List.length_map]
            refine lcL_map (f := fun d => match d with | .int i => .bl (decide (ns.getD i.toNat 0 < ns.getD (i.toNat + 1) 0)) | _ => .non) trivial (fun x hx => ?_) ?_
            · unfold rangeD at hx
              obtain ⟨i, hi, rfl⟩ := List.mem_map.mp hx
              rw [List.mem_range] at hi
              refine ⟨_, rfl, fun Q' q' => ?_⟩
              have e1 : atI (ns.map D.int) (0 + (i : Int)) = some (.int (ns.getD i 0)) := by
                rw [Int.zero_add]; exact atI_getD (by omega)
              have e2 : atI (ns.map D.int) (0 + (i : Int) + 1) = some (.int (ns.getD (i + 1) 0)) := by
                rw [show (0 + (i : Int) + 1) = ((i + 1 : Nat) : Int) by omega]; exact atI_getD (by omega)
              simp only [denSs, denS, den, dens, denO, denT, denI, DV.of, DV.ofB, sSeq, sRet, sRetN, sNext, sIf, sSet, sSetG, sPar, sPar3, sSetIx, sDrop, sFor, sForKeys, sBreak, sCont, dAnd, dOr, dNot, dAndT, dOrT, dNotT, dUn, dOp, dIte, dVar, dC, dTup, dLst, dNil, dCons, dCall, dCut, dPart, dNoPart, dGet1, dGet2, dApp,
  dSeq1, dRange1, dRange2, dEnum, dZip, dLc, dDc, dChain, fIsi, fBlt, fLen, fAbs, fInt1, fMax, fMin, fL1, fTuple, fList, fSorted, fDict, fBin, fCmp, fNeg, fAdd, fSub, fMul, fMod, fDiv, fPow, fInt, fInt0, fLt, fLe, fGt, fGe, fIs, fIsNot, fInD, fIx, fCut, fSeq, fRange1, fRange2, fEnum, fZip, fSetIx, fGet, fApp, fLenSet, fAug, sAug, tOf, tOfB, guardN, gset, gsets, sFrz, frz_dct, frz_lst, fEq_int, fNe_int, fEq_bl, fNe_bl, fEq_nil, fNe_nil, fEq_ints,
  TyC.name, DL.isNon, start0, List.length_cons, List.length_nil, List.map_cons, List.map_nil, List.cons_append, List.nil_append, List.getElem?_cons_zero, List.getElem?_cons_succ, List.getElem?_nil, List.set_cons_zero, List.set_cons_succ, List.set_nil, List.replicate, Nat.reduceSub, Nat.reduceAdd, mkL, mkD, dwipe, Bool.false_eq_true, if_true, if_false, ite_true, ite_false, true_and, and_true, Option.isSome_some, Option.isSome_none, Option.map_some, Option.map_none, Option.getD_some, Option.getD_none,
  tyD_non, tyD_bl, tyD_int, tyD_str, tyD_tup, tyD_lst, tyD_dct, truD_non, truD_bl, truD_int, truD_tup, truD_lst, truD_dct, asL_non, asD_non, keyD_non, asL_bl, asD_bl, keyD_bl, asL_int, asD_int, keyD_int, asL_str, asD_str, keyD_str, asL_tup, asD_tup, keyD_tup, asL_lst, asD_lst, keyD_lst, asL_dct, asD_dct, keyD_dct, asL_scr, asD_scr, keyD_scr, asL_sup, asD_sup, asL_supD, isLs_sup, tyD_supL, tyD_supD, sup_same, sup_sup, ixN_1_0, ixN_2_0, ixN_2_1, ixN_3_0, ixN_3_1, ixN_3_2, ixN_4_0, ixN_4_1, ixN_4_2, ixN_4_3, ixN_5_0, ixN_5_1, ixN_5_2, ixN_5_3, ixN_5_4, ixN_6_0, ixN_6_1, ixN_6_2, ixN_6_3, ixN_6_4, ixN_6_5, ixN_7_0, ixN_7_1, ixN_7_2, ixN_7_3, ixN_7_4, ixN_7_5, ixN_7_6, ixN_8_0, ixN_8_1, ixN_8_2, ixN_8_3, ixN_8_4, ixN_8_5, ixN_8_6, ixN_8_7, atI_0, atI_1, atI_2, atI_3, atI_4, atI_5, atI_6, atI_7, atI_8, isi_NoneType_bool, isi_NoneType_int, isi_NoneType_str, isi_NoneType_tuple, isi_NoneType_list, isi_NoneType_dict, isi_bool_bool, isi_bool_int, isi_bool_str, isi_bool_tuple, isi_bool_list, isi_bool_dict, isi_int_bool, isi_int_int, isi_int_str, isi_int_tuple, isi_int_list, isi_int_dict, isi_str_bool, isi_str_int, isi_str_str, isi_str_tuple, isi_str_list, isi_str_dict, isi_tuple_bool, isi_tuple_int, isi_tuple_str, isi_tuple_tuple, isi_tuple_list, isi_tuple_dict, isi_list_bool, isi_list_int, isi_list_str, isi_list_tuple, isi_list_list, isi_list_dict, isi_dict_bool, isi_dict_int, isi_dict_str, isi_dict_tuple, isi_dict_list, isi_dict_dict, e1, e2]
              have e4 : (0 + (i : Int)).toNat = i := by omega
              simp only [e4] at q'
              exact q'
            · have e5 : (rangeD 0 ((ns.length : Int) - 1)).map (fun d => match d with | .int i => D.bl (decide (ns.getD i.toNat 0 < ns.getD (i.toNat + 1) 0)) | _ => .non) = ((List.range (ns.length - 1)).map fun i => decide (ns.getD i 0 < ns.getD (i + 1) 0)).map D.bl := by
                unfold rangeD
                rw [List.map_map, List.map_map, show ((ns.length : Int) - 1 - 0).toNat = ns.length - 1 by omega]
                refine List.map_congr_left fun i _ => ?_
                show D.bl (decide (ns.getD (0 + (i : Int)).toNat 0 < ns.getD ((0 + (i : Int)).toNat + 1) 0)) = _
                rw [show (0 + (i : Int)).toNat = i by omega]; rfl
              rw [e5, asBls_map]
              rw [rise_ix] at q
              exact .of q
    · simp only [core_is_sum, N_is_sum, DD, denSs, denS, den, dens, denO, denT, denI, DV.of, DV.ofB, sSeq, sRet, sRetN, sNext, sIf, sSet, sSetG, sPar, sPar3, sSetIx, sDrop, sFor, sForKeys, sBreak, sCont, dAnd, dOr, dNot, dAndT, dOrT, dNotT, dUn, dOp, dIte, dVar, dC, dTup, dLst, dNil, dCons, dCall, dCut, dPart, dNoPart, dGet1, dGet2, dApp,
  dSeq1, dRange1, dRange2, dEnum, dZip, dLc, dDc, dChain, fIsi, fBlt, fLen, fAbs, fInt1, fMax, fMin, fL1, fTuple, fList, fSorted, fDict, fBin, fCmp, fNeg, fAdd, fSub, fMul, fMod, fDiv, fPow, fInt, fInt0, fLt, fLe, fGt, fGe, fIs, fIsNot, fInD, fIx, fCut, fSeq, fRange1, fRange2, fEnum, fZip, fSetIx, fGet, fApp, fLenSet, fAug, sAug, tOf, tOfB, guardN, gset, gsets, sFrz, frz_dct, frz_lst, fEq_int, fNe_int, fEq_bl, fNe_bl, fEq_nil, fNe_nil, fEq_ints,
  TyC.name, DL.isNon, start0, List.length_cons, List.length_nil, List.map_cons, List.map_nil, List.cons_append, List.nil_append, List.getElem?_cons_zero, List.getElem?_cons_succ, List.getElem?_nil, List.set_cons_zero, List.set_cons_succ, List.set_nil, List.replicate, Nat.reduceSub, Nat.reduceAdd, mkL, mkD, dwipe, Bool.false_eq_true, if_true, if_false, ite_true, ite_false, true_and, and_true, Option.isSome_some, Option.isSome_none, Option.map_some, Option.map_none, Option.getD_some, Option.getD_none,
  tyD_non, tyD_bl, tyD_int, tyD_str, tyD_tup, tyD_lst, tyD_dct, truD_non, truD_bl, truD_int, truD_tup, truD_lst, truD_dct, asL_non, asD_non, keyD_non, asL_bl, asD_bl, keyD_bl, asL_int, asD_int, keyD_int, asL_str, asD_str, keyD_str, asL_tup, asD_tup, keyD_tup, asL_lst, asD_lst, keyD_lst, asL_dct, asD_dct, keyD_dct, asL_scr, asD_scr, keyD_scr, asL_sup, asD_sup, asL_supD, isLs_sup, tyD_supL, tyD_supD, sup_same, sup_sup, ixN_1_0, ixN_2_0, ixN_2_1, ixN_3_0, ixN_3_1, ixN_3_2, ixN_4_0, ixN_4_1, ixN_4_2, ixN_4_3, ixN_5_0, ixN_5_1, ixN_5_2, ixN_5_3, ixN_5_4, ixN_6_0, ixN_6_1, ixN_6_2, ixN_6_3, ixN_6_4, ixN_6_5, ixN_7_0, ixN_7_1, ixN_7_2, ixN_7_3, ixN_7_4, ixN_7_5, ixN_7_6, ixN_8_0, ixN_8_1, ixN_8_2, ixN_8_3, ixN_8_4, ixN_8_5, ixN_8_6, ixN_8_7, atI_0, atI_1, atI_2, atI_3, atI_4, atI_5, atI_6, atI_7, atI_8, isi_NoneType_bool, isi_NoneType_int, isi_NoneType_str, isi_NoneType_tuple, isi_NoneType_list, isi_NoneType_dict, isi_bool_bool, isi_bool_int, isi_bool_str, isi_bool_tuple, isi_bool_list, isi_bool_dict, isi_int_bool, isi_int_int, isi_int_str, isi_int_tuple, isi_int_list, isi_int_dict, isi_str_bool, isi_str_int, isi_str_str, isi_str_tuple, isi_str_list, isi_str_dict, isi_tuple_bool, isi_tuple_int, isi_tuple_str, isi_tuple_tuple, isi_tuple_list, isi_tuple_dict, isi_list_bool, isi_list_int, isi_list_str, isi_list_tuple, isi_list_list, isi_list_dict, isi_dict_bool, isi_dict_int, isi_dict_str, isi_dict_tuple, isi_dict_list, isi_dict_dict, h0, h1, Bool.not_true]
      have e : isSum (.tup (x :: y :: z :: r)) = false := by cases x <;> cases y <;> rfl
      rw [e] at q
      rw [if_pos (by rw [decide_eq_false (by omega)]; rfl)]
      exact .of q
  all_goals (simp only [core_is_sum, N_is_sum, DD, denSs, denS, den, dens, denO, denT, denI, DV.of, DV.ofB, sSeq, sRet, sRetN, sNext, sIf, sSet, sSetG, sPar, sPar3, sSetIx, sDrop, sFor, sForKeys, sBreak, sCont, dAnd, dOr, dNot, dAndT, dOrT, dNotT, dUn, dOp, dIte, dVar, dC, dTup, dLst, dNil, dCons, dCall, dCut, dPart, dNoPart, dGet1, dGet2, dApp,
  dSeq1, dRange1, dRange2, dEnum, dZip, dLc, dDc, dChain, fIsi, fBlt, fLen, fAbs, fInt1, fMax, fMin, fL1, fTuple, fList, fSorted, fDict, fBin, fCmp, fNeg, fAdd, fSub, fMul, fMod, fDiv, fPow, fInt, fInt0, fLt, fLe, fGt, fGe, fIs, fIsNot, fInD, fIx, fCut, fSeq, fRange1, fRange2, fEnum, fZip, fSetIx, fGet, fApp, fLenSet, fAug, sAug, tOf, tOfB, guardN, gset, gsets, sFrz, frz_dct, frz_lst, fEq_int, fNe_int, fEq_bl, fNe_bl, fEq_nil, fNe_nil, fEq_ints,
  TyC.name, DL.isNon, start0, List.length_cons, List.length_nil, List.map_cons, List.map_nil, List.cons_append, List.nil_append, List.getElem?_cons_zero, List.getElem?_cons_succ, List.getElem?_nil, List.set_cons_zero, List.set_cons_succ, List.set_nil, List.replicate, Nat.reduceSub, Nat.reduceAdd, mkL, mkD, dwipe, Bool.false_eq_true, if_true, if_false, ite_true, ite_false, true_and, and_true, Option.isSome_some, Option.isSome_none, Option.map_some, Option.map_none, Option.getD_some, Option.getD_none,
  tyD_non, tyD_bl, tyD_int, tyD_str, tyD_tup, tyD_lst, tyD_dct, truD_non, truD_bl, truD_int, truD_tup, truD_lst, truD_dct, asL_non, asD_non, keyD_non, asL_bl, asD_bl, keyD_bl, asL_int, asD_int, keyD_int, asL_str, asD_str, keyD_str, asL_tup, asD_tup, keyD_tup, asL_lst, asD_lst, keyD_lst, asL_dct, asD_dct, keyD_dct, asL_scr, asD_scr, keyD_scr, asL_sup, asD_sup, asL_supD, isLs_sup, tyD_supL, tyD_supD, sup_same, sup_sup, ixN_1_0, ixN_2_0, ixN_2_1, ixN_3_0, ixN_3_1, ixN_3_2, ixN_4_0, ixN_4_1, ixN_4_2, ixN_4_3, ixN_5_0, ixN_5_1, ixN_5_2, ixN_5_3, ixN_5_4, ixN_6_0, ixN_6_1, ixN_6_2, ixN_6_3, ixN_6_4, ixN_6_5, ixN_7_0, ixN_7_1, ixN_7_2, ixN_7_3, ixN_7_4, ixN_7_5, ixN_7_6, ixN_8_0, ixN_8_1, ixN_8_2, ixN_8_3, ixN_8_4, ixN_8_5, ixN_8_6, ixN_8_7, atI_0, atI_1, atI_2, atI_3, atI_4, atI_5, atI_6, atI_7, atI_8, isi_NoneType_bool, isi_NoneType_int, isi_NoneType_str, isi_NoneType_tuple, isi_NoneType_list, isi_NoneType_dict, isi_bool_bool, isi_bool_int, isi_bool_str, isi_bool_tuple, isi_bool_list, isi_bool_dict, isi_int_bool, isi_int_int, isi_int_str, isi_int_tuple, isi_int_list, isi_int_dict, isi_str_bool, isi_str_int, isi_str_str, isi_str_tuple, isi_str_list, isi_str_dict, isi_tuple_bool, isi_tuple_int, isi_tuple_str, isi_tuple_tuple, isi_tuple_list, isi_tuple_dict, isi_list_bool, isi_list_int, isi_list_str, isi_list_tuple, isi_list_list, isi_list_dict, isi_dict_bool, isi_dict_int, isi_dict_str, isi_dict_tuple, isi_dict_list, isi_dict_dict, h0, h1]; exact .of q)
end K00
set_option Elab.async false
set_option linter.all false
set_option maxRecDepth 100000
set_option maxHeartbeats 1000000
namespace K00
open PySem L2 DL
theorem rise_pw : ∀ {ns : List Int}, rise ns = true ↔ ns.Pairwise (· < ·)
  | [] => by simp [rise]
  | [a] => by simp [rise]
  | a :: b :: r => by
    have ih := rise_pw (ns := b :: r)
    show (decide (a < b) && rise (b :: r)) = true ↔ _
    rw [Bool.and_eq_true, decide_eq_true_eq, ih]
    constructor
    · rintro ⟨h1, h2⟩
      refine List.pairwise_cons.mpr ⟨fun x hx => ?_, h2⟩
      rcases List.mem_cons.mp hx with rfl | hx
      · exact h1
      · exact Int.lt_trans h1 ((List.pairwise_cons.mp h2).1 x hx)
    · intro h
      have := List.pairwise_cons.mp h
      exact ⟨this.1 b List.mem_cons_self, this.2⟩
theorem fm_mem (f : Nat → Int) : ∀ {n i : Nat}, i < n → f i ∈ PyProof.Rows.firstMet f n
  | 0, i, h => by omega
  | n + 1, i, h => by
    rw [PyProof.Rows.firstMet_succ]
    unfold PyProof.Rows.step_dedup
    by_cases e : i = n
    · subst e
      split
      · rename_i hb
        obtain ⟨y, hy, ey⟩ := List.any_eq_true.mp hb
        rw [← eq_of_beq ey]; exact hy
      · simp
    · have := fm_mem f (n := n) (i := i) (by omega)
      split
      · exact this
      · exact List.mem_append_left _ this
theorem fm_len (f : Nat → Int) : ∀ {n : Nat}, (PyProof.Rows.firstMet f n).length = n → ∀ i j, i < j → j < n → f i ≠ f j
  | 0, _, i, j, _, h => by omega
  | n + 1, h, i, j, hij, hj => by
    have le := DL.firstMet_le f n
    rw [PyProof.Rows.firstMet_succ] at h
    unfold PyProof.Rows.step_dedup at h
    split at h
    · omega
    · rename_i hb
      rw [List.length_append, List.length_singleton] at h
      by_cases e : j = n
      · subst e
        intro z
        refine hb (List.any_eq_true.mpr ⟨f i, fm_mem f hij, ?_⟩)
        rw [z]; simp
      · exact fm_len f (n := n) (by omega) i j hij (by omega)
theorem fm_nodup {ns : List Int} : (PyProof.Rows.firstMet (fun i => ns.getD i 0) ns.length).length = ns.length ↔ ns.Nodup := by
  constructor
  · intro h
    have := fm_len _ h
    refine List.pairwise_iff_getElem.mpr fun i j hi hj hij => ?_
    have h2 := this i j hij hj
    simpa [List.getD_eq_getElem?_getD, List.getElem?_eq_getElem hi, List.getElem?_eq_getElem hj] using h2
  · intro h
    have key : ∀ n, n ≤ ns.length → (PyProof.Rows.firstMet (fun i => ns.getD i 0) n).length = n ∧ ∀ x ∈ PyProof.Rows.firstMet (fun i => ns.getD i 0) n, ∃ i, i < n ∧ x = ns.getD i 0 := by
      intro n
      induction n with
      | zero => intro _; exact ⟨rfl, fun x hx => by cases hx⟩
      | succ n ih =>
        intro hn
        obtain ⟨h1, h2⟩ := ih (by omega)
        rw [PyProof.Rows.firstMet_succ]
        unfold PyProof.Rows.step_dedup
        have no : ¬ ((PyProof.Rows.firstMet (fun i => ns.getD i 0) n).any fun x => x == ns.getD n 0) = true := by
          intro hb
          obtain ⟨y, hy, ey⟩ := List.any_eq_true.mp hb
          obtain ⟨i, hi, ei⟩ := h2 y hy
          have ey := eq_of_beq ey
          have := List.pairwise_iff_getElem.mp h i n (by omega) (by omega) hi
          refine this ?_
          rw [ei] at ey
          simpa [List.getD_eq_getElem?_getD, List.getElem?_eq_getElem (show i < ns.length by omega), List.getElem?_eq_getElem (show n < ns.length by omega)] using ey
        rw [if_neg no]
        refine ⟨by rw [List.length_append, h1]; rfl, fun x hx => ?_⟩
        rcases List.mem_append.mp hx with hx | hx
        · obtain ⟨i, hi, e⟩ := h2 x hx
          exact ⟨i, by omega, e⟩
        · exact ⟨n, by omega, List.mem_singleton.mp hx⟩
    exact (key ns.length (Nat.le_refl _)).1
theorem rise_law {ns : List Int} : rise ns = (decide (ns = isort ns) && decide (((PyProof.Rows.firstMet (fun i => ns.getD i 0) ns.length).length : Int) = (ns.length : Int))) := by
  have e : decide (((PyProof.Rows.firstMet (fun i => ns.getD i 0) ns.length).length : Int) = (ns.length : Int)) = decide ns.Nodup := by
    rw [decide_eq_decide, ← fm_nodup]; omega
  rw [e, Bool.eq_iff_iff, rise_pw, Bool.and_eq_true, decide_eq_true_eq, decide_eq_true_eq]
  constructor
  · intro h
    exact ⟨sorted_uniq (h.imp fun h => Int.le_of_lt h) (isort_sorted ns) (isort_perm ns).symm, h.imp fun h => by omega⟩
  · rintro ⟨h1, h2⟩
    have h3 := isort_sorted ns
    rw [← h1] at h3
    exact List.Pairwise.imp₂ (fun {a b} h1 h2 => by omega) h3 h2
theorem r_law_is_sum {T : Tb} (h0 : T.fn 20 = some (1, spWhole)) {ds : List D} {S : Store} {Q : DQ} (h : spSum ds S Q) : denSs T core__law_is_sum (DD Q) (start0 N__law_is_sum.length ds) S := by
  obtain ⟨d, rfl, hd0, hz, q⟩ := h
  cases d <;> first | (cases hd0; done) | skip
  case tup xs =>
    have hd : pds xs = true := hd0
    clear hd0
    rcases xs with _ | ⟨x, _ | ⟨y, _ | ⟨z, r⟩⟩⟩
    · simp only [core__law_is_sum, N__law_is_sum, DD, denSs, denS, den, dens, denO, denT, denI, DV.of, DV.ofB, sSeq, sRet, sRetN, sNext, sIf, sSet, sSetG, sPar, sPar3, sSetIx, sDrop, sFor, sForKeys, sBreak, sCont, dAnd, dOr, dNot, dAndT, dOrT, dNotT, dUn, dOp, dIte, dVar, dC, dTup, dLst, dNil, dCons, dCall, dCut, dPart, dNoPart, dGet1, dGet2, dApp,
  dSeq1, dRange1, dRange2, dEnum, dZip, dLc, dDc, dChain, fIsi, fBlt, fLen, fAbs, fInt1, fMax, fMin, fL1, fTuple, fList, fSorted, fDict, fBin, fCmp, fNeg, fAdd, fSub, fMul, fMod, fDiv, fPow, fInt, fInt0, fLt, fLe, fGt, fGe, fIs, fIsNot, fInD, fIx, fCut, fSeq, fRange1, fRange2, fEnum, fZip, fSetIx, fGet, fApp, fLenSet, fAug, sAug, tOf, tOfB, guardN, gset, gsets, sFrz, frz_dct, frz_lst, fEq_int, fNe_int, fEq_bl, fNe_bl, fEq_nil, fNe_nil, fEq_ints,
  TyC.name, DL.isNon, start0, List.length_cons, List.length_nil, List.map_cons, List.map_nil, List.cons_append, List.nil_append, List.getElem?_cons_zero, List.getElem?_cons_succ, List.getElem?_nil, List.set_cons_zero, List.set_cons_succ, List.set_nil, List.replicate, Nat.reduceSub, Nat.reduceAdd, mkL, mkD, dwipe, Bool.false_eq_true, if_true, if_false, ite_true, ite_false, true_and, and_true, Option.isSome_some, Option.isSome_none, Option.map_some, Option.map_none, Option.getD_some, Option.getD_none,
  tyD_non, tyD_bl, tyD_int, tyD_str, tyD_tup, tyD_lst, tyD_dct, truD_non, truD_bl, truD_int, truD_tup, truD_lst, truD_dct, asL_non, asD_non, keyD_non, asL_bl, asD_bl, keyD_bl, asL_int, asD_int, keyD_int, asL_str, asD_str, keyD_str, asL_tup, asD_tup, keyD_tup, asL_lst, asD_lst, keyD_lst, asL_dct, asD_dct, keyD_dct, asL_scr, asD_scr, keyD_scr, asL_sup, asD_sup, asL_supD, isLs_sup, tyD_supL, tyD_supD, sup_same, sup_sup, ixN_1_0, ixN_2_0, ixN_2_1, ixN_3_0, ixN_3_1, ixN_3_2, ixN_4_0, ixN_4_1, ixN_4_2, ixN_4_3, ixN_5_0, ixN_5_1, ixN_5_2, ixN_5_3, ixN_5_4, ixN_6_0, ixN_6_1, ixN_6_2, ixN_6_3, ixN_6_4, ixN_6_5, ixN_7_0, ixN_7_1, ixN_7_2, ixN_7_3, ixN_7_4, ixN_7_5, ixN_7_6, ixN_8_0, ixN_8_1, ixN_8_2, ixN_8_3, ixN_8_4, ixN_8_5, ixN_8_6, ixN_8_7, atI_0, atI_1, atI_2, atI_3, atI_4, atI_5, atI_6, atI_7, atI_8, isi_NoneType_bool, isi_NoneType_int, isi_NoneType_str, isi_NoneType_tuple, isi_NoneType_list, isi_NoneType_dict, isi_bool_bool, isi_bool_int, isi_bool_str, isi_bool_tuple, isi_bool_list, isi_bool_dict, isi_int_bool, isi_int_int, isi_int_str, isi_int_tuple, isi_int_list, isi_int_dict, isi_str_bool, isi_str_int, isi_str_str, isi_str_tuple, isi_str_list, isi_str_dict, isi_tuple_bool, isi_tuple_int, isi_tuple_str, isi_tuple_tuple, isi_tuple_list, isi_tuple_dict, isi_list_bool, isi_list_int, isi_list_str, isi_list_tuple, isi_list_list, isi_list_dict, isi_dict_bool, isi_dict_int, isi_dict_str, isi_dict_tuple, isi_dict_list, isi_dict_dict, h0, Bool.not_true]
      exact .of q
    · simp only [core__law_is_sum, N__law_is_sum, DD, denSs, denS, den, dens, denO, denT, denI, DV.of, DV.ofB, sSeq, sRet, sRetN, sNext, sIf, sSet, sSetG, sPar, sPar3, sSetIx, sDrop, sFor, sForKeys, sBreak, sCont, dAnd, dOr, dNot, dAndT, dOrT, dNotT, dUn, dOp, dIte, dVar, dC, dTup, dLst, dNil, dCons, dCall, dCut, dPart, dNoPart, dGet1, dGet2, dApp,
  dSeq1, dRange1, dRange2, dEnum, dZip, dLc, dDc, dChain, fIsi, fBlt, fLen, fAbs, fInt1, fMax, fMin, fL1, fTuple, fList, fSorted, fDict, fBin, fCmp, fNeg, fAdd, fSub, fMul, fMod, fDiv, fPow, fInt, fInt0, fLt, fLe, fGt, fGe, fIs, fIsNot, fInD, fIx, fCut, fSeq, fRange1, fRange2, fEnum, fZip, fSetIx, fGet, fApp, fLenSet, fAug, sAug, tOf, tOfB, guardN, gset, gsets, sFrz, frz_dct, frz_lst, fEq_int, fNe_int, fEq_bl, fNe_bl, fEq_nil, fNe_nil, fEq_ints,
  TyC.name, DL.isNon, start0, List.length_cons, List.length_nil, List.map_cons, List.map_nil, List.cons_append, List.nil_append, List.getElem?_cons_zero, List.getElem?_cons_succ, List.getElem?_nil, List.set_cons_zero, List.set_cons_succ, List.set_nil, List.replicate, Nat.reduceSub, Nat.reduceAdd, mkL, mkD, dwipe, Bool.false_eq_true, if_true, if_false, ite_true, ite_false, true_and, and_true, Option.isSome_some, Option.isSome_none, Option.map_some, Option.map_none, Option.getD_some, Option.getD_none,
  tyD_non, tyD_bl, tyD_int, tyD_str, tyD_tup, tyD_lst, tyD_dct, truD_non, truD_bl, truD_int, truD_tup, truD_lst, truD_dct, asL_non, asD_non, keyD_non, asL_bl, asD_bl, keyD_bl, asL_int, asD_int, keyD_int, asL_str, asD_str, keyD_str, asL_tup, asD_tup, keyD_tup, asL_lst, asD_lst, keyD_lst, asL_dct, asD_dct, keyD_dct, asL_scr, asD_scr, keyD_scr, asL_sup, asD_sup, asL_supD, isLs_sup, tyD_supL, tyD_supD, sup_same, sup_sup, ixN_1_0, ixN_2_0, ixN_2_1, ixN_3_0, ixN_3_1, ixN_3_2, ixN_4_0, ixN_4_1, ixN_4_2, ixN_4_3, ixN_5_0, ixN_5_1, ixN_5_2, ixN_5_3, ixN_5_4, ixN_6_0, ixN_6_1, ixN_6_2, ixN_6_3, ixN_6_4, ixN_6_5, ixN_7_0, ixN_7_1, ixN_7_2, ixN_7_3, ixN_7_4, ixN_7_5, ixN_7_6, ixN_8_0, ixN_8_1, ixN_8_2, ixN_8_3, ixN_8_4, ixN_8_5, ixN_8_6, ixN_8_7, atI_0, atI_1, atI_2, atI_3, atI_4, atI_5, atI_6, atI_7, atI_8, isi_NoneType_bool, isi_NoneType_int, isi_NoneType_str, isi_NoneType_tuple, isi_NoneType_list, isi_NoneType_dict, isi_bool_bool, isi_bool_int, isi_bool_str, isi_bool_tuple, isi_bool_list, isi_bool_dict, isi_int_bool, isi_int_int, isi_int_str, isi_int_tuple, isi_int_list, isi_int_dict, isi_str_bool, isi_str_int, isi_str_str, isi_str_tuple, isi_str_list, isi_str_dict, isi_tuple_bool, isi_tuple_int, isi_tuple_str, isi_tuple_tuple, isi_tuple_list, isi_tuple_dict, isi_list_bool, isi_list_int, isi_list_str, isi_list_tuple, isi_list_list, isi_list_dict, isi_dict_bool, isi_dict_int, isi_dict_str, isi_dict_tuple, isi_dict_list, isi_dict_dict, h0, Bool.not_true]
      have e : isSum (.tup [x]) = false := by cases x <;> rfl
      rw [e] at q
      exact .of q
    · simp only [core__law_is_sum, N__law_is_sum, DD, denSs, denS, den, dens, denO, denT, denI, DV.of, DV.ofB, sSeq, sRet, sRetN, sNext, sIf, sSet, sSetG, sPar, sPar3, sSetIx, sDrop, sFor, sForKeys, sBreak, sCont, dAnd, dOr, dNot, dAndT, dOrT, dNotT, dUn, dOp, dIte, dVar, dC, dTup, dLst, dNil, dCons, dCall, dCut, dPart, dNoPart, dGet1, dGet2, dApp,
  dSeq1, dRange1, dRange2, dEnum, dZip, dLc, dDc, dChain, fIsi, fBlt, fLen, fAbs, fInt1, fMax, fMin, fL1, fTuple, fList, fSorted, fDict, fBin, fCmp, fNeg, fAdd, fSub, fMul, fMod, fDiv, fPow, fInt, fInt0, fLt, fLe, fGt, fGe, fIs, fIsNot, fInD, fIx, fCut, fSeq, fRange1, fRange2, fEnum, fZip, fSetIx, fGet, fApp, fLenSet, fAug, sAug, tOf, tOfB, guardN, gset, gsets, sFrz, frz_dct, frz_lst, fEq_int, fNe_int, fEq_bl, fNe_bl, fEq_nil, fNe_nil, fEq_ints,
  TyC.name, DL.isNon, start0, List.length_cons, List.length_nil, List.map_cons, List.map_nil, List.cons_append, List.nil_append, List.getElem?_cons_zero, List.getElem?_cons_succ, List.getElem?_nil, List.set_cons_zero, List.set_cons_succ, List.set_nil, List.replicate, Nat.reduceSub, Nat.reduceAdd, mkL, mkD, dwipe, Bool.false_eq_true, if_true, if_false, ite_true, ite_false, true_and, and_true, Option.isSome_some, Option.isSome_none, Option.map_some, Option.map_none, Option.getD_some, Option.getD_none,
  tyD_non, tyD_bl, tyD_int, tyD_str, tyD_tup, tyD_lst, tyD_dct, truD_non, truD_bl, truD_int, truD_tup, truD_lst, truD_dct, asL_non, asD_non, keyD_non, asL_bl, asD_bl, keyD_bl, asL_int, asD_int, keyD_int, asL_str, asD_str, keyD_str, asL_tup, asD_tup, keyD_tup, asL_lst, asD_lst, keyD_lst, asL_dct, asD_dct, keyD_dct, asL_scr, asD_scr, keyD_scr, asL_sup, asD_sup, asL_supD, isLs_sup, tyD_supL, tyD_supD, sup_same, sup_sup, ixN_1_0, ixN_2_0, ixN_2_1, ixN_3_0, ixN_3_1, ixN_3_2, ixN_4_0, ixN_4_1, ixN_4_2, ixN_4_3, ixN_5_0, ixN_5_1, ixN_5_2, ixN_5_3, ixN_5_4, ixN_6_0, ixN_6_1, ixN_6_2, ixN_6_3, ixN_6_4, ixN_6_5, ixN_7_0, ixN_7_1, ixN_7_2, ixN_7_3, ixN_7_4, ixN_7_5, ixN_7_6, ixN_8_0, ixN_8_1, ixN_8_2, ixN_8_3, ixN_8_4, ixN_8_5, ixN_8_6, ixN_8_7, atI_0, atI_1, atI_2, atI_3, atI_4, atI_5, atI_6, atI_7, atI_8, isi_NoneType_bool, isi_NoneType_int, isi_NoneType_str, isi_NoneType_tuple, isi_NoneType_list, isi_NoneType_dict, isi_bool_bool, isi_bool_int, isi_bool_str, isi_bool_tuple, isi_bool_list, isi_bool_dict, isi_int_bool, isi_int_int, isi_int_str, isi_int_tuple, isi_int_list, isi_int_dict, isi_str_bool, isi_str_int, isi_str_str, isi_str_tuple, isi_str_list, isi_str_dict, isi_tuple_bool, isi_tuple_int, isi_tuple_str, isi_tuple_tuple, isi_tuple_list, isi_tuple_dict, isi_list_bool, isi_list_int, isi_list_str, isi_list_tuple, isi_list_list, isi_list_dict, isi_dict_bool, isi_dict_int, isi_dict_str, isi_dict_tuple, isi_dict_list, isi_dict_dict, h0, Bool.not_true]
      rw [if_neg (by decide)]
      have hx : pd x = true ∧ pd y = true := by simpa [pds] using hd
      refine ⟨_, rfl, hx.1, ?_⟩
      cases x <;> first | (cases hx.1; done) | (simp only [wh, denSs, denS, den, dens, denO, denT, denI, DV.of, DV.ofB, sSeq, sRet, sRetN, sNext, sIf, sSet, sSetG, sPar, sPar3, sSetIx, sDrop, sFor, sForKeys, sBreak, sCont, dAnd, dOr, dNot, dAndT, dOrT, dNotT, dUn, dOp, dIte, dVar, dC, dTup, dLst, dNil, dCons, dCall, dCut, dPart, dNoPart, dGet1, dGet2, dApp,
  dSeq1, dRange1, dRange2, dEnum, dZip, dLc, dDc, dChain, fIsi, fBlt, fLen, fAbs, fInt1, fMax, fMin, fL1, fTuple, fList, fSorted, fDict, fBin, fCmp, fNeg, fAdd, fSub, fMul, fMod, fDiv, fPow, fInt, fInt0, fLt, fLe, fGt, fGe, fIs, fIsNot, fInD, fIx, fCut, fSeq, fRange1, fRange2, fEnum, fZip, fSetIx, fGet, fApp, fLenSet, fAug, sAug, tOf, tOfB, guardN, gset, gsets, sFrz, frz_dct, frz_lst, fEq_int, fNe_int, fEq_bl, fNe_bl, fEq_nil, fNe_nil, fEq_ints,
  TyC.name, DL.isNon, start0, List.length_cons, List.length_nil, List.map_cons, List.map_nil, List.cons_append, List.nil_append, List.getElem?_cons_zero, List.getElem?_cons_succ, List.getElem?_nil, List.set_cons_zero, List.set_cons_succ, List.set_nil, List.replicate, Nat.reduceSub, Nat.reduceAdd, mkL, mkD, dwipe, Bool.false_eq_true, if_true, if_false, ite_true, ite_false, true_and, and_true, Option.isSome_some, Option.isSome_none, Option.map_some, Option.map_none, Option.getD_some, Option.getD_none,
  tyD_non, tyD_bl, tyD_int, tyD_str, tyD_tup, tyD_lst, tyD_dct, truD_non, truD_bl, truD_int, truD_tup, truD_lst, truD_dct, asL_non, asD_non, keyD_non, asL_bl, asD_bl, keyD_bl, asL_int, asD_int, keyD_int, asL_str, asD_str, keyD_str, asL_tup, asD_tup, keyD_tup, asL_lst, asD_lst, keyD_lst, asL_dct, asD_dct, keyD_dct, asL_scr, asD_scr, keyD_scr, asL_sup, asD_sup, asL_supD, isLs_sup, tyD_supL, tyD_supD, sup_same, sup_sup, ixN_1_0, ixN_2_0, ixN_2_1, ixN_3_0, ixN_3_1, ixN_3_2, ixN_4_0, ixN_4_1, ixN_4_2, ixN_4_3, ixN_5_0, ixN_5_1, ixN_5_2, ixN_5_3, ixN_5_4, ixN_6_0, ixN_6_1, ixN_6_2, ixN_6_3, ixN_6_4, ixN_6_5, ixN_7_0, ixN_7_1, ixN_7_2, ixN_7_3, ixN_7_4, ixN_7_5, ixN_7_6, ixN_8_0, ixN_8_1, ixN_8_2, ixN_8_3, ixN_8_4, ixN_8_5, ixN_8_6, ixN_8_7, atI_0, atI_1, atI_2, atI_3, atI_4, atI_5, atI_6, atI_7, atI_8, isi_NoneType_bool, isi_NoneType_int, isi_NoneType_str, isi_NoneType_tuple, isi_NoneType_list, isi_NoneType_dict, isi_bool_bool, isi_bool_int, isi_bool_str, isi_bool_tuple, isi_bool_list, isi_bool_dict, isi_int_bool, isi_int_int, isi_int_str, isi_int_tuple, isi_int_list, isi_int_dict, isi_str_bool, isi_str_int, isi_str_str, isi_str_tuple, isi_str_list, isi_str_dict, isi_tuple_bool, isi_tuple_int, isi_tuple_str, isi_tuple_tuple, isi_tuple_list, isi_tuple_dict, isi_list_bool, isi_list_int, isi_list_str, isi_list_tuple, isi_list_list, isi_list_dict, isi_dict_bool, isi_dict_int, isi_dict_str, isi_dict_tuple, isi_dict_list, isi_dict_dict, Bool.not_false]; exact .of q) | skip
      rename_i a
      simp only [wh, denSs, denS, den, dens, denO, denT, denI, DV.of, DV.ofB, sSeq, sRet, sRetN, sNext, sIf, sSet, sSetG, sPar, sPar3, sSetIx, sDrop, sFor, sForKeys, sBreak, sCont, dAnd, dOr, dNot, dAndT, dOrT, dNotT, dUn, dOp, dIte, dVar, dC, dTup, dLst, dNil, dCons, dCall, dCut, dPart, dNoPart, dGet1, dGet2, dApp,
  dSeq1, dRange1, dRange2, dEnum, dZip, dLc, dDc, dChain, fIsi, fBlt, fLen, fAbs, fInt1, fMax, fMin, fL1, fTuple, fList, fSorted, fDict, fBin, fCmp, fNeg, fAdd, fSub, fMul, fMod, fDiv, fPow, fInt, fInt0, fLt, fLe, fGt, fGe, fIs, fIsNot, fInD, fIx, fCut, fSeq, fRange1, fRange2, fEnum, fZip, fSetIx, fGet, fApp, fLenSet, fAug, sAug, tOf, tOfB, guardN, gset, gsets, sFrz, frz_dct, frz_lst, fEq_int, fNe_int, fEq_bl, fNe_bl, fEq_nil, fNe_nil, fEq_ints,
  TyC.name, DL.isNon, start0, List.length_cons, List.length_nil, List.map_cons, List.map_nil, List.cons_append, List.nil_append, List.getElem?_cons_zero, List.getElem?_cons_succ, List.getElem?_nil, List.set_cons_zero, List.set_cons_succ, List.set_nil, List.replicate, Nat.reduceSub, Nat.reduceAdd, mkL, mkD, dwipe, Bool.false_eq_true, if_true, if_false, ite_true, ite_false, true_and, and_true, Option.isSome_some, Option.isSome_none, Option.map_some, Option.map_none, Option.getD_some, Option.getD_none,
  tyD_non, tyD_bl, tyD_int, tyD_str, tyD_tup, tyD_lst, tyD_dct, truD_non, truD_bl, truD_int, truD_tup, truD_lst, truD_dct, asL_non, asD_non, keyD_non, asL_bl, asD_bl, keyD_bl, asL_int, asD_int, keyD_int, asL_str, asD_str, keyD_str, asL_tup, asD_tup, keyD_tup, asL_lst, asD_lst, keyD_lst, asL_dct, asD_dct, keyD_dct, asL_scr, asD_scr, keyD_scr, asL_sup, asD_sup, asL_supD, isLs_sup, tyD_supL, tyD_supD, sup_same, sup_sup, ixN_1_0, ixN_2_0, ixN_2_1, ixN_3_0, ixN_3_1, ixN_3_2, ixN_4_0, ixN_4_1, ixN_4_2, ixN_4_3, ixN_5_0, ixN_5_1, ixN_5_2, ixN_5_3, ixN_5_4, ixN_6_0, ixN_6_1, ixN_6_2, ixN_6_3, ixN_6_4, ixN_6_5, ixN_7_0, ixN_7_1, ixN_7_2, ixN_7_3, ixN_7_4, ixN_7_5, ixN_7_6, ixN_8_0, ixN_8_1, ixN_8_2, ixN_8_3, ixN_8_4, ixN_8_5, ixN_8_6, ixN_8_7, atI_0, atI_1, atI_2, atI_3, atI_4, atI_5, atI_6, atI_7, atI_8, isi_NoneType_bool, isi_NoneType_int, isi_NoneType_str, isi_NoneType_tuple, isi_NoneType_list, isi_NoneType_dict, isi_bool_bool, isi_bool_int, isi_bool_str, isi_bool_tuple, isi_bool_list, isi_bool_dict, isi_int_bool, isi_int_int, isi_int_str, isi_int_tuple, isi_int_list, isi_int_dict, isi_str_bool, isi_str_int, isi_str_str, isi_str_tuple, isi_str_list, isi_str_dict, isi_tuple_bool, isi_tuple_int, isi_tuple_str, isi_tuple_tuple, isi_tuple_list, isi_tuple_dict, isi_list_bool, isi_list_int, isi_list_str, isi_list_tuple, isi_list_list, isi_list_dict, isi_dict_bool, isi_dict_int, isi_dict_str, isi_dict_tuple, isi_dict_list, isi_dict_dict, Bool.not_true]
      cases y <;> first | (cases hx.2; done) | (simp only [wh, denSs, denS, den, dens, denO, denT, denI, DV.of, DV.ofB, sSeq, sRet, sRetN, sNext, sIf, sSet, sSetG, sPar, sPar3, sSetIx, sDrop, sFor, sForKeys, sBreak, sCont, dAnd, dOr, dNot, dAndT, dOrT, dNotT, dUn, dOp, dIte, dVar, dC, dTup, dLst, dNil, dCons, dCall, dCut, dPart, dNoPart, dGet1, dGet2, dApp,
  dSeq1, dRange1, dRange2, dEnum, dZip, dLc, dDc, dChain, fIsi, fBlt, fLen, fAbs, fInt1, fMax, fMin, fL1, fTuple, fList, fSorted, fDict, fBin, fCmp, fNeg, fAdd, fSub, fMul, fMod, fDiv, fPow, fInt, fInt0, fLt, fLe, fGt, fGe, fIs, fIsNot, fInD, fIx, fCut, fSeq, fRange1, fRange2, fEnum, fZip, fSetIx, fGet, fApp, fLenSet, fAug, sAug, tOf, tOfB, guardN, gset, gsets, sFrz, frz_dct, frz_lst, fEq_int, fNe_int, fEq_bl, fNe_bl, fEq_nil, fNe_nil, fEq_ints,
  TyC.name, DL.isNon, start0, List.length_cons, List.length_nil, List.map_cons, List.map_nil, List.cons_append, List.nil_append, List.getElem?_cons_zero, List.getElem?_cons_succ, List.getElem?_nil, List.set_cons_zero, List.set_cons_succ, List.set_nil, List.replicate, Nat.reduceSub, Nat.reduceAdd, mkL, mkD, dwipe, Bool.false_eq_true, if_true, if_false, ite_true, ite_false, true_and, and_true, Option.isSome_some, Option.isSome_none, Option.map_some, Option.map_none, Option.getD_some, Option.getD_none,
  tyD_non, tyD_bl, tyD_int, tyD_str, tyD_tup, tyD_lst, tyD_dct, truD_non, truD_bl, truD_int, truD_tup, truD_lst, truD_dct, asL_non, asD_non, keyD_non, asL_bl, asD_bl, keyD_bl, asL_int, asD_int, keyD_int, asL_str, asD_str, keyD_str, asL_tup, asD_tup, keyD_tup, asL_lst, asD_lst, keyD_lst, asL_dct, asD_dct, keyD_dct, asL_scr, asD_scr, keyD_scr, asL_sup, asD_sup, asL_supD, isLs_sup, tyD_supL, tyD_supD, sup_same, sup_sup, ixN_1_0, ixN_2_0, ixN_2_1, ixN_3_0, ixN_3_1, ixN_3_2, ixN_4_0, ixN_4_1, ixN_4_2, ixN_4_3, ixN_5_0, ixN_5_1, ixN_5_2, ixN_5_3, ixN_5_4, ixN_6_0, ixN_6_1, ixN_6_2, ixN_6_3, ixN_6_4, ixN_6_5, ixN_7_0, ixN_7_1, ixN_7_2, ixN_7_3, ixN_7_4, ixN_7_5, ixN_7_6, ixN_8_0, ixN_8_1, ixN_8_2, ixN_8_3, ixN_8_4, ixN_8_5, ixN_8_6, ixN_8_7, atI_0, atI_1, atI_2, atI_3, atI_4, atI_5, atI_6, atI_7, atI_8, isi_NoneType_bool, isi_NoneType_int, isi_NoneType_str, isi_NoneType_tuple, isi_NoneType_list, isi_NoneType_dict, isi_bool_bool, isi_bool_int, isi_bool_str, isi_bool_tuple, isi_bool_list, isi_bool_dict, isi_int_bool, isi_int_int, isi_int_str, isi_int_tuple, isi_int_list, isi_int_dict, isi_str_bool, isi_str_int, isi_str_str, isi_str_tuple, isi_str_list, isi_str_dict, isi_tuple_bool, isi_tuple_int, isi_tuple_str, isi_tuple_tuple, isi_tuple_list, isi_tuple_dict, isi_list_bool, isi_list_int, isi_list_str, isi_list_tuple, isi_list_list, isi_list_dict, isi_dict_bool, isi_dict_int, isi_dict_str, isi_dict_tuple, isi_dict_list, isi_dict_dict, Bool.not_true, Bool.not_false]; exact .of q) | skip
      rename_i ps
      simp only [wh, denSs, denS, den, dens, denO, denT, denI, DV.of, DV.ofB, sSeq, sRet, sRetN, sNext, sIf, sSet, sSetG, sPar, sPar3, sSetIx, sDrop, sFor, sForKeys, sBreak, sCont, dAnd, dOr, dNot, dAndT, dOrT, dNotT, dUn, dOp, dIte, dVar, dC, dTup, dLst, dNil, dCons, dCall, dCut, dPart, dNoPart, dGet1, dGet2, dApp,
  dSeq1, dRange1, dRange2, dEnum, dZip, dLc, dDc, dChain, fIsi, fBlt, fLen, fAbs, fInt1, fMax, fMin, fL1, fTuple, fList, fSorted, fDict, fBin, fCmp, fNeg, fAdd, fSub, fMul, fMod, fDiv, fPow, fInt, fInt0, fLt, fLe, fGt, fGe, fIs, fIsNot, fInD, fIx, fCut, fSeq, fRange1, fRange2, fEnum, fZip, fSetIx, fGet, fApp, fLenSet, fAug, sAug, tOf, tOfB, guardN, gset, gsets, sFrz, frz_dct, frz_lst, fEq_int, fNe_int, fEq_bl, fNe_bl, fEq_nil, fNe_nil, fEq_ints,
  TyC.name, DL.isNon, start0, List.length_cons, List.length_nil, List.map_cons, List.map_nil, List.cons_append, List.nil_append, List.getElem?_cons_zero, List.getElem?_cons_succ, List.getElem?_nil, List.set_cons_zero, List.set_cons_succ, List.set_nil, List.replicate, Nat.reduceSub, Nat.reduceAdd, mkL, mkD, dwipe, Bool.false_eq_true, if_true, if_false, ite_true, ite_false, true_and, and_true, Option.isSome_some, Option.isSome_none, Option.map_some, Option.map_none, Option.getD_some, Option.getD_none,
  tyD_non, tyD_bl, tyD_int, tyD_str, tyD_tup, tyD_lst, tyD_dct, truD_non, truD_bl, truD_int, truD_tup, truD_lst, truD_dct, asL_non, asD_non, keyD_non, asL_bl, asD_bl, keyD_bl, asL_int, asD_int, keyD_int, asL_str, asD_str, keyD_str, asL_tup, asD_tup, keyD_tup, asL_lst, asD_lst, keyD_lst, asL_dct, asD_dct, keyD_dct, asL_scr, asD_scr, keyD_scr, asL_sup, asD_sup, asL_supD, isLs_sup, tyD_supL, tyD_supD, sup_same, sup_sup, ixN_1_0, ixN_2_0, ixN_2_1, ixN_3_0, ixN_3_1, ixN_3_2, ixN_4_0, ixN_4_1, ixN_4_2, ixN_4_3, ixN_5_0, ixN_5_1, ixN_5_2, ixN_5_3, ixN_5_4, ixN_6_0, ixN_6_1, ixN_6_2, ixN_6_3, ixN_6_4, ixN_6_5, ixN_7_0, ixN_7_1, ixN_7_2, ixN_7_3, ixN_7_4, ixN_7_5, ixN_7_6, ixN_8_0, ixN_8_1, ixN_8_2, ixN_8_3, ixN_8_4, ixN_8_5, ixN_8_6, ixN_8_7, atI_0, atI_1, atI_2, atI_3, atI_4, atI_5, atI_6, atI_7, atI_8, isi_NoneType_bool, isi_NoneType_int, isi_NoneType_str, isi_NoneType_tuple, isi_NoneType_list, isi_NoneType_dict, isi_bool_bool, isi_bool_int, isi_bool_str, isi_bool_tuple, isi_bool_list, isi_bool_dict, isi_int_bool, isi_int_int, isi_int_str, isi_int_tuple, isi_int_list, isi_int_dict, isi_str_bool, isi_str_int, isi_str_str, isi_str_tuple, isi_str_list, isi_str_dict, isi_tuple_bool, isi_tuple_int, isi_tuple_str, isi_tuple_tuple, isi_tuple_list, isi_tuple_dict, isi_list_bool, isi_list_int, isi_list_str, isi_list_tuple, isi_list_list, isi_list_dict, isi_dict_bool, isi_dict_int, isi_dict_str, isi_dict_tuple, isi_dict_list, isi_dict_dict, Bool.not_true, Bool.not_false]
      have hps : pds ps = true := hx.2
      have hz := hz _ _ rfl
      have bad : ∀ {x : D}, x ∈ ps → isPair x = false → Q (.bl false) S := fun {x} hx hp => by
        have e2 : isSum (.tup [.int a, .tup ps]) = (match asPs ps with | some ps => rise (ps.map (·.1)) | none => false) := rfl
        have e3 : ps.all isPair = false := by
          rw [Bool.eq_false_iff]
          intro z
          rw [List.all_eq_true.mp z x hx] at hp
          cases hp
        rw [asPs_all] at e3
        rw [e2] at q
        cases ea : asPs ps with
        | none => rw [ea] at q; exact q
        | some pp => rw [ea] at e3; cases e3
      refine forL_ind (fun xs sd S' => S' = S ∧ ∃ done o, sd = [some (.tup [.int a, .tup ps]), o, none] ∧ ps = done ++ xs ∧ done.all isPair = true) ?_ ?_ ps _ S ⟨rfl, [], _, rfl, rfl, rfl⟩
      · rintro x xs sd S' ⟨rfl, done, o, rfl, e, hdn⟩
        have hm : x ∈ ps := by rw [e]; simp
        have hpx := pds_all hps x hm
        have bad : isPair x = false → Q (.bl false) S' := fun h => bad hm h
        refine ⟨trivial, _, rfl, fun K hK => ?_⟩
        have cont : isPair x = true → K [some (.tup [.int a, .tup ps]), some x, none] S' := fun h => hK _ _ ⟨rfl, done ++ [x], some x, rfl, by rw [e]; simp, by rw [List.all_append, hdn]; simp [h]⟩
        clear hK hm e q hz
        cases x <;> first | (cases hpx; done) | (simp only [denSs, denS, den, dens, denO, denT, denI, DV.of, DV.ofB, sSeq, sRet, sRetN, sNext, sIf, sSet, sSetG, sPar, sPar3, sSetIx, sDrop, sFor, sForKeys, sBreak, sCont, dAnd, dOr, dNot, dAndT, dOrT, dNotT, dUn, dOp, dIte, dVar, dC, dTup, dLst, dNil, dCons, dCall, dCut, dPart, dNoPart, dGet1, dGet2, dApp,
  dSeq1, dRange1, dRange2, dEnum, dZip, dLc, dDc, dChain, fIsi, fBlt, fLen, fAbs, fInt1, fMax, fMin, fL1, fTuple, fList, fSorted, fDict, fBin, fCmp, fNeg, fAdd, fSub, fMul, fMod, fDiv, fPow, fInt, fInt0, fLt, fLe, fGt, fGe, fIs, fIsNot, fInD, fIx, fCut, fSeq, fRange1, fRange2, fEnum, fZip, fSetIx, fGet, fApp, fLenSet, fAug, sAug, tOf, tOfB, guardN, gset, gsets, sFrz, frz_dct, frz_lst, fEq_int, fNe_int, fEq_bl, fNe_bl, fEq_nil, fNe_nil, fEq_ints,
  TyC.name, DL.isNon, start0, List.length_cons, List.length_nil, List.map_cons, List.map_nil, List.cons_append, List.nil_append, List.getElem?_cons_zero, List.getElem?_cons_succ, List.getElem?_nil, List.set_cons_zero, List.set_cons_succ, List.set_nil, List.replicate, Nat.reduceSub, Nat.reduceAdd, mkL, mkD, dwipe, Bool.false_eq_true, if_true, if_false, ite_true, ite_false, true_and, and_true, Option.isSome_some, Option.isSome_none, Option.map_some, Option.map_none, Option.getD_some, Option.getD_none,
  tyD_non, tyD_bl, tyD_int, tyD_str, tyD_tup, tyD_lst, tyD_dct, truD_non, truD_bl, truD_int, truD_tup, truD_lst, truD_dct, asL_non, asD_non, keyD_non, asL_bl, asD_bl, keyD_bl, asL_int, asD_int, keyD_int, asL_str, asD_str, keyD_str, asL_tup, asD_tup, keyD_tup, asL_lst, asD_lst, keyD_lst, asL_dct, asD_dct, keyD_dct, asL_scr, asD_scr, keyD_scr, asL_sup, asD_sup, asL_supD, isLs_sup, tyD_supL, tyD_supD, sup_same, sup_sup, ixN_1_0, ixN_2_0, ixN_2_1, ixN_3_0, ixN_3_1, ixN_3_2, ixN_4_0, ixN_4_1, ixN_4_2, ixN_4_3, ixN_5_0, ixN_5_1, ixN_5_2, ixN_5_3, ixN_5_4, ixN_6_0, ixN_6_1, ixN_6_2, ixN_6_3, ixN_6_4, ixN_6_5, ixN_7_0, ixN_7_1, ixN_7_2, ixN_7_3, ixN_7_4, ixN_7_5, ixN_7_6, ixN_8_0, ixN_8_1, ixN_8_2, ixN_8_3, ixN_8_4, ixN_8_5, ixN_8_6, ixN_8_7, atI_0, atI_1, atI_2, atI_3, atI_4, atI_5, atI_6, atI_7, atI_8, isi_NoneType_bool, isi_NoneType_int, isi_NoneType_str, isi_NoneType_tuple, isi_NoneType_list, isi_NoneType_dict, isi_bool_bool, isi_bool_int, isi_bool_str, isi_bool_tuple, isi_bool_list, isi_bool_dict, isi_int_bool, isi_int_int, isi_int_str, isi_int_tuple, isi_int_list, isi_int_dict, isi_str_bool, isi_str_int, isi_str_str, isi_str_tuple, isi_str_list, isi_str_dict, isi_tuple_bool, isi_tuple_int, isi_tuple_str, isi_tuple_tuple, isi_tuple_list, isi_tuple_dict, isi_list_bool, isi_list_int, isi_list_str, isi_list_tuple, isi_list_list, isi_list_dict, isi_dict_bool, isi_dict_int, isi_dict_str, isi_dict_tuple, isi_dict_list, isi_dict_dict, Bool.not_false]; exact .of (bad rfl)) | skip
        rename_i us
        have hus : pds us = true := hpx
        rcases us with _ | ⟨u, _ | ⟨v, _ | ⟨z, r⟩⟩⟩
        · simp only [denSs, denS, den, dens, denO, denT, denI, DV.of, DV.ofB, sSeq, sRet, sRetN, sNext, sIf, sSet, sSetG, sPar, sPar3, sSetIx, sDrop, sFor, sForKeys, sBreak, sCont, dAnd, dOr, dNot, dAndT, dOrT, dNotT, dUn, dOp, dIte, dVar, dC, dTup, dLst, dNil, dCons, dCall, dCut, dPart, dNoPart, dGet1, dGet2, dApp,
  dSeq1, dRange1, dRange2, dEnum, dZip, dLc, dDc, dChain, fIsi, fBlt, fLen, fAbs, fInt1, fMax, fMin, fL1, fTuple, fList, fSorted, fDict, fBin, fCmp, fNeg, fAdd, fSub, fMul, fMod, fDiv, fPow, fInt, fInt0, fLt, fLe, fGt, fGe, fIs, fIsNot, fInD, fIx, fCut, fSeq, fRange1, fRange2, fEnum, fZip, fSetIx, fGet, fApp, fLenSet, fAug, sAug, tOf, tOfB, guardN, gset, gsets, sFrz, frz_dct, frz_lst, fEq_int, fNe_int, fEq_bl, fNe_bl, fEq_nil, fNe_nil, fEq_ints,
  TyC.name, DL.isNon, start0, List.length_cons, List.length_nil, List.map_cons, List.map_nil, List.cons_append, List.nil_append, List.getElem?_cons_zero, List.getElem?_cons_succ, List.getElem?_nil, List.set_cons_zero, List.set_cons_succ, List.set_nil, List.replicate, Nat.reduceSub, Nat.reduceAdd, mkL, mkD, dwipe, Bool.false_eq_true, if_true, if_false, ite_true, ite_false, true_and, and_true, Option.isSome_some, Option.isSome_none, Option.map_some, Option.map_none, Option.getD_some, Option.getD_none,
  tyD_non, tyD_bl, tyD_int, tyD_str, tyD_tup, tyD_lst, tyD_dct, truD_non, truD_bl, truD_int, truD_tup, truD_lst, truD_dct, asL_non, asD_non, keyD_non, asL_bl, asD_bl, keyD_bl, asL_int, asD_int, keyD_int, asL_str, asD_str, keyD_str, asL_tup, asD_tup, keyD_tup, asL_lst, asD_lst, keyD_lst, asL_dct, asD_dct, keyD_dct, asL_scr, asD_scr, keyD_scr, asL_sup, asD_sup, asL_supD, isLs_sup, tyD_supL, tyD_supD, sup_same, sup_sup, ixN_1_0, ixN_2_0, ixN_2_1, ixN_3_0, ixN_3_1, ixN_3_2, ixN_4_0, ixN_4_1, ixN_4_2, ixN_4_3, ixN_5_0, ixN_5_1, ixN_5_2, ixN_5_3, ixN_5_4, ixN_6_0, ixN_6_1, ixN_6_2, ixN_6_3, ixN_6_4, ixN_6_5, ixN_7_0, ixN_7_1, ixN_7_2, ixN_7_3, ixN_7_4, ixN_7_5, ixN_7_6, ixN_8_0, ixN_8_1, ixN_8_2, ixN_8_3, ixN_8_4, ixN_8_5, ixN_8_6, ixN_8_7, atI_0, atI_1, atI_2, atI_3, atI_4, atI_5, atI_6, atI_7, atI_8, isi_NoneType_bool, isi_NoneType_int, isi_NoneType_str, isi_NoneType_tuple, isi_NoneType_list, isi_NoneType_dict, isi_bool_bool, isi_bool_int, isi_bool_str, isi_bool_tuple, isi_bool_list, isi_bool_dict, isi_int_bool, isi_int_int, isi_int_str, isi_int_tuple, isi_int_list, isi_int_dict, isi_str_bool, isi_str_int, isi_str_str, isi_str_tuple, isi_str_list, isi_str_dict, isi_tuple_bool, isi_tuple_int, isi_tuple_str, isi_tuple_tuple, isi_tuple_list, isi_tuple_dict, isi_list_bool, isi_list_int, isi_list_str, isi_list_tuple, isi_list_list, isi_list_dict, isi_dict_bool, isi_dict_int, isi_dict_str, isi_dict_tuple, isi_dict_list, isi_dict_dict, Bool.not_true]; exact .of (bad rfl)
        · simp only [denSs, denS, den, dens, denO, denT, denI, DV.of, DV.ofB, sSeq, sRet, sRetN, sNext, sIf, sSet, sSetG, sPar, sPar3, sSetIx, sDrop, sFor, sForKeys, sBreak, sCont, dAnd, dOr, dNot, dAndT, dOrT, dNotT, dUn, dOp, dIte, dVar, dC, dTup, dLst, dNil, dCons, dCall, dCut, dPart, dNoPart, dGet1, dGet2, dApp,
  dSeq1, dRange1, dRange2, dEnum, dZip, dLc, dDc, dChain, fIsi, fBlt, fLen, fAbs, fInt1, fMax, fMin, fL1, fTuple, fList, fSorted, fDict, fBin, fCmp, fNeg, fAdd, fSub, fMul, fMod, fDiv, fPow, fInt, fInt0, fLt, fLe, fGt, fGe, fIs, fIsNot, fInD, fIx, fCut, fSeq, fRange1, fRange2, fEnum, fZip, fSetIx, fGet, fApp, fLenSet, fAug, sAug, tOf, tOfB, guardN, gset, gsets, sFrz, frz_dct, frz_lst, fEq_int, fNe_int, fEq_bl, fNe_bl, fEq_nil, fNe_nil, fEq_ints,
  TyC.name, DL.isNon, start0, List.length_cons, List.length_nil, List.map_cons, List.map_nil, List.cons_append, List.nil_append, List.getElem?_cons_zero, List.getElem?_cons_succ, List.getElem?_nil, List.set_cons_zero, List.set_cons_succ, List.set_nil, List.replicate, Nat.reduceSub, Nat.reduceAdd, mkL, mkD, dwipe, Bool.false_eq_true, if_true, if_false, ite_true, ite_false, true_and, and_true, Option.isSome_some, Option.isSome_none, Option.map_some, Option.map_none, Option.getD_some, Option.getD_none,
  tyD_non, tyD_bl, tyD_int, tyD_str, tyD_tup, tyD_lst, tyD_dct, truD_non, truD_bl, truD_int, truD_tup, truD_lst, truD_dct, asL_non, asD_non, keyD_non, asL_bl, asD_bl, keyD_bl, asL_int, asD_int, keyD_int, asL_str, asD_str, keyD_str, asL_tup, asD_tup, keyD_tup, asL_lst, asD_lst, keyD_lst, asL_dct, asD_dct, keyD_dct, asL_scr, asD_scr, keyD_scr, asL_sup, asD_sup, asL_supD, isLs_sup, tyD_supL, tyD_supD, sup_same, sup_sup, ixN_1_0, ixN_2_0, ixN_2_1, ixN_3_0, ixN_3_1, ixN_3_2, ixN_4_0, ixN_4_1, ixN_4_2, ixN_4_3, ixN_5_0, ixN_5_1, ixN_5_2, ixN_5_3, ixN_5_4, ixN_6_0, ixN_6_1, ixN_6_2, ixN_6_3, ixN_6_4, ixN_6_5, ixN_7_0, ixN_7_1, ixN_7_2, ixN_7_3, ixN_7_4, ixN_7_5, ixN_7_6, ixN_8_0, ixN_8_1, ixN_8_2, ixN_8_3, ixN_8_4, ixN_8_5, ixN_8_6, ixN_8_7, atI_0, atI_1, atI_2, atI_3, atI_4, atI_5, atI_6, atI_7, atI_8, isi_NoneType_bool, isi_NoneType_int, isi_NoneType_str, isi_NoneType_tuple, isi_NoneType_list, isi_NoneType_dict, isi_bool_bool, isi_bool_int, isi_bool_str, isi_bool_tuple, isi_bool_list, isi_bool_dict, isi_int_bool, isi_int_int, isi_int_str, isi_int_tuple, isi_int_list, isi_int_dict, isi_str_bool, isi_str_int, isi_str_str, isi_str_tuple, isi_str_list, isi_str_dict, isi_tuple_bool, isi_tuple_int, isi_tuple_str, isi_tuple_tuple, isi_tuple_list, isi_tuple_dict, isi_list_bool, isi_list_int, isi_list_str, isi_list_tuple, isi_list_list, isi_list_dict, isi_dict_bool, isi_dict_int, isi_dict_str, isi_dict_tuple, isi_dict_list, isi_dict_dict, Bool.not_true]; exact .of (bad (by cases u <;> rfl))
        · simp only [denSs, denS, den, dens, denO, denT, denI, DV.of, DV.ofB, sSeq, sRet, sRetN, sNext, sIf, sSet, sSetG, sPar, sPar3, sSetIx, sDrop, sFor, sForKeys, sBreak, sCont, dAnd, dOr, dNot, dAndT, dOrT, dNotT, dUn, dOp, dIte, dVar, dC, dTup, dLst, dNil, dCons, dCall, dCut, dPart, dNoPart, dGet1, dGet2, dApp,
  dSeq1, dRange1, dRange2, dEnum, dZip, dLc, dDc, dChain, fIsi, fBlt, fLen, fAbs, fInt1, fMax, fMin, fL1, fTuple, fList, fSorted, fDict, fBin, fCmp, fNeg, fAdd, fSub, fMul, fMod, fDiv, fPow, fInt, fInt0, fLt, fLe, fGt, fGe, fIs, fIsNot, fInD, fIx, fCut, fSeq, fRange1, fRange2, fEnum, fZip, fSetIx, fGet, fApp, fLenSet, fAug, sAug, tOf, tOfB, guardN, gset, gsets, sFrz, frz_dct, frz_lst, fEq_int, fNe_int, fEq_bl, fNe_bl, fEq_nil, fNe_nil, fEq_ints,
  TyC.name, DL.isNon, start0, List.length_cons, List.length_nil, List.map_cons, List.map_nil, List.cons_append, List.nil_append, List.getElem?_cons_zero, List.getElem?_cons_succ, List.getElem?_nil, List.set_cons_zero, List.set_cons_succ, List.set_nil, List.replicate, Nat.reduceSub, Nat.reduceAdd, mkL, mkD, dwipe, Bool.false_eq_true, if_true, if_false, ite_true, ite_false, true_and, and_true, Option.isSome_some, Option.isSome_none, Option.map_some, Option.map_none, Option.getD_some, Option.getD_none,
  tyD_non, tyD_bl, tyD_int, tyD_str, tyD_tup, tyD_lst, tyD_dct, truD_non, truD_bl, truD_int, truD_tup, truD_lst, truD_dct, asL_non, asD_non, keyD_non, asL_bl, asD_bl, keyD_bl, asL_int, asD_int, keyD_int, asL_str, asD_str, keyD_str, asL_tup, asD_tup, keyD_tup, asL_lst, asD_lst, keyD_lst, asL_dct, asD_dct, keyD_dct, asL_scr, asD_scr, keyD_scr, asL_sup, asD_sup, asL_supD, isLs_sup, tyD_supL, tyD_supD, sup_same, sup_sup, ixN_1_0, ixN_2_0, ixN_2_1, ixN_3_0, ixN_3_1, ixN_3_2, ixN_4_0, ixN_4_1, ixN_4_2, ixN_4_3, ixN_5_0, ixN_5_1, ixN_5_2, ixN_5_3, ixN_5_4, ixN_6_0, ixN_6_1, ixN_6_2, ixN_6_3, ixN_6_4, ixN_6_5, ixN_7_0, ixN_7_1, ixN_7_2, ixN_7_3, ixN_7_4, ixN_7_5, ixN_7_6, ixN_8_0, ixN_8_1, ixN_8_2, ixN_8_3, ixN_8_4, ixN_8_5, ixN_8_6, ixN_8_7, atI_0, atI_1, atI_2, atI_3, atI_4, atI_5, atI_6, atI_7, atI_8, isi_NoneType_bool, isi_NoneType_int, isi_NoneType_str, isi_NoneType_tuple, isi_NoneType_list, isi_NoneType_dict, isi_bool_bool, isi_bool_int, isi_bool_str, isi_bool_tuple, isi_bool_list, isi_bool_dict, isi_int_bool, isi_int_int, isi_int_str, isi_int_tuple, isi_int_list, isi_int_dict, isi_str_bool, isi_str_int, isi_str_str, isi_str_tuple, isi_str_list, isi_str_dict, isi_tuple_bool, isi_tuple_int, isi_tuple_str, isi_tuple_tuple, isi_tuple_list, isi_tuple_dict, isi_list_bool, isi_list_int, isi_list_str, isi_list_tuple, isi_list_list, isi_list_dict, isi_dict_bool, isi_dict_int, isi_dict_str, isi_dict_tuple, isi_dict_list, isi_dict_dict, h0, Bool.not_true]
          rw [if_neg (by decide)]
          have hu : pd u = true ∧ pd v = true := by simpa [pds] using hus
          refine ⟨_, rfl, hu.1, ?_⟩
          cases u <;> first | (cases hu.1; done) | (simp only [wh, denSs, denS, den, dens, denO, denT, denI, DV.of, DV.ofB, sSeq, sRet, sRetN, sNext, sIf, sSet, sSetG, sPar, sPar3, sSetIx, sDrop, sFor, sForKeys, sBreak, sCont, dAnd, dOr, dNot, dAndT, dOrT, dNotT, dUn, dOp, dIte, dVar, dC, dTup, dLst, dNil, dCons, dCall, dCut, dPart, dNoPart, dGet1, dGet2, dApp,
  dSeq1, dRange1, dRange2, dEnum, dZip, dLc, dDc, dChain, fIsi, fBlt, fLen, fAbs, fInt1, fMax, fMin, fL1, fTuple, fList, fSorted, fDict, fBin, fCmp, fNeg, fAdd, fSub, fMul, fMod, fDiv, fPow, fInt, fInt0, fLt, fLe, fGt, fGe, fIs, fIsNot, fInD, fIx, fCut, fSeq, fRange1, fRange2, fEnum, fZip, fSetIx, fGet, fApp, fLenSet, fAug, sAug, tOf, tOfB, guardN, gset, gsets, sFrz, frz_dct, frz_lst, fEq_int, fNe_int, fEq_bl, fNe_bl, fEq_nil, fNe_nil, fEq_ints,
  TyC.name, DL.isNon, start0, List.length_cons, List.length_nil, List.map_cons, List.map_nil, List.cons_append, List.nil_append, List.getElem?_cons_zero, List.getElem?_cons_succ, List.getElem?_nil, List.set_cons_zero, List.set_cons_succ, List.set_nil, List.replicate, Nat.reduceSub, Nat.reduceAdd, mkL, mkD, dwipe, Bool.false_eq_true, if_true, if_false, ite_true, ite_false, true_and, and_true, Option.isSome_some, Option.isSome_none, Option.map_some, Option.map_none, Option.getD_some, Option.getD_none,
  tyD_non, tyD_bl, tyD_int, tyD_str, tyD_tup, tyD_lst, tyD_dct, truD_non, truD_bl, truD_int, truD_tup, truD_lst, truD_dct, asL_non, asD_non, keyD_non, asL_bl, asD_bl, keyD_bl, asL_int, asD_int, keyD_int, asL_str, asD_str, keyD_str, asL_tup, asD_tup, keyD_tup, asL_lst, asD_lst, keyD_lst, asL_dct, asD_dct, keyD_dct, asL_scr, asD_scr, keyD_scr, asL_sup, asD_sup, asL_supD, isLs_sup, tyD_supL, tyD_supD, sup_same, sup_sup, ixN_1_0, ixN_2_0, ixN_2_1, ixN_3_0, ixN_3_1, ixN_3_2, ixN_4_0, ixN_4_1, ixN_4_2, ixN_4_3, ixN_5_0, ixN_5_1, ixN_5_2, ixN_5_3, ixN_5_4, ixN_6_0, ixN_6_1, ixN_6_2, ixN_6_3, ixN_6_4, ixN_6_5, ixN_7_0, ixN_7_1, ixN_7_2, ixN_7_3, ixN_7_4, ixN_7_5, ixN_7_6, ixN_8_0, ixN_8_1, ixN_8_2, ixN_8_3, ixN_8_4, ixN_8_5, ixN_8_6, ixN_8_7, atI_0, atI_1, atI_2, atI_3, atI_4, atI_5, atI_6, atI_7, atI_8, isi_NoneType_bool, isi_NoneType_int, isi_NoneType_str, isi_NoneType_tuple, isi_NoneType_list, isi_NoneType_dict, isi_bool_bool, isi_bool_int, isi_bool_str, isi_bool_tuple, isi_bool_list, isi_bool_dict, isi_int_bool, isi_int_int, isi_int_str, isi_int_tuple, isi_int_list, isi_int_dict, isi_str_bool, isi_str_int, isi_str_str, isi_str_tuple, isi_str_list, isi_str_dict, isi_tuple_bool, isi_tuple_int, isi_tuple_str, isi_tuple_tuple, isi_tuple_list, isi_tuple_dict, isi_list_bool, isi_list_int, isi_list_str, isi_list_tuple, isi_list_list, isi_list_dict, isi_dict_bool, isi_dict_int, isi_dict_str, isi_dict_tuple, isi_dict_list, isi_dict_dict, Bool.not_false]; exact .of (bad rfl)) | skip
          rename_i i
          simp only [wh, denSs, denS, den, dens, denO, denT, denI, DV.of, DV.ofB, sSeq, sRet, sRetN, sNext, sIf, sSet, sSetG, sPar, sPar3, sSetIx, sDrop, sFor, sForKeys, sBreak, sCont, dAnd, dOr, dNot, dAndT, dOrT, dNotT, dUn, dOp, dIte, dVar, dC, dTup, dLst, dNil, dCons, dCall, dCut, dPart, dNoPart, dGet1, dGet2, dApp,
  dSeq1, dRange1, dRange2, dEnum, dZip, dLc, dDc, dChain, fIsi, fBlt, fLen, fAbs, fInt1, fMax, fMin, fL1, fTuple, fList, fSorted, fDict, fBin, fCmp, fNeg, fAdd, fSub, fMul, fMod, fDiv, fPow, fInt, fInt0, fLt, fLe, fGt, fGe, fIs, fIsNot, fInD, fIx, fCut, fSeq, fRange1, fRange2, fEnum, fZip, fSetIx, fGet, fApp, fLenSet, fAug, sAug, tOf, tOfB, guardN, gset, gsets, sFrz, frz_dct, frz_lst, fEq_int, fNe_int, fEq_bl, fNe_bl, fEq_nil, fNe_nil, fEq_ints,
  TyC.name, DL.isNon, start0, List.length_cons, List.length_nil, List.map_cons, List.map_nil, List.cons_append, List.nil_append, List.getElem?_cons_zero, List.getElem?_cons_succ, List.getElem?_nil, List.set_cons_zero, List.set_cons_succ, List.set_nil, List.replicate, Nat.reduceSub, Nat.reduceAdd, mkL, mkD, dwipe, Bool.false_eq_true, if_true, if_false, ite_true, ite_false, true_and, and_true, Option.isSome_some, Option.isSome_none, Option.map_some, Option.map_none, Option.getD_some, Option.getD_none,
  tyD_non, tyD_bl, tyD_int, tyD_str, tyD_tup, tyD_lst, tyD_dct, truD_non, truD_bl, truD_int, truD_tup, truD_lst, truD_dct, asL_non, asD_non, keyD_non, asL_bl, asD_bl, keyD_bl, asL_int, asD_int, keyD_int, asL_str, asD_str, keyD_str, asL_tup, asD_tup, keyD_tup, asL_lst, asD_lst, keyD_lst, asL_dct, asD_dct, keyD_dct, asL_scr, asD_scr, keyD_scr, asL_sup, asD_sup, asL_supD, isLs_sup, tyD_supL, tyD_supD, sup_same, sup_sup, ixN_1_0, ixN_2_0, ixN_2_1, ixN_3_0, ixN_3_1, ixN_3_2, ixN_4_0, ixN_4_1, ixN_4_2, ixN_4_3, ixN_5_0, ixN_5_1, ixN_5_2, ixN_5_3, ixN_5_4, ixN_6_0, ixN_6_1, ixN_6_2, ixN_6_3, ixN_6_4, ixN_6_5, ixN_7_0, ixN_7_1, ixN_7_2, ixN_7_3, ixN_7_4, ixN_7_5, ixN_7_6, ixN_8_0, ixN_8_1, ixN_8_2, ixN_8_3, ixN_8_4, ixN_8_5, ixN_8_6, ixN_8_7, atI_0, atI_1, atI_2, atI_3, atI_4, atI_5, atI_6, atI_7, atI_8, isi_NoneType_bool, isi_NoneType_int, isi_NoneType_str, isi_NoneType_tuple, isi_NoneType_list, isi_NoneType_dict, isi_bool_bool, isi_bool_int, isi_bool_str, isi_bool_tuple, isi_bool_list, isi_bool_dict, isi_int_bool, isi_int_int, isi_int_str, isi_int_tuple, isi_int_list, isi_int_dict, isi_str_bool, isi_str_int, isi_str_str, isi_str_tuple, isi_str_list, isi_str_dict, isi_tuple_bool, isi_tuple_int, isi_tuple_str, isi_tuple_tuple, isi_tuple_list, isi_tuple_dict, isi_list_bool, isi_list_int, isi_list_str, isi_list_tuple, isi_list_list, isi_list_dict, isi_dict_bool, isi_dict_int, isi_dict_str, isi_dict_tuple, isi_dict_list, isi_dict_dict, Bool.not_true]
          split
          · rename_i h
            rw [decide_eq_true_eq] at h
            exact .of (bad (by cases v <;> first | rfl | (show (decide (-1 ≤ i) && _) = false; rw [decide_eq_false (by omega)]; rfl)))
          · rename_i h
            rw [decide_eq_true_eq] at h
            refine ⟨_, rfl, hu.2, ?_⟩
            cases v <;> first | (cases hu.2; done) | (simp only [wh, denSs, denS, den, dens, denO, denT, denI, DV.of, DV.ofB, sSeq, sRet, sRetN, sNext, sIf, sSet, sSetG, sPar, sPar3, sSetIx, sDrop, sFor, sForKeys, sBreak, sCont, dAnd, dOr, dNot, dAndT, dOrT, dNotT, dUn, dOp, dIte, dVar, dC, dTup, dLst, dNil, dCons, dCall, dCut, dPart, dNoPart, dGet1, dGet2, dApp,
  dSeq1, dRange1, dRange2, dEnum, dZip, dLc, dDc, dChain, fIsi, fBlt, fLen, fAbs, fInt1, fMax, fMin, fL1, fTuple, fList, fSorted, fDict, fBin, fCmp, fNeg, fAdd, fSub, fMul, fMod, fDiv, fPow, fInt, fInt0, fLt, fLe, fGt, fGe, fIs, fIsNot, fInD, fIx, fCut, fSeq, fRange1, fRange2, fEnum, fZip, fSetIx, fGet, fApp, fLenSet, fAug, sAug, tOf, tOfB, guardN, gset, gsets, sFrz, frz_dct, frz_lst, fEq_int, fNe_int, fEq_bl, fNe_bl, fEq_nil, fNe_nil, fEq_ints,
  TyC.name, DL.isNon, start0, List.length_cons, List.length_nil, List.map_cons, List.map_nil, List.cons_append, List.nil_append, List.getElem?_cons_zero, List.getElem?_cons_succ, List.getElem?_nil, List.set_cons_zero, List.set_cons_succ, List.set_nil, List.replicate, Nat.reduceSub, Nat.reduceAdd, mkL, mkD, dwipe, Bool.false_eq_true, if_true, if_false, ite_true, ite_false, true_and, and_true, Option.isSome_some, Option.isSome_none, Option.map_some, Option.map_none, Option.getD_some, Option.getD_none,
  tyD_non, tyD_bl, tyD_int, tyD_str, tyD_tup, tyD_lst, tyD_dct, truD_non, truD_bl, truD_int, truD_tup, truD_lst, truD_dct, asL_non, asD_non, keyD_non, asL_bl, asD_bl, keyD_bl, asL_int, asD_int, keyD_int, asL_str, asD_str, keyD_str, asL_tup, asD_tup, keyD_tup, asL_lst, asD_lst, keyD_lst, asL_dct, asD_dct, keyD_dct, asL_scr, asD_scr, keyD_scr, asL_sup, asD_sup, asL_supD, isLs_sup, tyD_supL, tyD_supD, sup_same, sup_sup, ixN_1_0, ixN_2_0, ixN_2_1, ixN_3_0, ixN_3_1, ixN_3_2, ixN_4_0, ixN_4_1, ixN_4_2, ixN_4_3, ixN_5_0, ixN_5_1, ixN_5_2, ixN_5_3, ixN_5_4, ixN_6_0, ixN_6_1, ixN_6_2, ixN_6_3, ixN_6_4, ixN_6_5, ixN_7_0, ixN_7_1, ixN_7_2, ixN_7_3, ixN_7_4, ixN_7_5, ixN_7_6, ixN_8_0, ixN_8_1, ixN_8_2, ixN_8_3, ixN_8_4, ixN_8_5, ixN_8_6, ixN_8_7, atI_0, atI_1, atI_2, atI_3, atI_4, atI_5, atI_6, atI_7, atI_8, isi_NoneType_bool, isi_NoneType_int, isi_NoneType_str, isi_NoneType_tuple, isi_NoneType_list, isi_NoneType_dict, isi_bool_bool, isi_bool_int, isi_bool_str, isi_bool_tuple, isi_bool_list, isi_bool_dict, isi_int_bool, isi_int_int, isi_int_str, isi_int_tuple, isi_int_list, isi_int_dict, isi_str_bool, isi_str_int, isi_str_str, isi_str_tuple, isi_str_list, isi_str_dict, isi_tuple_bool, isi_tuple_int, isi_tuple_str, isi_tuple_tuple, isi_tuple_list, isi_tuple_dict, isi_list_bool, isi_list_int, isi_list_str, isi_list_tuple, isi_list_list, isi_list_dict, isi_dict_bool, isi_dict_int, isi_dict_str, isi_dict_tuple, isi_dict_list, isi_dict_dict, Bool.not_false]; exact .of (bad rfl)) | skip
            rename_i k
            simp only [wh, denSs, denS, den, dens, denO, denT, denI, DV.of, DV.ofB, sSeq, sRet, sRetN, sNext, sIf, sSet, sSetG, sPar, sPar3, sSetIx, sDrop, sFor, sForKeys, sBreak, sCont, dAnd, dOr, dNot, dAndT, dOrT, dNotT, dUn, dOp, dIte, dVar, dC, dTup, dLst, dNil, dCons, dCall, dCut, dPart, dNoPart, dGet1, dGet2, dApp,
  dSeq1, dRange1, dRange2, dEnum, dZip, dLc, dDc, dChain, fIsi, fBlt, fLen, fAbs, fInt1, fMax, fMin, fL1, fTuple, fList, fSorted, fDict, fBin, fCmp, fNeg, fAdd, fSub, fMul, fMod, fDiv, fPow, fInt, fInt0, fLt, fLe, fGt, fGe, fIs, fIsNot, fInD, fIx, fCut, fSeq, fRange1, fRange2, fEnum, fZip, fSetIx, fGet, fApp, fLenSet, fAug, sAug, tOf, tOfB, guardN, gset, gsets, sFrz, frz_dct, frz_lst, fEq_int, fNe_int, fEq_bl, fNe_bl, fEq_nil, fNe_nil, fEq_ints,
  TyC.name, DL.isNon, start0, List.length_cons, List.length_nil, List.map_cons, List.map_nil, List.cons_append, List.nil_append, List.getElem?_cons_zero, List.getElem?_cons_succ, List.getElem?_nil, List.set_cons_zero, List.set_cons_succ, List.set_nil, List.replicate, Nat.reduceSub, Nat.reduceAdd, mkL, mkD, dwipe, Bool.false_eq_true, if_true, if_false, ite_true, ite_false, true_and, and_true, Option.isSome_some, Option.isSome_none, Option.map_some, Option.map_none, Option.getD_some, Option.getD_none,
  tyD_non, tyD_bl, tyD_int, tyD_str, tyD_tup, tyD_lst, tyD_dct, truD_non, truD_bl, truD_int, truD_tup, truD_lst, truD_dct, asL_non, asD_non, keyD_non, asL_bl, asD_bl, keyD_bl, asL_int, asD_int, keyD_int, asL_str, asD_str, keyD_str, asL_tup, asD_tup, keyD_tup, asL_lst, asD_lst, keyD_lst, asL_dct, asD_dct, keyD_dct, asL_scr, asD_scr, keyD_scr, asL_sup, asD_sup, asL_supD, isLs_sup, tyD_supL, tyD_supD, sup_same, sup_sup, ixN_1_0, ixN_2_0, ixN_2_1, ixN_3_0, ixN_3_1, ixN_3_2, ixN_4_0, ixN_4_1, ixN_4_2, ixN_4_3, ixN_5_0, ixN_5_1, ixN_5_2, ixN_5_3, ixN_5_4, ixN_6_0, ixN_6_1, ixN_6_2, ixN_6_3, ixN_6_4, ixN_6_5, ixN_7_0, ixN_7_1, ixN_7_2, ixN_7_3, ixN_7_4, ixN_7_5, ixN_7_6, ixN_8_0, ixN_8_1, ixN_8_2, ixN_8_3, ixN_8_4, ixN_8_5, ixN_8_6, ixN_8_7, atI_0, atI_1, atI_2, atI_3, atI_4, atI_5, atI_6, atI_7, atI_8, isi_NoneType_bool, isi_NoneType_int, isi_NoneType_str, isi_NoneType_tuple, isi_NoneType_list, isi_NoneType_dict, isi_bool_bool, isi_bool_int, isi_bool_str, isi_bool_tuple, isi_bool_list, isi_bool_dict, isi_int_bool, isi_int_int, isi_int_str, isi_int_tuple, isi_int_list, isi_int_dict, isi_str_bool, isi_str_int, isi_str_str, isi_str_tuple, isi_str_list, isi_str_dict, isi_tuple_bool, isi_tuple_int, isi_tuple_str, isi_tuple_tuple, isi_tuple_list, isi_tuple_dict, isi_list_bool, isi_list_int, isi_list_str, isi_list_tuple, isi_list_list, isi_list_dict, isi_dict_bool, isi_dict_int, isi_dict_str, isi_dict_tuple, isi_dict_list, isi_dict_dict, Bool.not_true]
            split
            · rename_i h2
              rw [decide_eq_true_eq] at h2
              exact .of (bad (by subst h2; show (_ && decide ((0 : Int) ≠ 0)) = false; simp))
            · rename_i h2
              rw [decide_eq_true_eq] at h2
              exact cont (by show (decide (-1 ≤ i) && decide (k ≠ 0)) = true; rw [decide_eq_true (by omega), decide_eq_true h2]; rfl)
        · simp only [denSs, denS, den, dens, denO, denT, denI, DV.of, DV.ofB, sSeq, sRet, sRetN, sNext, sIf, sSet, sSetG, sPar, sPar3, sSetIx, sDrop, sFor, sForKeys, sBreak, sCont, dAnd, dOr, dNot, dAndT, dOrT, dNotT, dUn, dOp, dIte, dVar, dC, dTup, dLst, dNil, dCons, dCall, dCut, dPart, dNoPart, dGet1, dGet2, dApp,
  dSeq1, dRange1, dRange2, dEnum, dZip, dLc, dDc, dChain, fIsi, fBlt, fLen, fAbs, fInt1, fMax, fMin, fL1, fTuple, fList, fSorted, fDict, fBin, fCmp, fNeg, fAdd, fSub, fMul, fMod, fDiv, fPow, fInt, fInt0, fLt, fLe, fGt, fGe, fIs, fIsNot, fInD, fIx, fCut, fSeq, fRange1, fRange2, fEnum, fZip, fSetIx, fGet, fApp, fLenSet, fAug, sAug, tOf, tOfB, guardN, gset, gsets, sFrz, frz_dct, frz_lst, fEq_int, fNe_int, fEq_bl, fNe_bl, fEq_nil, fNe_nil, fEq_ints,
  TyC.name, DL.isNon, start0, List.length_cons, List.length_nil, List.map_cons, List.map_nil, List.cons_append, List.nil_append, List.getElem?_cons_zero, List.getElem?_cons_succ, List.getElem?_nil, List.set_cons_zero, List.set_cons_succ, List.set_nil, List.replicate, Nat.reduceSub, Nat.reduceAdd, mkL, mkD, dwipe, Bool.false_eq_true, if_true, if_false, ite_true, ite_false, true_and, and_true, Option.isSome_some, Option.isSome_none, Option.map_some, Option.map_none, Option.getD_some, Option.getD_none,
  tyD_non, tyD_bl, tyD_int, tyD_str, tyD_tup, tyD_lst, tyD_dct, truD_non, truD_bl, truD_int, truD_tup, truD_lst, truD_dct, asL_non, asD_non, keyD_non, asL_bl, asD_bl, keyD_bl, asL_int, asD_int, keyD_int, asL_str, asD_str, keyD_str, asL_tup, asD_tup, keyD_tup, asL_lst, asD_lst, keyD_lst, asL_dct, asD_dct, keyD_dct, asL_scr, asD_scr, keyD_scr, asL_sup, asD_sup, asL_supD, isLs_sup, tyD_supL, tyD_supD, sup_same, sup_sup, ixN_1_0, ixN_2_0, ixN_2_1, ixN_3_0, ixN_3_1, ixN_3_2, ixN_4_0, ixN_4_1, ixN_4_2, ixN_4_3, ixN_5_0, ixN_5_1, ixN_5_2, ixN_5_3, ixN_5_4, ixN_6_0, ixN_6_1, ixN_6_2, ixN_6_3, ixN_6_4, ixN_6_5, ixN_7_0, ixN_7_1, ixN_7_2, ixN_7_3, ixN_7_4, ixN_7_5, ixN_7_6, ixN_8_0, ixN_8_1, ixN_8_2, ixN_8_3, ixN_8_4, ixN_8_5, ixN_8_6, ixN_8_7, atI_0, atI_1, atI_2, atI_3, atI_4, atI_5, atI_6, atI_7, atI_8, isi_NoneType_bool, isi_NoneType_int, isi_NoneType_str, isi_NoneType_tuple, isi_NoneType_list, isi_NoneType_dict, isi_bool_bool, isi_bool_int, isi_bool_str, isi_bool_tuple, isi_bool_list, isi_bool_dict, isi_int_bool, isi_int_int, isi_int_str, isi_int_tuple, isi_int_list, isi_int_dict, isi_str_bool, isi_str_int, isi_str_str, isi_str_tuple, isi_str_list, isi_str_dict, isi_tuple_bool, isi_tuple_int, isi_tuple_str, isi_tuple_tuple, isi_tuple_list, isi_tuple_dict, isi_list_bool, isi_list_int, isi_list_str, isi_list_tuple, isi_list_list, isi_list_dict, isi_dict_bool, isi_dict_int, isi_dict_str, isi_dict_tuple, isi_dict_list, isi_dict_dict, h0, Bool.not_true]
          rw [if_pos (by rw [decide_eq_false (by omega)]; rfl)]
          exact .of (bad (by cases u <;> cases v <;> rfl))
      · rintro sd S' ⟨rfl, done, o, rfl, e, hdn⟩
        rw [List.append_nil] at e
        subst e
        refine ⟨trivial, ?_⟩
        rw [asPs_all] at hdn
        cases ea : asPs ps with
        | none => rw [ea] at hdn; cases hdn
        | some pp =>
          have e2 : isSum (.tup [.int a, .tup ps]) = (match asPs ps with | some ps => rise (ps.map (·.1)) | none => false) := rfl
          rw [e2, ea] at q
          obtain ⟨rfl, hpp⟩ := asPs_eq ea
          simp only [denSs, denS, den, dens, denO, denT, denI, DV.of, DV.ofB, sSeq, sRet, sRetN, sNext, sIf, sSet, sSetG, sPar, sPar3, sSetIx, sDrop, sFor, sForKeys, sBreak, sCont, dAnd, dOr, dNot, dAndT, dOrT, dNotT, dUn, dOp, dIte, dVar, dC, dTup, dLst, dNil, dCons, dCall, dCut, dPart, dNoPart, dGet1, dGet2, dApp,
  dSeq1, dRange1, dRange2, dEnum, dZip, dLc, dDc, dChain, fIsi, fBlt, fLen, fAbs, fInt1, fMax, fMin, fL1, fTuple, fList, fSorted, fDict, fBin, fCmp, fNeg, fAdd, fSub, fMul, fMod, fDiv, fPow, fInt, fInt0, fLt, fLe, fGt, fGe, fIs, fIsNot, fInD, fIx, fCut, fSeq, fRange1, fRange2, fEnum, fZip, fSetIx, fGet, fApp, fLenSet, fAug, sAug, tOf, tOfB, guardN, gset, gsets, sFrz, frz_dct, frz_lst, fEq_int, fNe_int, fEq_bl, fNe_bl, fEq_nil, fNe_nil, fEq_ints,
  TyC.name, DL.isNon, start0, List.length_cons, List.length_nil, List.map_cons, List.map_nil, List.cons_append, List.nil_append, List.getElem?_cons_zero, List.getElem?_cons_succ, List.getElem?_nil, List.set_cons_zero, List.set_cons_succ, List.set_nil, List.replicate, Nat.reduceSub, Nat.reduceAdd, mkL, mkD, dwipe, Bool.false_eq_true, if_true, if_false, ite_true, ite_false, true_and, and_true, Option.isSome_some, Option.isSome_none, Option.map_some, Option.map_none, Option.getD_some, Option.getD_none,
  tyD_non, tyD_bl, tyD_int, tyD_str, tyD_tup, tyD_lst, tyD_dct, truD_non, truD_bl, truD_int, truD_tup, truD_lst, truD_dct, asL_non, asD_non, keyD_non, asL_bl, asD_bl, keyD_bl, asL_int, asD_int, keyD_int, asL_str, asD_str, keyD_str, asL_tup, asD_tup, keyD_tup, asL_lst, asD_lst, keyD_lst, asL_dct, asD_dct, keyD_dct, asL_scr, asD_scr, keyD_scr, asL_sup, asD_sup, asL_supD, isLs_sup, tyD_supL, tyD_supD, sup_same, sup_sup, ixN_1_0, ixN_2_0, ixN_2_1, ixN_3_0, ixN_3_1, ixN_3_2, ixN_4_0, ixN_4_1, ixN_4_2, ixN_4_3, ixN_5_0, ixN_5_1, ixN_5_2, ixN_5_3, ixN_5_4, ixN_6_0, ixN_6_1, ixN_6_2, ixN_6_3, ixN_6_4, ixN_6_5, ixN_7_0, ixN_7_1, ixN_7_2, ixN_7_3, ixN_7_4, ixN_7_5, ixN_7_6, ixN_8_0, ixN_8_1, ixN_8_2, ixN_8_3, ixN_8_4, ixN_8_5, ixN_8_6, ixN_8_7, atI_0, atI_1, atI_2, atI_3, atI_4, atI_5, atI_6, atI_7, atI_8, isi_NoneType_bool, isi_NoneType_int, isi_NoneType_str, isi_NoneType_tuple, isi_NoneType_list, isi_NoneType_dict, isi_bool_bool, isi_bool_int, isi_bool_str, isi_bool_tuple, isi_bool_list, isi_bool_dict, isi_int_bool, isi_int_int, isi_int_str, isi_int_tuple, isi_int_list, isi_int_dict, isi_str_bool, isi_str_int, isi_str_str, isi_str_tuple, isi_str_list, isi_str_dict, isi_tuple_bool, isi_tuple_int, isi_tuple_str, isi_tuple_tuple, isi_tuple_list, isi_tuple_dict, isi_list_bool, isi_list_int, isi_list_str, isi_list_tuple, isi_list_list, isi_list_dict, isi_dict_bool, isi_dict_int, isi_dict_str, isi_dict_tuple, isi_dict_list, isi_dict_dict]
          refine lcL_map (f := fun d => match d with | .tup [x, _] => x | _ => .non) trivial (fun x hx => ?_) ?_
          · obtain ⟨p, _, rfl⟩ := List.mem_map.mp hx
            exact ⟨_, rfl, fun Q' q' => q'⟩
          · have e3 : (pp.map pD).map (fun d => match d with | .tup [x, _] => x | _ => D.non) = (pp.map (·.1)).map D.int := by
              rw [List.map_map, List.map_map]; rfl
            rw [e3]
            have q : Q (.bl (rise (pp.map (·.1)))) S' := q
            rw [List.length_map, ← List.length_map (f := fun p : P2 => p.1)] at hz
            generalize pp.map (·.1) = ns at q hz ⊢
            simp only [denSs, denS, den, dens, denO, denT, denI, DV.of, DV.ofB, sSeq, sRet, sRetN, sNext, sIf, sSet, sSetG, sPar, sPar3, sSetIx, sDrop, sFor, sForKeys, sBreak, sCont, dAnd, dOr, dNot, dAndT, dOrT, dNotT, dUn, dOp, dIte, dVar, dC, dTup, dLst, dNil, dCons, dCall, dCut, dPart, dNoPart, dGet1, dGet2, dApp,
  dSeq1, dRange1, dRange2, dEnum, dZip, dLc, dDc, dChain, fIsi, fBlt, fLen, fAbs, fInt1, fMax, fMin, fL1, fTuple, fList, fSorted, fDict, fBin, fCmp, fNeg, fAdd, fSub, fMul, fMod, fDiv, fPow, fInt, fInt0, fLt, fLe, fGt, fGe, fIs, fIsNot, fInD, fIx, fCut, fSeq, fRange1, fRange2, fEnum, fZip, fSetIx, fGet, fApp, fLenSet, fAug, sAug, tOf, tOfB, guardN, gset, gsets, sFrz, frz_dct, frz_lst, fEq_int, fNe_int, fEq_bl, fNe_bl, fEq_nil, fNe_nil, fEq_ints,
  TyC.name, DL.isNon, start0, List.length_cons, List.length_nil, List.map_cons, List.map_nil, List.cons_append, List.nil_append, List.getElem?_cons_zero, List.getElem?_cons_succ, List.getElem?_nil, List.set_cons_zero, List.set_cons_succ, List.set_nil, List.replicate, Nat.reduceSub, Nat.reduceAdd, mkL, mkD, dwipe, Bool.false_eq_true, if_true, if_false, ite_true, ite_false, true_and, and_true, Option.isSome_some, Option.isSome_none, Option.map_some, Option.map_none, Option.getD_some, Option.getD_none,
  tyD_non, tyD_bl, tyD_int, tyD_str, tyD_tup, tyD_lst, tyD_dct, truD_non, truD_bl, truD_int, truD_tup, truD_lst, truD_dct, asL_non, asD_non, keyD_non, asL_bl, asD_bl, keyD_bl, asL_int, asD_int, keyD_int, asL_str, asD_str, keyD_str, asL_tup, asD_tup, keyD_tup, asL_lst, asD_lst, keyD_lst, asL_dct, asD_dct, keyD_dct, asL_scr, asD_scr, keyD_scr, asL_sup, asD_sup, asL_supD, isLs_sup, tyD_supL, tyD_supD, sup_same, sup_sup, ixN_1_0, ixN_2_0, ixN_2_1, ixN_3_0, ixN_3_1, ixN_3_2, ixN_4_0, ixN_4_1, ixN_4_2, ixN_4_3, ixN_5_0, ixN_5_1, ixN_5_2, ixN_5_3, ixN_5_4, ixN_6_0, ixN_6_1, ixN_6_2, ixN_6_3, ixN_6_4, ixN_6_5, ixN_7_0, ixN_7_1, ixN_7_2, ixN_7_3, ixN_7_4, ixN_7_5, ixN_7_6, ixN_8_0, ixN_8_1, ixN_8_2, ixN_8_3, ixN_8_4, ixN_8_5, ixN_8_6, ixN_8_7, atI_0, atI_1, atI_2, atI_3, atI_4, atI_5, atI_6, atI_7, atI_8, isi_NoneType_bool, isi_NoneType_int, isi_NoneType_str, isi_NoneType_tuple, isi_NoneType_list, isi_NoneType_dict, isi_bool_bool, isi_bool_int, isi_bool_str, isi_bool_tuple, isi_bool_list, isi_bool_dict, isi_int_bool, isi_int_int, isi_int_str, isi_int_tuple, isi_int_list, isi_int_dict, isi_str_bool, isi_str_int, isi_str_str, isi_str_tuple, isi_str_list, isi_str_dict, isi_tuple_bool, isi_tuple_int, isi_tuple_str, isi_tuple_tuple, isi_tuple_list, isi_tuple_dict, isi_list_bool, isi_list_int, isi_list_str, isi_list_tuple, isi_list_list, isi_list_dict, isi_dict_bool, isi_dict_int, isi_dict_str, isi_dict_tuple, isi_dict_list, isi_dict_dict, asInts_map]
            rw [rise_law] at q
            rw [List.length_map]
            split
            · rename_i h
              rw [h, Bool.true_and] at q
              exact ⟨by omega, .of q⟩
            · rename_i h
              rw [Bool.not_eq_true] at h
              rw [h] at q
              exact .of q
    · simp only [core__law_is_sum, N__law_is_sum, DD, denSs, denS, den, dens, denO, denT, denI, DV.of, DV.ofB, sSeq, sRet, sRetN, sNext, sIf, sSet, sSetG, sPar, sPar3, sSetIx, sDrop, sFor, sForKeys, sBreak, sCont, dAnd, dOr, dNot, dAndT, dOrT, dNotT, dUn, dOp, dIte, dVar, dC, dTup, dLst, dNil, dCons, dCall, dCut, dPart, dNoPart, dGet1, dGet2, dApp,
  dSeq1, dRange1, dRange2, dEnum, dZip, dLc, dDc, dChain, fIsi, fBlt, fLen, fAbs, fInt1, fMax, fMin, fL1, fTuple, fList, fSorted, fDict, fBin, fCmp, fNeg, fAdd, fSub, fMul, fMod, fDiv, fPow, fInt, fInt0, fLt, fLe, fGt, fGe, fIs, fIsNot, fInD, fIx, fCut, fSeq, fRange1, fRange2, fEnum, fZip, fSetIx, fGet, fApp, fLenSet, fAug, sAug, tOf, tOfB, guardN, gset, gsets, sFrz, frz_dct, frz_lst, fEq_int, fNe_int, fEq_bl, fNe_bl, fEq_nil, fNe_nil, fEq_ints,
  TyC.name, DL.isNon, start0, List.length_cons, List.length_nil, List.map_cons, List.map_nil, List.cons_append, List.nil_append, List.getElem?_cons_zero, List.getElem?_cons_succ, List.getElem?_nil, List.set_cons_zero, List.set_cons_succ, List.set_nil, List.replicate, Nat.reduceSub, Nat.reduceAdd, mkL, mkD, dwipe, Bool.false_eq_true, if_true, if_false, ite_true, ite_false, true_and, and_true, Option.isSome_some, Option.isSome_none, Option.map_some, Option.map_none, Option.getD_some, Option.getD_none,
  tyD_non, tyD_bl, tyD_int, tyD_str, tyD_tup, tyD_lst, tyD_dct, truD_non, truD_bl, truD_int, truD_tup, truD_lst, truD_dct, asL_non, asD_non, keyD_non, asL_bl, asD_bl, keyD_bl, asL_int, asD_int, keyD_int, asL_str, asD_str, keyD_str, asL_tup, asD_tup, keyD_tup, asL_lst, asD_lst, keyD_lst, asL_dct, asD_dct, keyD_dct, asL_scr, asD_scr, keyD_scr, asL_sup, asD_sup, asL_supD, isLs_sup, tyD_supL, tyD_supD, sup_same, sup_sup, ixN_1_0, ixN_2_0, ixN_2_1, ixN_3_0, ixN_3_1, ixN_3_2, ixN_4_0, ixN_4_1, ixN_4_2, ixN_4_3, ixN_5_0, ixN_5_1, ixN_5_2, ixN_5_3, ixN_5_4, ixN_6_0, ixN_6_1, ixN_6_2, ixN_6_3, ixN_6_4, ixN_6_5, ixN_7_0, ixN_7_1, ixN_7_2, ixN_7_3, ixN_7_4, ixN_7_5, ixN_7_6, ixN_8_0, ixN_8_1, ixN_8_2, ixN_8_3, ixN_8_4, ixN_8_5, ixN_8_6, ixN_8_7, atI_0, atI_1, atI_2, atI_3, atI_4, atI_5, atI_6, atI_7, atI_8, isi_NoneType_bool, isi_NoneType_int, isi_NoneType_str, isi_NoneType_tuple, isi_NoneType_list, isi_NoneType_dict, isi_bool_bool, isi_bool_int, isi_bool_str, isi_bool_tuple, isi_bool_list, isi_bool_dict, isi_int_bool, isi_int_int, isi_int_str, isi_int_tuple, isi_int_list, isi_int_dict, isi_str_bool, isi_str_int, isi_str_str, isi_str_tuple, isi_str_list, isi_str_dict, isi_tuple_bool, isi_tuple_int, isi_tuple_str, isi_tuple_tuple, isi_tuple_list, isi_tuple_dict, isi_list_bool, isi_list_int, isi_list_str, isi_list_tuple, isi_list_list, isi_list_dict, isi_dict_bool, isi_dict_int, isi_dict_str, isi_dict_tuple, isi_dict_list, isi_dict_dict, h0, Bool.not_true]
      have e : isSum (.tup (x :: y :: z :: r)) = false := by cases x <;> cases y <;> rfl
      rw [e] at q
      rw [if_pos (by rw [decide_eq_false (by omega)]; rfl)]
      exact .of q
  all_goals (simp only [core__law_is_sum, N__law_is_sum, DD, denSs, denS, den, dens, denO, denT, denI, DV.of, DV.ofB, sSeq, sRet, sRetN, sNext, sIf, sSet, sSetG, sPar, sPar3, sSetIx, sDrop, sFor, sForKeys, sBreak, sCont, dAnd, dOr, dNot, dAndT, dOrT, dNotT, dUn, dOp, dIte, dVar, dC, dTup, dLst, dNil, dCons, dCall, dCut, dPart, dNoPart, dGet1, dGet2, dApp,
  dSeq1, dRange1, dRange2, dEnum, dZip, dLc, dDc, dChain, fIsi, fBlt, fLen, fAbs, fInt1, fMax, fMin, fL1, fTuple, fList, fSorted, fDict, fBin, fCmp, fNeg, fAdd, fSub, fMul, fMod, fDiv, fPow, fInt, fInt0, fLt, fLe, fGt, fGe, fIs, fIsNot, fInD, fIx, fCut, fSeq, fRange1, fRange2, fEnum, fZip, fSetIx, fGet, fApp, fLenSet, fAug, sAug, tOf, tOfB, guardN, gset, gsets, sFrz, frz_dct, frz_lst, fEq_int, fNe_int, fEq_bl, fNe_bl, fEq_nil, fNe_nil, fEq_ints,
  TyC.name, DL.isNon, start0, List.length_cons, List.length_nil, List.map_cons, List.map_nil, List.cons_append, List.nil_append, List.getElem?_cons_zero, List.getElem?_cons_succ, List.getElem?_nil, List.set_cons_zero, List.set_cons_succ, List.set_nil, List.replicate, Nat.reduceSub, Nat.reduceAdd, mkL, mkD, dwipe, Bool.false_eq_true, if_true, if_false, ite_true, ite_false, true_and, and_true, Option.isSome_some, Option.isSome_none, Option.map_some, Option.map_none, Option.getD_some, Option.getD_none,
  tyD_non, tyD_bl, tyD_int, tyD_str, tyD_tup, tyD_lst, tyD_dct, truD_non, truD_bl, truD_int, truD_tup, truD_lst, truD_dct, asL_non, asD_non, keyD_non, asL_bl, asD_bl, keyD_bl, asL_int, asD_int, keyD_int, asL_str, asD_str, keyD_str, asL_tup, asD_tup, keyD_tup, asL_lst, asD_lst, keyD_lst, asL_dct, asD_dct, keyD_dct, asL_scr, asD_scr, keyD_scr, asL_sup, asD_sup, asL_supD, isLs_sup, tyD_supL, tyD_supD, sup_same, sup_sup, ixN_1_0, ixN_2_0, ixN_2_1, ixN_3_0, ixN_3_1, ixN_3_2, ixN_4_0, ixN_4_1, ixN_4_2, ixN_4_3, ixN_5_0, ixN_5_1, ixN_5_2, ixN_5_3, ixN_5_4, ixN_6_0, ixN_6_1, ixN_6_2, ixN_6_3, ixN_6_4, ixN_6_5, ixN_7_0, ixN_7_1, ixN_7_2, ixN_7_3, ixN_7_4, ixN_7_5, ixN_7_6, ixN_8_0, ixN_8_1, ixN_8_2, ixN_8_3, ixN_8_4, ixN_8_5, ixN_8_6, ixN_8_7, atI_0, atI_1, atI_2, atI_3, atI_4, atI_5, atI_6, atI_7, atI_8, isi_NoneType_bool, isi_NoneType_int, isi_NoneType_str, isi_NoneType_tuple, isi_NoneType_list, isi_NoneType_dict, isi_bool_bool, isi_bool_int, isi_bool_str, isi_bool_tuple, isi_bool_list, isi_bool_dict, isi_int_bool, isi_int_int, isi_int_str, isi_int_tuple, isi_int_list, isi_int_dict, isi_str_bool, isi_str_int, isi_str_str, isi_str_tuple, isi_str_list, isi_str_dict, isi_tuple_bool, isi_tuple_int, isi_tuple_str, isi_tuple_tuple, isi_tuple_list, isi_tuple_dict, isi_list_bool, isi_list_int, isi_list_str, isi_list_tuple, isi_list_list, isi_list_dict, isi_dict_bool, isi_dict_int, isi_dict_str, isi_dict_tuple, isi_dict_list, isi_dict_dict, h0]; exact .of q)
end K00
set_option Elab.async false
set_option linter.all false
set_option maxRecDepth 100000
set_option maxHeartbeats 1000000
namespace K00
open PySem L2 DL
/-! ### lists of pairs as maps -/
def get (l : List P2) (k : Int) : Int := ((l.find? fun p => decide (p.1 = k)).map (·.2)).getD 0
def put (l : List P2) (k v : Int) : List P2 := if (l.any fun p => decide (p.1 = k)) = true then l.map fun p => if p.1 = k then (p.1, v) else p else l ++ [(k, v)]
def keys (l : List P2) : List Int := l.map (·.1)
theorem get_cons (p : P2) (l : List P2) (k : Int) : get (p :: l) k = if p.1 = k then p.2 else get l k := by
  unfold get
  by_cases h : p.1 = k
  · rw [List.find?_cons_of_pos (by simpa using h), if_pos h]; rfl
  · rw [List.find?_cons_of_neg (by simpa using h), if_neg h]
theorem get_nil (k : Int) : get [] k = 0 := rfl
theorem get_no : ∀ {l : List P2} {k : Int}, k ∉ keys l → get l k = 0
  | [], _, _ => rfl
  | p :: l, k, h => by
    have h : k ∉ p.1 :: keys l := h
    rw [List.mem_cons, not_or] at h
    rw [get_cons, if_neg (fun z => h.1 z.symm), get_no h.2]
theorem get_mem : ∀ {l : List P2} {p : P2}, (keys l).Nodup → p ∈ l → get l p.1 = p.2
  | [], _, _, h => by cases h
  | q :: l, p, hn, h => by
    have hn : (q.1 :: keys l).Nodup := hn
    obtain ⟨h1, h2⟩ := List.nodup_cons.mp hn
    rw [get_cons]
    rcases List.mem_cons.mp h with rfl | h
    · rw [if_pos rfl]
    · rw [if_neg, get_mem h2 h]
      intro z
      exact h1 (by rw [z]; exact List.mem_map_of_mem h)
theorem any_key {l : List P2} {k : Int} : (l.any fun p => decide (p.1 = k)) = true ↔ k ∈ keys l := by
  rw [List.any_eq_true]
  constructor
  · rintro ⟨p, hp, e⟩
    rw [decide_eq_true_eq] at e
    rw [← e]; exact List.mem_map_of_mem hp
  · intro h
    obtain ⟨p, hp, e⟩ := List.mem_map.mp h
    exact ⟨p, hp, decide_eq_true e⟩
theorem keys_put_in {l : List P2} {k v : Int} (h : k ∈ keys l) : keys (put l k v) = keys l := by
  unfold put
  rw [if_pos (any_key.mpr h)]
  unfold keys
  rw [List.map_map]
  refine List.map_congr_left fun p _ => ?_
  show (if p.1 = k then (p.1, v) else p).1 = p.1
  split <;> rfl
theorem keys_put_new {l : List P2} {k v : Int} (h : k ∉ keys l) : put l k v = l ++ [(k, v)] := by
  unfold put
  rw [if_neg (fun z => h (any_key.mp z))]
theorem mem_keys_put {l : List P2} {k v x : Int} : x ∈ keys (put l k v) ↔ x ∈ keys l ∨ x = k := by
  by_cases h : k ∈ keys l
  · rw [keys_put_in h]
    exact ⟨.inl, fun z => z.elim id fun z => by rw [z]; exact h⟩
  · rw [keys_put_new h]; unfold keys; simp
theorem nd_put {l : List P2} {k v : Int} (h : (keys l).Nodup) : (keys (put l k v)).Nodup := by
  by_cases e : k ∈ keys l
  · rw [keys_put_in e]; exact h
  · rw [keys_put_new e]
    show (List.map (·.1) (l ++ [(k, v)])).Nodup
    rw [List.map_append]
    refine List.nodup_append.mpr ⟨h, by simp, fun a ha b hb => ?_⟩
    have hb : b ∈ [k] := hb
    rw [List.mem_singleton.mp hb]
    intro z
    rw [z] at ha
    exact e ha
theorem get_map_put (k v x : Int) : ∀ l : List P2, get (l.map fun p => if p.1 = k then (p.1, v) else p) x = if x = k ∧ k ∈ keys l then v else get l x
  | [] => by simp [get, keys]
  | p :: l => by
    rw [List.map_cons, get_cons, get_cons, get_map_put k v x l]
    have e : (if p.1 = k then (p.1, v) else p).1 = p.1 := by split <;> rfl
    rw [e]
    have hk : k ∈ keys (p :: l) ↔ k = p.1 ∨ k ∈ keys l := List.mem_cons
    by_cases h1 : p.1 = x
    · rw [if_pos h1, if_pos h1]
      by_cases h2 : p.1 = k
      · rw [if_pos h2, if_pos ⟨h1.symm.trans h2, hk.mpr (.inl h2.symm)⟩]
      · rw [if_neg h2, if_neg (fun z => h2 (h1.trans z.1))]
    · rw [if_neg h1, if_neg h1]
      by_cases h2 : x = k
      · subst h2
        have : x ∈ keys (p :: l) ↔ x ∈ keys l := by rw [hk]; exact ⟨fun z => z.elim (fun z => absurd z.symm h1) id, .inr⟩
        simp only [this]
      · rw [if_neg (fun z => h2 z.1), if_neg (fun z => h2 z.1)]
theorem get_app (k v x : Int) : ∀ l : List P2, k ∉ keys l → get (l ++ [(k, v)]) x = if x = k then v else get l x
  | [], _ => by
    rw [List.nil_append, get_cons]
    by_cases h : k = x
    · rw [if_pos h, if_pos h.symm]
    · rw [if_neg h, if_neg (fun z => h z.symm)]
  | p :: l, h => by
    have h : k ∉ p.1 :: keys l := h
    rw [List.mem_cons, not_or] at h
    rw [List.cons_append, get_cons, get_app k v x l h.2, get_cons]
    by_cases h1 : p.1 = x
    · rw [if_pos h1, if_pos h1, if_neg (fun z => h.1 (z.symm.trans h1.symm))]
    · rw [if_neg h1, if_neg h1]
theorem get_put {l : List P2} {k v x : Int} : get (put l k v) x = if x = k then v else get l x := by
  by_cases e : k ∈ keys l
  · unfold put
    rw [if_pos (any_key.mpr e), get_map_put]
    by_cases h : x = k
    · rw [if_pos ⟨h, e⟩, if_pos h]
    · rw [if_neg (fun z => h z.1), if_neg h]
  · rw [keys_put_new e, get_app _ _ _ _ e]
/-- put every pair's factor times m on top -/
def addF (acc ps : List P2) (m : Int) : List P2 := ps.foldl (fun a p => put a p.1 (get a p.1 + m * p.2)) acc
theorem addF_nd : ∀ {ps acc : List P2} {m : Int}, (keys acc).Nodup → (keys (addF acc ps m)).Nodup
  | [], _, _, h => h
  | p :: ps, acc, m, h => addF_nd (ps := ps) (nd_put h)
theorem addF_keys : ∀ {ps acc : List P2} {m x : Int}, x ∈ keys (addF acc ps m) ↔ x ∈ keys acc ∨ x ∈ keys ps
  | [], _, _, _ => by simp [addF, keys]
  | p :: ps, acc, m, x => by
    have := addF_keys (ps := ps) (acc := put acc p.1 (get acc p.1 + m * p.2)) (m := m) (x := x)
    have e : keys (p :: ps) = p.1 :: keys ps := rfl
    rw [e, List.mem_cons]
    rw [mem_keys_put] at this
    show x ∈ keys (addF (put acc p.1 (get acc p.1 + m * p.2)) ps m) ↔ _
    rw [this]
    constructor
    · rintro ((h | h) | h)
      · exact .inl h
      · exact .inr (.inl h)
      · exact .inr (.inr h)
    · rintro (h | h | h)
      · exact .inl (.inl h)
      · exact .inl (.inr h)
      · exact .inr h
theorem addF_get : ∀ {ps acc : List P2} {m x : Int}, (keys ps).Nodup → get (addF acc ps m) x = get acc x + m * get ps x
  | [], _, _, _, _ => by simp [addF, get_nil]
  | p :: ps, acc, m, x, h => by
    have h : (p.1 :: keys ps).Nodup := h
    obtain ⟨h1, h2⟩ := List.nodup_cons.mp h
    show get (addF (put acc p.1 (get acc p.1 + m * p.2)) ps m) x = _
    rw [addF_get h2, get_put, get_cons]
    by_cases e : x = p.1
    · subst e
      rw [if_pos rfl, if_pos rfl, get_no h1]; simp
    · rw [if_neg e, if_neg (fun z => e z.symm)]
/-! ### sums -/
structure Sm where
  c : Int
  fs : List P2
def Sm.d (s : Sm) : D := .tup [.int s.c, .tup (s.fs.map pD)]
structure Sm.good (s : Sm) : Prop where
  up : (keys s.fs).Pairwise (· < ·)
  nz : ∀ p ∈ s.fs, -1 ≤ p.1 ∧ p.2 ≠ 0
theorem lt_nodup {l : List Int} (h : l.Pairwise (· < ·)) : l.Nodup := h.imp fun h => Int.ne_of_lt h
def mk (c : Int) (l : List P2) : Sm := ⟨c, ((isort (keys l)).map fun k => (k, get l k)).filter fun p => !decide (p.2 = 0)⟩
theorem keys_mk_sub {c : Int} {l : List P2} {x : Int} (h : x ∈ keys (mk c l).fs) : x ∈ keys l := by
  obtain ⟨p, hp, rfl⟩ := List.mem_map.mp h
  have hp := (List.mem_filter.mp hp).1
  obtain ⟨k, hk, rfl⟩ := List.mem_map.mp hp
  exact (isort_perm _).mem_iff.mp hk
theorem isort_lt {l : List Int} (h : l.Nodup) : (isort l).Pairwise (· < ·) := by
  have h1 := isort_sorted l
  have h2 : (isort l).Nodup := (isort_perm l).nodup_iff.mpr h
  exact List.Pairwise.imp₂ (fun {a b} h1 h2 => by omega) h1 h2
theorem get_filter (f : Int → Int) (x : Int) : ∀ ks : List Int, get ((ks.map fun k => (k, f k)).filter fun p => !decide (p.2 = 0)) x = if x ∈ ks then f x else 0
  | [] => rfl
  | k :: ks => by
    have ih := get_filter f x ks
    rw [List.map_cons]
    by_cases h : f k = 0
    · rw [List.filter_cons_of_neg (by simp [h]), ih]
      by_cases e : x = k
      · subst e
        rw [if_pos List.mem_cons_self]
        split
        · rfl
        · exact h.symm
      · by_cases hx : x ∈ ks
        · rw [if_pos hx, if_pos (List.mem_cons_of_mem _ hx)]
        · rw [if_neg hx, if_neg (fun z => (List.mem_cons.mp z).elim e hx)]
    · rw [List.filter_cons_of_pos (by simp [h]), get_cons, ih]
      by_cases e : k = x
      · subst e
        rw [if_pos rfl, if_pos List.mem_cons_self]
      · rw [if_neg e]
        by_cases hx : x ∈ ks
        · rw [if_pos hx, if_pos (List.mem_cons_of_mem _ hx)]
        · rw [if_neg hx, if_neg (fun z => (List.mem_cons.mp z).elim (fun z => e z.symm) hx)]
theorem mk_get {c : Int} {l : List P2} {x : Int} : get (mk c l).fs x = get l x := by
  unfold mk
  rw [get_filter (get l)]
  split
  · rfl
  · rename_i h
    rw [(isort_perm _).mem_iff] at h
    exact (get_no h).symm
theorem mk_good {c : Int} {l : List P2} (h : (keys l).Nodup) (h2 : ∀ k ∈ keys l, -1 ≤ k) : (mk c l).good := by
  constructor
  · have h1 := isort_lt h
    have e : keys ((isort (keys l)).map fun k => (k, get l k)) = isort (keys l) := by
      unfold keys; rw [List.map_map]
      show (isort (List.map (fun x => x.1) l)).map id = _
      rw [List.map_id]
    rw [← e] at h1
    exact List.Pairwise.sublist (List.Sublist.map _ List.filter_sublist) h1
  · intro p hp
    refine ⟨h2 _ (keys_mk_sub (c := c) (List.mem_map_of_mem hp)), ?_⟩
    have := (List.mem_filter.mp hp).2
    simpa using this
/-- two right sums of the same constant and the same factors are the same -/
theorem ext_fs : ∀ {l m : List P2}, (keys l).Pairwise (· < ·) → (keys m).Pairwise (· < ·) → (∀ p ∈ l, p.2 ≠ 0) → (∀ p ∈ m, p.2 ≠ 0) → (∀ k, get l k = get m k) → l = m
  | [], [], _, _, _, _, _ => rfl
  | [], q :: m, _, h2, _, h4, h => by
    have := h q.1
    rw [get_nil, get_cons, if_pos rfl] at this
    exact absurd this.symm (h4 q List.mem_cons_self)
  | p :: l, [], _, _, h3, _, h => by
    have := h p.1
    rw [get_nil, get_cons, if_pos rfl] at this
    exact absurd this (h3 p List.mem_cons_self)
  | p :: l, q :: m, h1, h2, h3, h4, h => by
    have h1 : (p.1 :: keys l).Pairwise (· < ·) := h1
    have h2 : (q.1 :: keys m).Pairwise (· < ·) := h2
    obtain ⟨u1, u2⟩ := List.pairwise_cons.mp h1
    obtain ⟨w1, w2⟩ := List.pairwise_cons.mp h2
    have nl : ∀ k, k ≤ p.1 → get l k = 0 := fun k hk => get_no fun z => by have := u1 k z; omega
    have nm : ∀ k, k ≤ q.1 → get m k = 0 := fun k hk => get_no fun z => by have := w1 k z; omega
    have e : p.1 = q.1 := by
      rcases Int.lt_trichotomy p.1 q.1 with c | c | c
      · have := h p.1
        rw [get_cons, if_pos rfl, get_cons, if_neg (by omega), nm _ (by omega)] at this
        exact absurd this (h3 p List.mem_cons_self)
      · exact c
      · have := h q.1
        rw [get_cons, if_neg (by omega), nl _ (by omega), get_cons, if_pos rfl] at this
        exact absurd this.symm (h4 q List.mem_cons_self)
    have e2 : p.2 = q.2 := by
      have := h p.1
      rwa [get_cons, if_pos rfl, get_cons, if_pos e.symm] at this
    have e3 : l = m := ext_fs u2 w2 (fun x hx => h3 x (List.mem_cons_of_mem _ hx)) (fun x hx => h4 x (List.mem_cons_of_mem _ hx)) fun k => by
      have := h k
      rw [get_cons, get_cons] at this
      by_cases z : p.1 = k
      · rw [nl k (by omega), nm k (by omega)]
      · rw [if_neg z, if_neg (by rw [← e]; exact z)] at this
        exact this
    rw [e3, show p = q from Prod.ext e e2]
theorem Sm.ext' {s t : Sm} (hs : s.good) (ht : t.good) (hc : s.c = t.c) (h : ∀ k, get s.fs k = get t.fs k) : s = t := by
  obtain ⟨c, fs⟩ := s
  obtain ⟨c', fs'⟩ := t
  have hc : c = c' := hc
  subst hc
  have e : fs = fs' := ext_fs hs.up ht.up (fun p hp => (hs.nz p hp).2) (fun p hp => (ht.nz p hp).2) h
  rw [e]
/-- one + m * other -/
def plus (a b : Sm) (m : Int) : Sm := mk (a.c + m * b.c) (addF a.fs b.fs m)
def tms (m : Int) (a : Sm) : Sm := mk (m * a.c) (a.fs.map fun p => (p.1, m * p.2))
theorem Sm.good.nd {s : Sm} (h : s.good) : (keys s.fs).Nodup := lt_nodup h.up
theorem Sm.good.key {s : Sm} (h : s.good) {k : Int} (hk : k ∈ keys s.fs) : -1 ≤ k := by
  obtain ⟨p, hp, rfl⟩ := List.mem_map.mp hk
  exact (h.nz p hp).1
theorem plus_good {a b : Sm} {m : Int} (ha : a.good) (hb : b.good) : (plus a b m).good :=
  mk_good (addF_nd ha.nd) fun k hk => (addF_keys.mp hk).elim ha.key hb.key
theorem plus_get {a b : Sm} {m k : Int} (hb : b.good) : get (plus a b m).fs k = get a.fs k + m * get b.fs k := by
  unfold plus; rw [mk_get, addF_get hb.nd]
theorem keys_scale (m : Int) (l : List P2) : keys (l.map fun p => (p.1, m * p.2)) = keys l := by
  unfold keys; rw [List.map_map]; rfl
theorem get_scale (m k : Int) : ∀ l : List P2, get (l.map fun p => (p.1, m * p.2)) k = m * get l k
  | [] => by simp [get_nil]
  | p :: l => by
    rw [List.map_cons, get_cons, get_cons, get_scale m k l]
    split <;> rfl
theorem tms_good {a : Sm} {m : Int} (ha : a.good) : (tms m a).good :=
  mk_good (by rw [keys_scale]; exact ha.nd) fun k hk => ha.key (by rw [keys_scale] at hk; exact hk)
theorem tms_get {a : Sm} {m k : Int} : get (tms m a).fs k = m * get a.fs k := by unfold tms; rw [mk_get, get_scale]
theorem zero_good : Sm.good ⟨0, []⟩ := ⟨List.Pairwise.nil, fun p hp => by cases hp⟩
theorem tms_eq {a : Sm} {m : Int} (ha : a.good) : tms m a = plus ⟨0, []⟩ a m := by
  refine Sm.ext' (tms_good ha) (plus_good zero_good ha) ?_ fun k => ?_
  · show m * a.c = 0 + m * a.c; omega
  · rw [tms_get, plus_get ha, get_nil]; omega
theorem plus_tms {a b : Sm} {m : Int} (ha : a.good) (hb : b.good) : plus a (tms m b) 1 = plus a b m := by
  refine Sm.ext' (plus_good ha (tms_good hb)) (plus_good ha hb) ?_ fun k => ?_
  · show a.c + 1 * (m * b.c) = a.c + m * b.c; omega
  · rw [plus_get (tms_good hb), plus_get hb, tms_get]; omega
/-! ### what a sum is worth -/
def wsum (l : List P2) (v : Int → Int) : Int := (l.map fun p => p.2 * v p.1).sum
def Sm.w (s : Sm) (v : Int → Int) : Int := s.c + wsum s.fs v
theorem wsum_nil (v : Int → Int) : wsum [] v = 0 := rfl
theorem wsum_cons (p : P2) (l : List P2) (v : Int → Int) : wsum (p :: l) v = p.2 * v p.1 + wsum l v := by
  unfold wsum; rw [List.map_cons, List.sum_cons]
theorem wsum_app (l m : List P2) (v : Int → Int) : wsum (l ++ m) v = wsum l v + wsum m v := by
  unfold wsum; rw [List.map_append, List.sum_append]
theorem wsum_map_put (k x : Int) (v : Int → Int) : ∀ l : List P2, (keys l).Nodup → k ∈ keys l → wsum (l.map fun p => if p.1 = k then (p.1, x) else p) v = wsum l v + (x - get l k) * v k
  | [], _, h => by cases h
  | p :: l, hn, h => by
    have hn : (p.1 :: keys l).Nodup := hn
    obtain ⟨h1, h2⟩ := List.nodup_cons.mp hn
    rw [List.map_cons, wsum_cons, wsum_cons, get_cons]
    by_cases e : p.1 = k
    · subst e
      rw [if_pos rfl, if_pos rfl]
      have e2 : (l.map fun q : P2 => if q.1 = p.1 then (q.1, x) else q) = l := by
        have : ∀ q ∈ l, (if q.1 = p.1 then (q.1, x) else q) = q := fun q hq => by
          rw [if_neg]
          intro z
          exact h1 (by rw [← z]; exact List.mem_map_of_mem hq)
        rw [List.map_congr_left this, List.map_id']
      rw [e2, Int.sub_mul]; show x * v p.1 + _ = _; omega
    · rw [if_neg e, if_neg e]
      have hk : k ∈ keys l := (List.mem_cons.mp (show k ∈ p.1 :: keys l from h)).elim (fun z => absurd z.symm e) id
      rw [wsum_map_put k x v l h2 hk]; omega
theorem wsum_put {l : List P2} {k x : Int} {v : Int → Int} (hn : (keys l).Nodup) : wsum (put l k x) v = wsum l v + (x - get l k) * v k := by
  by_cases e : k ∈ keys l
  · unfold put
    rw [if_pos (any_key.mpr e), wsum_map_put k x v l hn e]
  · rw [keys_put_new e, wsum_app, wsum_cons, wsum_nil, get_no e]
    show _ + (x * v k + 0) = _; rw [Int.sub_zero]; omega
theorem wsum_addF {m : Int} {v : Int → Int} : ∀ {ps acc : List P2}, (keys acc).Nodup → wsum (addF acc ps m) v = wsum acc v + m * wsum ps v
  | [], acc, _ => by simp [addF, wsum_nil]
  | p :: ps, acc, h => by
    show wsum (addF (put acc p.1 (get acc p.1 + m * p.2)) ps m) v = _
    rw [wsum_addF (nd_put h), wsum_put h, wsum_cons, Int.mul_add, ← Int.mul_assoc]
    rw [show get acc p.1 + m * p.2 - get acc p.1 = m * p.2 by omega]; omega
theorem wsum_filter (v : Int → Int) : ∀ l : List P2, wsum (l.filter fun p => !decide (p.2 = 0)) v = wsum l v
  | [] => rfl
  | p :: l => by
    by_cases e : p.2 = 0
    · rw [List.filter_cons_of_neg (by simp [e]), wsum_filter v l, wsum_cons, e]; omega
    · rw [List.filter_cons_of_pos (by simp [e]), wsum_cons, wsum_cons, wsum_filter v l]
theorem sum_perm {l m : List Int} (h : l.Perm m) : l.sum = m.sum := by
  induction h with
  | nil => rfl
  | cons x _ ih => rw [List.sum_cons, List.sum_cons, ih]
  | swap x y l => rw [List.sum_cons, List.sum_cons, List.sum_cons, List.sum_cons]; omega
  | trans _ _ ih1 ih2 => rw [ih1, ih2]
theorem mk_w {c : Int} {l : List P2} {v : Int → Int} (h : (keys l).Nodup) : (mk c l).w v = c + wsum l v := by
  unfold mk Sm.w
  rw [wsum_filter]
  congr 1
  unfold wsum
  rw [List.map_map]
  have p1 : ((isort (keys l)).map fun k => get l k * v k).Perm ((keys l).map fun k => get l k * v k) := (isort_perm _).map _
  have e := sum_perm p1
  have e2 : ((keys l).map fun k => get l k * v k) = l.map fun p => p.2 * v p.1 := by
    unfold keys
    rw [List.map_map]
    refine List.map_congr_left fun p hp => ?_
    show get l p.1 * v p.1 = _
    rw [get_mem h hp]
  rw [e2] at e
  exact e
theorem plus_w {a b : Sm} {m : Int} {v : Int → Int} (ha : a.good) : (plus a b m).w v = a.w v + m * b.w v := by
  unfold plus
  rw [mk_w (addF_nd ha.nd), wsum_addF ha.nd]
  unfold Sm.w
  rw [Int.mul_add]; omega
/-! ### put in -/
def swp (means : Int → Sm) (ps : List P2) (acc : Sm) : Sm := ps.foldl (fun a p => plus a (means p.1) p.2) acc
theorem swp_good {means : Int → Sm} : ∀ {ps : List P2} {acc : Sm}, (∀ p ∈ ps, (means p.1).good) → acc.good → (swp means ps acc).good
  | [], _, _, h => h
  | p :: ps, acc, hm, h => swp_good (ps := ps) (fun q hq => hm q (List.mem_cons_of_mem _ hq)) (plus_good h (hm p List.mem_cons_self))
theorem swp_w {means : Int → Sm} {v : Int → Int} : ∀ {ps : List P2} {acc : Sm}, (∀ p ∈ ps, (means p.1).good) → acc.good → (swp means ps acc).w v = acc.w v + wsum ps fun k => (means k).w v
  | [], acc, _, _ => by rw [wsum_nil]; show acc.w v = _; omega
  | p :: ps, acc, hm, h => by
    show (swp means ps (plus acc (means p.1) p.2)).w v = _
    rw [swp_w (fun q hq => hm q (List.mem_cons_of_mem _ hq)) (plus_good h (hm p List.mem_cons_self)), plus_w h, wsum_cons]; omega
/-! ### bounds -/
def Sm.bd (s : Sm) (b : Nat) : Prop := s.c.natAbs ≤ b ∧ ∀ k, (get s.fs k).natAbs ≤ b
theorem natAbs_mul_le {m x : Int} {a b : Nat} (h1 : m.natAbs ≤ a) (h2 : x.natAbs ≤ b) : (m * x).natAbs ≤ a * b := by
  rw [Int.natAbs_mul]; exact Nat.mul_le_mul h1 h2
theorem natAbs_add_le' {x y : Int} {a b : Nat} (h1 : x.natAbs ≤ a) (h2 : y.natAbs ≤ b) : (x + y).natAbs ≤ a + b := by omega
theorem plus_bd {a b : Sm} {m : Int} {x y z : Nat} (hb : b.good) (ha : a.bd x) (hbb : b.bd y) (hm : m.natAbs ≤ z) : (plus a b m).bd (x + z * y) :=
  ⟨natAbs_add_le' ha.1 (natAbs_mul_le hm hbb.1), fun k => by rw [plus_get hb]; exact natAbs_add_le' (ha.2 k) (natAbs_mul_le hm (hbb.2 k))⟩
theorem tms_bd {a : Sm} {m : Int} {y z : Nat} (ha : a.bd y) (hm : m.natAbs ≤ z) : (tms m a).bd (z * y) :=
  ⟨natAbs_mul_le hm ha.1, fun k => by rw [tms_get]; exact natAbs_mul_le hm (ha.2 k)⟩
theorem Sm.bd.mem {s : Sm} {b : Nat} (h : s.bd b) (g : s.good) {p : P2} (hp : p ∈ s.fs) : p.2.natAbs ≤ b := by
  have := h.2 p.1
  rwa [get_mem g.nd hp] at this
/-- the names are among these -/
def Sm.sub (s : Sm) (ns : List Int) : Prop := ∀ k ∈ keys s.fs, k ∈ ns
theorem plus_sub {a b : Sm} {m : Int} {ns : List Int} (ha : a.sub ns) (hb : b.sub ns) : (plus a b m).sub ns := fun k hk => (addF_keys.mp (keys_mk_sub hk)).elim (ha k) (hb k)
theorem tms_sub {a : Sm} {m : Int} {ns : List Int} (ha : a.sub ns) : (tms m a).sub ns := fun k hk => ha k (by have := keys_mk_sub hk; rwa [keys_scale] at this)
theorem nodup_len : ∀ {l ns : List Int}, l.Nodup → (∀ k ∈ l, k ∈ ns) → l.length ≤ ns.length
  | [], _, _, _ => Nat.zero_le _
  | a :: l, ns, h, hs => by
    obtain ⟨h1, h2⟩ := List.nodup_cons.mp h
    have ha : a ∈ ns := hs a List.mem_cons_self
    have ih := nodup_len (ns := ns.erase a) h2 fun k hk => by
      refine (List.mem_erase_of_ne ?_).mpr (hs k (List.mem_cons_of_mem _ hk))
      rintro rfl; exact h1 hk
    have := List.length_erase_of_mem ha
    have pos : 0 < ns.length := List.length_pos_of_mem ha
    rw [List.length_cons]; omega
end K00
set_option Elab.async false
set_option linter.all false
set_option maxRecDepth 100000
set_option maxHeartbeats 1000000
namespace K00
open PySem L2 DL
def kvD (l : List P2) : List (Key × D) := l.map fun p => (.inl p.1, .int p.2)
theorem inl_eq {a b : Int} : decide ((Sum.inl a : Key) = Sum.inl b) = decide (a = b) := by
  rw [decide_eq_decide]; exact ⟨fun h => Sum.inl.inj h, fun h => by rw [h]⟩
theorem dget_kv (k : Int) : ∀ l : List P2, dget (kvD l) (.inl k) = (l.find? fun p => decide (p.1 = k)).map fun p => D.int p.2
  | [] => rfl
  | p :: l => by
    have ih := dget_kv k l
    unfold dget kvD at ih ⊢
    rw [List.map_cons]
    by_cases h : p.1 = k
    · rw [List.find?_cons_of_pos (by rw [inl_eq]; simpa using h), List.find?_cons_of_pos (by simpa using h)]; rfl
    · rw [List.find?_cons_of_neg (by rw [inl_eq]; simpa using h), List.find?_cons_of_neg (by simpa using h)]; exact ih
theorem dget_get {k : Int} {l : List P2} : (dget (kvD l) (.inl k)).getD (D.int 0) = D.int (get l k) := by
  rw [dget_kv]; unfold get
  cases l.find? fun p => decide (p.1 = k) <;> rfl
theorem dget_in {k : Int} {l : List P2} (h : k ∈ keys l) : dget (kvD l) (.inl k) = some (D.int (get l k)) := by
  rw [dget_kv]; unfold get
  cases e : l.find? fun p => decide (p.1 = k) with
  | some p => rfl
  | none =>
    obtain ⟨p, hp, rfl⟩ := List.mem_map.mp h
    have := List.find?_eq_none.mp e p hp
    simp at this
theorem dput_kv (k v : Int) (l : List P2) : dput (kvD l) (.inl k) (.int v) = kvD (put l k v) := by
  unfold dput put
  have e : ((kvD l).any fun kv => decide (kv.1 = (Sum.inl k : Key))) = (l.any fun p => decide (p.1 = k)) := by
    unfold kvD
    rw [List.any_map]
    congr 1
    funext p
    exact inl_eq
  rw [e]
  split
  · unfold kvD
    rw [List.map_map, List.map_map]
    refine List.map_congr_left fun p _ => ?_
    show (if (Sum.inl p.1 : Key) = Sum.inl k then ((Sum.inl p.1 : Key), D.int v) else _) = _
    by_cases h : p.1 = k
    · rw [if_pos (by rw [h])]
      show _ = ((Sum.inl (if p.1 = k then (p.1, v) else p).1 : Key), D.int (if p.1 = k then (p.1, v) else p).2)
      rw [if_pos h]
    · rw [if_neg (fun z => h (Sum.inl.inj z))]
      show _ = ((Sum.inl (if p.1 = k then (p.1, v) else p).1 : Key), D.int (if p.1 = k then (p.1, v) else p).2)
      rw [if_neg h]
  · unfold kvD; rw [List.map_append]; rfl
theorem intKeys_kv : ∀ l : List P2, intKeys (kvD l) = some (keys l)
  | [] => rfl
  | p :: l => by
    show (intKeys (kvD l)).map (p.1 :: ·) = _
    rw [intKeys_kv l]; rfl
theorem asPairs_kv : ∀ l : List P2, asPairs (l.map pD) = some (kvD l)
  | [] => rfl
  | p :: l => by
    show (asPairs (l.map pD)).map ((Sum.inl p.1, D.int p.2) :: ·) = _
    rw [asPairs_kv l]; rfl
theorem merge_kv : ∀ {l acc : List P2}, (keys acc ++ keys l).Nodup → dmerge (kvD acc) (kvD l) = kvD (acc ++ l)
  | [], acc, _ => by rw [List.append_nil]; rfl
  | p :: l, acc, h => by
    have hk : keys (p :: l) = p.1 :: keys l := rfl
    rw [hk] at h
    have hn : p.1 ∉ keys acc := by
      intro z
      have := (List.nodup_append.mp h).2.2 p.1 z p.1 List.mem_cons_self
      exact this rfl
    show dmerge (dput (kvD acc) (.inl p.1) (.int p.2)) (kvD l) = _
    rw [dput_kv, keys_put_new hn, merge_kv]
    · rw [List.append_assoc]; rfl
    · have e : keys (acc ++ [(p.1, p.2)]) = keys acc ++ [p.1] := by unfold keys; rw [List.map_append]; rfl
      rw [e, List.append_assoc]; exact h
theorem merge_nil {l : List P2} (h : (keys l).Nodup) : dmerge [] (kvD l) = kvD l := merge_kv (acc := []) h
def spSumWith : DSp := fun ds S Q => ∃ c l, ds = [.int c, .dct (kvD l)] ∧ (keys l).Nodup ∧ l.length < 64 ∧ Q (mk c l).d S
theorem mk_items {l : List P2} : ((isort (keys l)).map D.int |>.filter fun d => match d with | .int k => !decide (get l k = 0) | _ => false).map (fun d => match d with | .int k => pD (k, get l k) | _ => .non) = ((((isort (keys l)).map fun k => (k, get l k)).filter fun p => !decide (p.2 = 0)).map pD) := by
  rw [List.filter_map, List.filter_map, List.map_map, List.map_map]
  rfl
theorem r_sum_with {T : Tb} {ds : List D} {S : Store} {Q : DQ} (h : spSumWith ds S Q) : denSs T core_sum_with (DD Q) (start0 N_sum_with.length ds) S := by
  obtain ⟨c, l, rfl, hn, hl, q⟩ := h
  simp only [core_sum_with, N_sum_with, DD, denSs, denS, den, dens, denO, denT, denI, DV.of, DV.ofB, sSeq, sRet, sRetN, sNext, sIf, sSet, sSetG, sPar, sPar3, sSetIx, sDrop, sFor, sForKeys, sBreak, sCont, dAnd, dOr, dNot, dAndT, dOrT, dNotT, dUn, dOp, dIte, dVar, dC, dTup, dLst, dNil, dCons, dCall, dCut, dPart, dNoPart, dGet1, dGet2, dApp,
  dSeq1, dRange1, dRange2, dEnum, dZip, dLc, dDc, dChain, fIsi, fBlt, fLen, fAbs, fInt1, fMax, fMin, fL1, fTuple, fList, fSorted, fDict, fBin, fCmp, fNeg, fAdd, fSub, fMul, fMod, fDiv, fPow, fInt, fInt0, fLt, fLe, fGt, fGe, fIs, fIsNot, fInD, fIx, fCut, fSeq, fRange1, fRange2, fEnum, fZip, fSetIx, fGet, fApp, fLenSet, fAug, sAug, tOf, tOfB, guardN, gset, gsets, sFrz, frz_dct, frz_lst, fEq_int, fNe_int, fEq_bl, fNe_bl, fEq_nil, fNe_nil, fEq_ints,
  TyC.name, DL.isNon, start0, List.length_cons, List.length_nil, List.map_cons, List.map_nil, List.cons_append, List.nil_append, List.getElem?_cons_zero, List.getElem?_cons_succ, List.getElem?_nil, List.set_cons_zero, List.set_cons_succ, List.set_nil, List.replicate, Nat.reduceSub, Nat.reduceAdd, mkL, mkD, dwipe, Bool.false_eq_true, if_true, if_false, ite_true, ite_false, true_and, and_true, Option.isSome_some, Option.isSome_none, Option.map_some, Option.map_none, Option.getD_some, Option.getD_none,
  tyD_non, tyD_bl, tyD_int, tyD_str, tyD_tup, tyD_lst, tyD_dct, truD_non, truD_bl, truD_int, truD_tup, truD_lst, truD_dct, asL_non, asD_non, keyD_non, asL_bl, asD_bl, keyD_bl, asL_int, asD_int, keyD_int, asL_str, asD_str, keyD_str, asL_tup, asD_tup, keyD_tup, asL_lst, asD_lst, keyD_lst, asL_dct, asD_dct, keyD_dct, asL_scr, asD_scr, keyD_scr, asL_sup, asD_sup, asL_supD, isLs_sup, tyD_supL, tyD_supD, sup_same, sup_sup, ixN_1_0, ixN_2_0, ixN_2_1, ixN_3_0, ixN_3_1, ixN_3_2, ixN_4_0, ixN_4_1, ixN_4_2, ixN_4_3, ixN_5_0, ixN_5_1, ixN_5_2, ixN_5_3, ixN_5_4, ixN_6_0, ixN_6_1, ixN_6_2, ixN_6_3, ixN_6_4, ixN_6_5, ixN_7_0, ixN_7_1, ixN_7_2, ixN_7_3, ixN_7_4, ixN_7_5, ixN_7_6, ixN_8_0, ixN_8_1, ixN_8_2, ixN_8_3, ixN_8_4, ixN_8_5, ixN_8_6, ixN_8_7, atI_0, atI_1, atI_2, atI_3, atI_4, atI_5, atI_6, atI_7, atI_8, isi_NoneType_bool, isi_NoneType_int, isi_NoneType_str, isi_NoneType_tuple, isi_NoneType_list, isi_NoneType_dict, isi_bool_bool, isi_bool_int, isi_bool_str, isi_bool_tuple, isi_bool_list, isi_bool_dict, isi_int_bool, isi_int_int, isi_int_str, isi_int_tuple, isi_int_list, isi_int_dict, isi_str_bool, isi_str_int, isi_str_str, isi_str_tuple, isi_str_list, isi_str_dict, isi_tuple_bool, isi_tuple_int, isi_tuple_str, isi_tuple_tuple, isi_tuple_list, isi_tuple_dict, isi_list_bool, isi_list_int, isi_list_str, isi_list_tuple, isi_list_list, isi_list_dict, isi_dict_bool, isi_dict_int, isi_dict_str, isi_dict_tuple, isi_dict_list, isi_dict_dict, intKeys_kv]
  have hk : (keys l).length = l.length := List.length_map _
  refine ⟨by omega, ?_⟩
  refine lcL_pure (p := fun d => match d with | .int k => !decide (get l k = 0) | _ => false) (f := fun d => match d with | .int k => pD (k, get l k) | _ => .non) trivial _ _ (fun x hx => ?_) ?_
  · obtain ⟨k, hk, rfl⟩ := List.mem_map.mp hx
    rw [(isort_perm _).mem_iff] at hk
    refine ⟨_, rfl, fun Q' q' => ?_, fun _ Q' q' => ?_⟩
    · simp only [denSs, denS, den, dens, denO, denT, denI, DV.of, DV.ofB, sSeq, sRet, sRetN, sNext, sIf, sSet, sSetG, sPar, sPar3, sSetIx, sDrop, sFor, sForKeys, sBreak, sCont, dAnd, dOr, dNot, dAndT, dOrT, dNotT, dUn, dOp, dIte, dVar, dC, dTup, dLst, dNil, dCons, dCall, dCut, dPart, dNoPart, dGet1, dGet2, dApp,
  dSeq1, dRange1, dRange2, dEnum, dZip, dLc, dDc, dChain, fIsi, fBlt, fLen, fAbs, fInt1, fMax, fMin, fL1, fTuple, fList, fSorted, fDict, fBin, fCmp, fNeg, fAdd, fSub, fMul, fMod, fDiv, fPow, fInt, fInt0, fLt, fLe, fGt, fGe, fIs, fIsNot, fInD, fIx, fCut, fSeq, fRange1, fRange2, fEnum, fZip, fSetIx, fGet, fApp, fLenSet, fAug, sAug, tOf, tOfB, guardN, gset, gsets, sFrz, frz_dct, frz_lst, fEq_int, fNe_int, fEq_bl, fNe_bl, fEq_nil, fNe_nil, fEq_ints,
  TyC.name, DL.isNon, start0, List.length_cons, List.length_nil, List.map_cons, List.map_nil, List.cons_append, List.nil_append, List.getElem?_cons_zero, List.getElem?_cons_succ, List.getElem?_nil, List.set_cons_zero, List.set_cons_succ, List.set_nil, List.replicate, Nat.reduceSub, Nat.reduceAdd, mkL, mkD, dwipe, Bool.false_eq_true, if_true, if_false, ite_true, ite_false, true_and, and_true, Option.isSome_some, Option.isSome_none, Option.map_some, Option.map_none, Option.getD_some, Option.getD_none,
  tyD_non, tyD_bl, tyD_int, tyD_str, tyD_tup, tyD_lst, tyD_dct, truD_non, truD_bl, truD_int, truD_tup, truD_lst, truD_dct, asL_non, asD_non, keyD_non, asL_bl, asD_bl, keyD_bl, asL_int, asD_int, keyD_int, asL_str, asD_str, keyD_str, asL_tup, asD_tup, keyD_tup, asL_lst, asD_lst, keyD_lst, asL_dct, asD_dct, keyD_dct, asL_scr, asD_scr, keyD_scr, asL_sup, asD_sup, asL_supD, isLs_sup, tyD_supL, tyD_supD, sup_same, sup_sup, ixN_1_0, ixN_2_0, ixN_2_1, ixN_3_0, ixN_3_1, ixN_3_2, ixN_4_0, ixN_4_1, ixN_4_2, ixN_4_3, ixN_5_0, ixN_5_1, ixN_5_2, ixN_5_3, ixN_5_4, ixN_6_0, ixN_6_1, ixN_6_2, ixN_6_3, ixN_6_4, ixN_6_5, ixN_7_0, ixN_7_1, ixN_7_2, ixN_7_3, ixN_7_4, ixN_7_5, ixN_7_6, ixN_8_0, ixN_8_1, ixN_8_2, ixN_8_3, ixN_8_4, ixN_8_5, ixN_8_6, ixN_8_7, atI_0, atI_1, atI_2, atI_3, atI_4, atI_5, atI_6, atI_7, atI_8, isi_NoneType_bool, isi_NoneType_int, isi_NoneType_str, isi_NoneType_tuple, isi_NoneType_list, isi_NoneType_dict, isi_bool_bool, isi_bool_int, isi_bool_str, isi_bool_tuple, isi_bool_list, isi_bool_dict, isi_int_bool, isi_int_int, isi_int_str, isi_int_tuple, isi_int_list, isi_int_dict, isi_str_bool, isi_str_int, isi_str_str, isi_str_tuple, isi_str_list, isi_str_dict, isi_tuple_bool, isi_tuple_int, isi_tuple_str, isi_tuple_tuple, isi_tuple_list, isi_tuple_dict, isi_list_bool, isi_list_int, isi_list_str, isi_list_tuple, isi_list_list, isi_list_dict, isi_dict_bool, isi_dict_int, isi_dict_str, isi_dict_tuple, isi_dict_list, isi_dict_dict, dget_in hk]; exact q'
    · simp only [denSs, denS, den, dens, denO, denT, denI, DV.of, DV.ofB, sSeq, sRet, sRetN, sNext, sIf, sSet, sSetG, sPar, sPar3, sSetIx, sDrop, sFor, sForKeys, sBreak, sCont, dAnd, dOr, dNot, dAndT, dOrT, dNotT, dUn, dOp, dIte, dVar, dC, dTup, dLst, dNil, dCons, dCall, dCut, dPart, dNoPart, dGet1, dGet2, dApp,
  dSeq1, dRange1, dRange2, dEnum, dZip, dLc, dDc, dChain, fIsi, fBlt, fLen, fAbs, fInt1, fMax, fMin, fL1, fTuple, fList, fSorted, fDict, fBin, fCmp, fNeg, fAdd, fSub, fMul, fMod, fDiv, fPow, fInt, fInt0, fLt, fLe, fGt, fGe, fIs, fIsNot, fInD, fIx, fCut, fSeq, fRange1, fRange2, fEnum, fZip, fSetIx, fGet, fApp, fLenSet, fAug, sAug, tOf, tOfB, guardN, gset, gsets, sFrz, frz_dct, frz_lst, fEq_int, fNe_int, fEq_bl, fNe_bl, fEq_nil, fNe_nil, fEq_ints,
  TyC.name, DL.isNon, start0, List.length_cons, List.length_nil, List.map_cons, List.map_nil, List.cons_append, List.nil_append, List.getElem?_cons_zero, List.getElem?_cons_succ, List.getElem?_nil, List.set_cons_zero, List.set_cons_succ, List.set_nil, List.replicate, Nat.reduceSub, Nat.reduceAdd, mkL, mkD, dwipe, Bool.false_eq_true, if_true, if_false, ite_true, ite_false, true_and, and_true, Option.isSome_some, Option.isSome_none, Option.map_some, Option.map_none, Option.getD_some, Option.getD_none,
  tyD_non, tyD_bl, tyD_int, tyD_str, tyD_tup, tyD_lst, tyD_dct, truD_non, truD_bl, truD_int, truD_tup, truD_lst, truD_dct, asL_non, asD_non, keyD_non, asL_bl, asD_bl, keyD_bl, asL_int, asD_int, keyD_int, asL_str, asD_str, keyD_str, asL_tup, asD_tup, keyD_tup, asL_lst, asD_lst, keyD_lst, asL_dct, asD_dct, keyD_dct, asL_scr, asD_scr, keyD_scr, asL_sup, asD_sup, asL_supD, isLs_sup, tyD_supL, tyD_supD, sup_same, sup_sup, ixN_1_0, ixN_2_0, ixN_2_1, ixN_3_0, ixN_3_1, ixN_3_2, ixN_4_0, ixN_4_1, ixN_4_2, ixN_4_3, ixN_5_0, ixN_5_1, ixN_5_2, ixN_5_3, ixN_5_4, ixN_6_0, ixN_6_1, ixN_6_2, ixN_6_3, ixN_6_4, ixN_6_5, ixN_7_0, ixN_7_1, ixN_7_2, ixN_7_3, ixN_7_4, ixN_7_5, ixN_7_6, ixN_8_0, ixN_8_1, ixN_8_2, ixN_8_3, ixN_8_4, ixN_8_5, ixN_8_6, ixN_8_7, atI_0, atI_1, atI_2, atI_3, atI_4, atI_5, atI_6, atI_7, atI_8, isi_NoneType_bool, isi_NoneType_int, isi_NoneType_str, isi_NoneType_tuple, isi_NoneType_list, isi_NoneType_dict, isi_bool_bool, isi_bool_int, isi_bool_str, isi_bool_tuple, isi_bool_list, isi_bool_dict, isi_int_bool, isi_int_int, isi_int_str, isi_int_tuple, isi_int_list, isi_int_dict, isi_str_bool, isi_str_int, isi_str_str, isi_str_tuple, isi_str_list, isi_str_dict, isi_tuple_bool, isi_tuple_int, isi_tuple_str, isi_tuple_tuple, isi_tuple_list, isi_tuple_dict, isi_list_bool, isi_list_int, isi_list_str, isi_list_tuple, isi_list_list, isi_list_dict, isi_dict_bool, isi_dict_int, isi_dict_str, isi_dict_tuple, isi_dict_list, isi_dict_dict, dget_in hk]; exact ⟨by decide, q'⟩
  · rw [List.nil_append, mk_items]
    refine ⟨by decide, .of q⟩
theorem r_law_sum {T : Tb} {ds : List D} {S : Store} {Q : DQ} (h : spSumWith ds S Q) : denSs T core__law_sum (DD Q) (start0 N__law_sum.length ds) S := by
  obtain ⟨c, l, rfl, hn, hl, q⟩ := h
  simp only [core__law_sum, N__law_sum, DD, denSs, denS, den, dens, denO, denT, denI, DV.of, DV.ofB, sSeq, sRet, sRetN, sNext, sIf, sSet, sSetG, sPar, sPar3, sSetIx, sDrop, sFor, sForKeys, sBreak, sCont, dAnd, dOr, dNot, dAndT, dOrT, dNotT, dUn, dOp, dIte, dVar, dC, dTup, dLst, dNil, dCons, dCall, dCut, dPart, dNoPart, dGet1, dGet2, dApp,
  dSeq1, dRange1, dRange2, dEnum, dZip, dLc, dDc, dChain, fIsi, fBlt, fLen, fAbs, fInt1, fMax, fMin, fL1, fTuple, fList, fSorted, fDict, fBin, fCmp, fNeg, fAdd, fSub, fMul, fMod, fDiv, fPow, fInt, fInt0, fLt, fLe, fGt, fGe, fIs, fIsNot, fInD, fIx, fCut, fSeq, fRange1, fRange2, fEnum, fZip, fSetIx, fGet, fApp, fLenSet, fAug, sAug, tOf, tOfB, guardN, gset, gsets, sFrz, frz_dct, frz_lst, fEq_int, fNe_int, fEq_bl, fNe_bl, fEq_nil, fNe_nil, fEq_ints,
  TyC.name, DL.isNon, start0, List.length_cons, List.length_nil, List.map_cons, List.map_nil, List.cons_append, List.nil_append, List.getElem?_cons_zero, List.getElem?_cons_succ, List.getElem?_nil, List.set_cons_zero, List.set_cons_succ, List.set_nil, List.replicate, Nat.reduceSub, Nat.reduceAdd, mkL, mkD, dwipe, Bool.false_eq_true, if_true, if_false, ite_true, ite_false, true_and, and_true, Option.isSome_some, Option.isSome_none, Option.map_some, Option.map_none, Option.getD_some, Option.getD_none,
  tyD_non, tyD_bl, tyD_int, tyD_str, tyD_tup, tyD_lst, tyD_dct, truD_non, truD_bl, truD_int, truD_tup, truD_lst, truD_dct, asL_non, asD_non, keyD_non, asL_bl, asD_bl, keyD_bl, asL_int, asD_int, keyD_int, asL_str, asD_str, keyD_str, asL_tup, asD_tup, keyD_tup, asL_lst, asD_lst, keyD_lst, asL_dct, asD_dct, keyD_dct, asL_scr, asD_scr, keyD_scr, asL_sup, asD_sup, asL_supD, isLs_sup, tyD_supL, tyD_supD, sup_same, sup_sup, ixN_1_0, ixN_2_0, ixN_2_1, ixN_3_0, ixN_3_1, ixN_3_2, ixN_4_0, ixN_4_1, ixN_4_2, ixN_4_3, ixN_5_0, ixN_5_1, ixN_5_2, ixN_5_3, ixN_5_4, ixN_6_0, ixN_6_1, ixN_6_2, ixN_6_3, ixN_6_4, ixN_6_5, ixN_7_0, ixN_7_1, ixN_7_2, ixN_7_3, ixN_7_4, ixN_7_5, ixN_7_6, ixN_8_0, ixN_8_1, ixN_8_2, ixN_8_3, ixN_8_4, ixN_8_5, ixN_8_6, ixN_8_7, atI_0, atI_1, atI_2, atI_3, atI_4, atI_5, atI_6, atI_7, atI_8, isi_NoneType_bool, isi_NoneType_int, isi_NoneType_str, isi_NoneType_tuple, isi_NoneType_list, isi_NoneType_dict, isi_bool_bool, isi_bool_int, isi_bool_str, isi_bool_tuple, isi_bool_list, isi_bool_dict, isi_int_bool, isi_int_int, isi_int_str, isi_int_tuple, isi_int_list, isi_int_dict, isi_str_bool, isi_str_int, isi_str_str, isi_str_tuple, isi_str_list, isi_str_dict, isi_tuple_bool, isi_tuple_int, isi_tuple_str, isi_tuple_tuple, isi_tuple_list, isi_tuple_dict, isi_list_bool, isi_list_int, isi_list_str, isi_list_tuple, isi_list_list, isi_list_dict, isi_dict_bool, isi_dict_int, isi_dict_str, isi_dict_tuple, isi_dict_list, isi_dict_dict, intKeys_kv]
  have hk : (keys l).length = l.length := List.length_map _
  refine ⟨by omega, ?_⟩
  refine lcL_pure (p := fun d => match d with | .int k => !decide (get l k = 0) | _ => false) (f := fun d => match d with | .int k => pD (k, get l k) | _ => .non) trivial _ _ (fun x hx => ?_) ?_
  · obtain ⟨k, hk, rfl⟩ := List.mem_map.mp hx
    rw [(isort_perm _).mem_iff] at hk
    refine ⟨_, rfl, fun Q' q' => ?_, fun _ Q' q' => ?_⟩
    · simp only [denSs, denS, den, dens, denO, denT, denI, DV.of, DV.ofB, sSeq, sRet, sRetN, sNext, sIf, sSet, sSetG, sPar, sPar3, sSetIx, sDrop, sFor, sForKeys, sBreak, sCont, dAnd, dOr, dNot, dAndT, dOrT, dNotT, dUn, dOp, dIte, dVar, dC, dTup, dLst, dNil, dCons, dCall, dCut, dPart, dNoPart, dGet1, dGet2, dApp,
  dSeq1, dRange1, dRange2, dEnum, dZip, dLc, dDc, dChain, fIsi, fBlt, fLen, fAbs, fInt1, fMax, fMin, fL1, fTuple, fList, fSorted, fDict, fBin, fCmp, fNeg, fAdd, fSub, fMul, fMod, fDiv, fPow, fInt, fInt0, fLt, fLe, fGt, fGe, fIs, fIsNot, fInD, fIx, fCut, fSeq, fRange1, fRange2, fEnum, fZip, fSetIx, fGet, fApp, fLenSet, fAug, sAug, tOf, tOfB, guardN, gset, gsets, sFrz, frz_dct, frz_lst, fEq_int, fNe_int, fEq_bl, fNe_bl, fEq_nil, fNe_nil, fEq_ints,
  TyC.name, DL.isNon, start0, List.length_cons, List.length_nil, List.map_cons, List.map_nil, List.cons_append, List.nil_append, List.getElem?_cons_zero, List.getElem?_cons_succ, List.getElem?_nil, List.set_cons_zero, List.set_cons_succ, List.set_nil, List.replicate, Nat.reduceSub, Nat.reduceAdd, mkL, mkD, dwipe, Bool.false_eq_true, if_true, if_false, ite_true, ite_false, true_and, and_true, Option.isSome_some, Option.isSome_none, Option.map_some, Option.map_none, Option.getD_some, Option.getD_none,
  tyD_non, tyD_bl, tyD_int, tyD_str, tyD_tup, tyD_lst, tyD_dct, truD_non, truD_bl, truD_int, truD_tup, truD_lst, truD_dct, asL_non, asD_non, keyD_non, asL_bl, asD_bl, keyD_bl, asL_int, asD_int, keyD_int, asL_str, asD_str, keyD_str, asL_tup, asD_tup, keyD_tup, asL_lst, asD_lst, keyD_lst, asL_dct, asD_dct, keyD_dct, asL_scr, asD_scr, keyD_scr, asL_sup, asD_sup, asL_supD, isLs_sup, tyD_supL, tyD_supD, sup_same, sup_sup, ixN_1_0, ixN_2_0, ixN_2_1, ixN_3_0, ixN_3_1, ixN_3_2, ixN_4_0, ixN_4_1, ixN_4_2, ixN_4_3, ixN_5_0, ixN_5_1, ixN_5_2, ixN_5_3, ixN_5_4, ixN_6_0, ixN_6_1, ixN_6_2, ixN_6_3, ixN_6_4, ixN_6_5, ixN_7_0, ixN_7_1, ixN_7_2, ixN_7_3, ixN_7_4, ixN_7_5, ixN_7_6, ixN_8_0, ixN_8_1, ixN_8_2, ixN_8_3, ixN_8_4, ixN_8_5, ixN_8_6, ixN_8_7, atI_0, atI_1, atI_2, atI_3, atI_4, atI_5, atI_6, atI_7, atI_8, isi_NoneType_bool, isi_NoneType_int, isi_NoneType_str, isi_NoneType_tuple, isi_NoneType_list, isi_NoneType_dict, isi_bool_bool, isi_bool_int, isi_bool_str, isi_bool_tuple, isi_bool_list, isi_bool_dict, isi_int_bool, isi_int_int, isi_int_str, isi_int_tuple, isi_int_list, isi_int_dict, isi_str_bool, isi_str_int, isi_str_str, isi_str_tuple, isi_str_list, isi_str_dict, isi_tuple_bool, isi_tuple_int, isi_tuple_str, isi_tuple_tuple, isi_tuple_list, isi_tuple_dict, isi_list_bool, isi_list_int, isi_list_str, isi_list_tuple, isi_list_list, isi_list_dict, isi_dict_bool, isi_dict_int, isi_dict_str, isi_dict_tuple, isi_dict_list, isi_dict_dict, dget_in hk]; exact q'
    · simp only [denSs, denS, den, dens, denO, denT, denI, DV.of, DV.ofB, sSeq, sRet, sRetN, sNext, sIf, sSet, sSetG, sPar, sPar3, sSetIx, sDrop, sFor, sForKeys, sBreak, sCont, dAnd, dOr, dNot, dAndT, dOrT, dNotT, dUn, dOp, dIte, dVar, dC, dTup, dLst, dNil, dCons, dCall, dCut, dPart, dNoPart, dGet1, dGet2, dApp,
  dSeq1, dRange1, dRange2, dEnum, dZip, dLc, dDc, dChain, fIsi, fBlt, fLen, fAbs, fInt1, fMax, fMin, fL1, fTuple, fList, fSorted, fDict, fBin, fCmp, fNeg, fAdd, fSub, fMul, fMod, fDiv, fPow, fInt, fInt0, fLt, fLe, fGt, fGe, fIs, fIsNot, fInD, fIx, fCut, fSeq, fRange1, fRange2, fEnum, fZip, fSetIx, fGet, fApp, fLenSet, fAug, sAug, tOf, tOfB, guardN, gset, gsets, sFrz, frz_dct, frz_lst, fEq_int, fNe_int, fEq_bl, fNe_bl, fEq_nil, fNe_nil, fEq_ints,
  TyC.name, DL.isNon, start0, List.length_cons, List.length_nil, List.map_cons, List.map_nil, List.cons_append, List.nil_append, List.getElem?_cons_zero, List.getElem?_cons_succ, List.getElem?_nil, List.set_cons_zero, List.set_cons_succ, List.set_nil, List.replicate, Nat.reduceSub, Nat.reduceAdd, mkL, mkD, dwipe, Bool.false_eq_true, if_true, if_false, ite_true, ite_false, true_and, and_true, Option.isSome_some, Option.isSome_none, Option.map_some, Option.map_none, Option.getD_some, Option.getD_none,
  tyD_non, tyD_bl, tyD_int, tyD_str, tyD_tup, tyD_lst, tyD_dct, truD_non, truD_bl, truD_int, truD_tup, truD_lst, truD_dct, asL_non, asD_non, keyD_non, asL_bl, asD_bl, keyD_bl, asL_int, asD_int, keyD_int, asL_str, asD_str, keyD_str, asL_tup, asD_tup, keyD_tup, asL_lst, asD_lst, keyD_lst, asL_dct, asD_dct, keyD_dct, asL_scr, asD_scr, keyD_scr, asL_sup, asD_sup, asL_supD, isLs_sup, tyD_supL, tyD_supD, sup_same, sup_sup, ixN_1_0, ixN_2_0, ixN_2_1, ixN_3_0, ixN_3_1, ixN_3_2, ixN_4_0, ixN_4_1, ixN_4_2, ixN_4_3, ixN_5_0, ixN_5_1, ixN_5_2, ixN_5_3, ixN_5_4, ixN_6_0, ixN_6_1, ixN_6_2, ixN_6_3, ixN_6_4, ixN_6_5, ixN_7_0, ixN_7_1, ixN_7_2, ixN_7_3, ixN_7_4, ixN_7_5, ixN_7_6, ixN_8_0, ixN_8_1, ixN_8_2, ixN_8_3, ixN_8_4, ixN_8_5, ixN_8_6, ixN_8_7, atI_0, atI_1, atI_2, atI_3, atI_4, atI_5, atI_6, atI_7, atI_8, isi_NoneType_bool, isi_NoneType_int, isi_NoneType_str, isi_NoneType_tuple, isi_NoneType_list, isi_NoneType_dict, isi_bool_bool, isi_bool_int, isi_bool_str, isi_bool_tuple, isi_bool_list, isi_bool_dict, isi_int_bool, isi_int_int, isi_int_str, isi_int_tuple, isi_int_list, isi_int_dict, isi_str_bool, isi_str_int, isi_str_str, isi_str_tuple, isi_str_list, isi_str_dict, isi_tuple_bool, isi_tuple_int, isi_tuple_str, isi_tuple_tuple, isi_tuple_list, isi_tuple_dict, isi_list_bool, isi_list_int, isi_list_str, isi_list_tuple, isi_list_list, isi_list_dict, isi_dict_bool, isi_dict_int, isi_dict_str, isi_dict_tuple, isi_dict_list, isi_dict_dict, dget_in hk]; exact ⟨by decide, q'⟩
  · rw [List.nil_append, mk_items]
    refine ⟨by decide, .of q⟩
def spAdded : DSp := fun ds S Q => ∃ (a b : Sm) (ns : List Int), ds = [a.d, b.d] ∧ a.good ∧ b.good ∧ ns.length < 60 ∧ a.sub ns ∧ b.sub ns ∧ Q (plus a b 1).d S
theorem addF_step (acc : List P2) (p : P2) (m : Int) (ps : List P2) : addF acc (p :: ps) m = addF (put acc p.1 (get acc p.1 + m * p.2)) ps m := rfl
theorem r_added {T : Tb} (h3 : T.fn 3 = some (2, spSumWith)) {ds : List D} {S : Store} {Q : DQ} (h : spAdded ds S Q) : denSs T core_added (DD Q) (start0 N_added.length ds) S := by
  obtain ⟨a, b, ns, rfl, ha, hb, hl, sa, sb, q⟩ := h
  simp only [core_added, N_added, DD, Sm.d, denSs, denS, den, dens, denO, denT, denI, DV.of, DV.ofB, sSeq, sRet, sRetN, sNext, sIf, sSet, sSetG, sPar, sPar3, sSetIx, sDrop, sFor, sForKeys, sBreak, sCont, dAnd, dOr, dNot, dAndT, dOrT, dNotT, dUn, dOp, dIte, dVar, dC, dTup, dLst, dNil, dCons, dCall, dCut, dPart, dNoPart, dGet1, dGet2, dApp,
  dSeq1, dRange1, dRange2, dEnum, dZip, dLc, dDc, dChain, fIsi, fBlt, fLen, fAbs, fInt1, fMax, fMin, fL1, fTuple, fList, fSorted, fDict, fBin, fCmp, fNeg, fAdd, fSub, fMul, fMod, fDiv, fPow, fInt, fInt0, fLt, fLe, fGt, fGe, fIs, fIsNot, fInD, fIx, fCut, fSeq, fRange1, fRange2, fEnum, fZip, fSetIx, fGet, fApp, fLenSet, fAug, sAug, tOf, tOfB, guardN, gset, gsets, sFrz, frz_dct, frz_lst, fEq_int, fNe_int, fEq_bl, fNe_bl, fEq_nil, fNe_nil, fEq_ints,
  TyC.name, DL.isNon, start0, List.length_cons, List.length_nil, List.map_cons, List.map_nil, List.cons_append, List.nil_append, List.getElem?_cons_zero, List.getElem?_cons_succ, List.getElem?_nil, List.set_cons_zero, List.set_cons_succ, List.set_nil, List.replicate, Nat.reduceSub, Nat.reduceAdd, mkL, mkD, dwipe, Bool.false_eq_true, if_true, if_false, ite_true, ite_false, true_and, and_true, Option.isSome_some, Option.isSome_none, Option.map_some, Option.map_none, Option.getD_some, Option.getD_none,
  tyD_non, tyD_bl, tyD_int, tyD_str, tyD_tup, tyD_lst, tyD_dct, truD_non, truD_bl, truD_int, truD_tup, truD_lst, truD_dct, asL_non, asD_non, keyD_non, asL_bl, asD_bl, keyD_bl, asL_int, asD_int, keyD_int, asL_str, asD_str, keyD_str, asL_tup, asD_tup, keyD_tup, asL_lst, asD_lst, keyD_lst, asL_dct, asD_dct, keyD_dct, asL_scr, asD_scr, keyD_scr, asL_sup, asD_sup, asL_supD, isLs_sup, tyD_supL, tyD_supD, sup_same, sup_sup, ixN_1_0, ixN_2_0, ixN_2_1, ixN_3_0, ixN_3_1, ixN_3_2, ixN_4_0, ixN_4_1, ixN_4_2, ixN_4_3, ixN_5_0, ixN_5_1, ixN_5_2, ixN_5_3, ixN_5_4, ixN_6_0, ixN_6_1, ixN_6_2, ixN_6_3, ixN_6_4, ixN_6_5, ixN_7_0, ixN_7_1, ixN_7_2, ixN_7_3, ixN_7_4, ixN_7_5, ixN_7_6, ixN_8_0, ixN_8_1, ixN_8_2, ixN_8_3, ixN_8_4, ixN_8_5, ixN_8_6, ixN_8_7, atI_0, atI_1, atI_2, atI_3, atI_4, atI_5, atI_6, atI_7, atI_8, isi_NoneType_bool, isi_NoneType_int, isi_NoneType_str, isi_NoneType_tuple, isi_NoneType_list, isi_NoneType_dict, isi_bool_bool, isi_bool_int, isi_bool_str, isi_bool_tuple, isi_bool_list, isi_bool_dict, isi_int_bool, isi_int_int, isi_int_str, isi_int_tuple, isi_int_list, isi_int_dict, isi_str_bool, isi_str_int, isi_str_str, isi_str_tuple, isi_str_list, isi_str_dict, isi_tuple_bool, isi_tuple_int, isi_tuple_str, isi_tuple_tuple, isi_tuple_list, isi_tuple_dict, isi_list_bool, isi_list_int, isi_list_str, isi_list_tuple, isi_list_list, isi_list_dict, isi_dict_bool, isi_dict_int, isi_dict_str, isi_dict_tuple, isi_dict_list, isi_dict_dict, asPairs_kv, merge_nil ha.nd]
  intro p hp
  have hsz : ∀ acc : List P2, (keys acc).Nodup → (∀ k ∈ keys acc, k ∈ ns) → acc.length < 60 := fun acc h1 h2 => by
    have := nodup_len h1 h2
    have e : (keys acc).length = acc.length := List.length_map _
    omega
  have nsz : (64 : Nat) < sizeLine := by decide
  refine forL_ind (fun xs sd S' => ∃ ps acc o3 o4, xs = ps.map pD ∧ sd = [some a.d, some b.d, some (.ref p), o3, o4] ∧ S' = sup S p (.dct (kvD acc)) ∧ (keys acc).Nodup ∧ (∀ k ∈ keys acc, k ∈ ns) ∧ (∀ q ∈ ps, q ∈ b.fs) ∧ addF acc ps 1 = addF a.fs b.fs 1) ?_ ?_ _ _ _ ⟨b.fs, a.fs, none, none, rfl, rfl, rfl, ha.nd, sa, fun _ h => h, rfl⟩
  · rintro x xs sd S' ⟨ps, acc, o3, o4, e, rfl, rfl, h1, h2, h4, h5⟩
    cases ps with
    | nil => cases e
    | cons y ps =>
      cases e
      refine ⟨trivial, _, rfl, fun K hK => ?_⟩
      simp only [denSs, denS, den, dens, denO, denT, denI, DV.of, DV.ofB, sSeq, sRet, sRetN, sNext, sIf, sSet, sSetG, sPar, sPar3, sSetIx, sDrop, sFor, sForKeys, sBreak, sCont, dAnd, dOr, dNot, dAndT, dOrT, dNotT, dUn, dOp, dIte, dVar, dC, dTup, dLst, dNil, dCons, dCall, dCut, dPart, dNoPart, dGet1, dGet2, dApp,
  dSeq1, dRange1, dRange2, dEnum, dZip, dLc, dDc, dChain, fIsi, fBlt, fLen, fAbs, fInt1, fMax, fMin, fL1, fTuple, fList, fSorted, fDict, fBin, fCmp, fNeg, fAdd, fSub, fMul, fMod, fDiv, fPow, fInt, fInt0, fLt, fLe, fGt, fGe, fIs, fIsNot, fInD, fIx, fCut, fSeq, fRange1, fRange2, fEnum, fZip, fSetIx, fGet, fApp, fLenSet, fAug, sAug, tOf, tOfB, guardN, gset, gsets, sFrz, frz_dct, frz_lst, fEq_int, fNe_int, fEq_bl, fNe_bl, fEq_nil, fNe_nil, fEq_ints,
  TyC.name, DL.isNon, start0, List.length_cons, List.length_nil, List.map_cons, List.map_nil, List.cons_append, List.nil_append, List.getElem?_cons_zero, List.getElem?_cons_succ, List.getElem?_nil, List.set_cons_zero, List.set_cons_succ, List.set_nil, List.replicate, Nat.reduceSub, Nat.reduceAdd, mkL, mkD, dwipe, Bool.false_eq_true, if_true, if_false, ite_true, ite_false, true_and, and_true, Option.isSome_some, Option.isSome_none, Option.map_some, Option.map_none, Option.getD_some, Option.getD_none,
  tyD_non, tyD_bl, tyD_int, tyD_str, tyD_tup, tyD_lst, tyD_dct, truD_non, truD_bl, truD_int, truD_tup, truD_lst, truD_dct, asL_non, asD_non, keyD_non, asL_bl, asD_bl, keyD_bl, asL_int, asD_int, keyD_int, asL_str, asD_str, keyD_str, asL_tup, asD_tup, keyD_tup, asL_lst, asD_lst, keyD_lst, asL_dct, asD_dct, keyD_dct, asL_scr, asD_scr, keyD_scr, asL_sup, asD_sup, asL_supD, isLs_sup, tyD_supL, tyD_supD, sup_same, sup_sup, ixN_1_0, ixN_2_0, ixN_2_1, ixN_3_0, ixN_3_1, ixN_3_2, ixN_4_0, ixN_4_1, ixN_4_2, ixN_4_3, ixN_5_0, ixN_5_1, ixN_5_2, ixN_5_3, ixN_5_4, ixN_6_0, ixN_6_1, ixN_6_2, ixN_6_3, ixN_6_4, ixN_6_5, ixN_7_0, ixN_7_1, ixN_7_2, ixN_7_3, ixN_7_4, ixN_7_5, ixN_7_6, ixN_8_0, ixN_8_1, ixN_8_2, ixN_8_3, ixN_8_4, ixN_8_5, ixN_8_6, ixN_8_7, atI_0, atI_1, atI_2, atI_3, atI_4, atI_5, atI_6, atI_7, atI_8, isi_NoneType_bool, isi_NoneType_int, isi_NoneType_str, isi_NoneType_tuple, isi_NoneType_list, isi_NoneType_dict, isi_bool_bool, isi_bool_int, isi_bool_str, isi_bool_tuple, isi_bool_list, isi_bool_dict, isi_int_bool, isi_int_int, isi_int_str, isi_int_tuple, isi_int_list, isi_int_dict, isi_str_bool, isi_str_int, isi_str_str, isi_str_tuple, isi_str_list, isi_str_dict, isi_tuple_bool, isi_tuple_int, isi_tuple_str, isi_tuple_tuple, isi_tuple_list, isi_tuple_dict, isi_list_bool, isi_list_int, isi_list_str, isi_list_tuple, isi_list_list, isi_list_dict, isi_dict_bool, isi_dict_int, isi_dict_str, isi_dict_tuple, isi_dict_list, isi_dict_dict, dget_get, dput_kv]
      have hy : y.1 ∈ ns := sb _ (List.mem_map_of_mem (h4 y List.mem_cons_self))
      have hlen : (kvD acc).length = acc.length := List.length_map _
      have := hsz acc h1 h2
      refine ⟨by omega, hK _ _ ⟨ps, put acc y.1 (get acc y.1 + y.2), _, _, rfl, rfl, rfl, nd_put h1, fun k hk => ?_, fun q hq => h4 q (List.mem_cons_of_mem _ hq), ?_⟩⟩
      · rcases mem_keys_put.mp hk with hk | rfl
        · exact h2 k hk
        · exact hy
      · rw [addF_step, Int.one_mul] at h5; exact h5
  · rintro sd S' ⟨ps, acc, o3, o4, e, rfl, rfl, h1, h2, h4, h5⟩
    have e : ps = [] := by cases ps with | nil => rfl | cons _ _ => cases e
    subst e
    have h5 : acc = addF a.fs b.fs 1 := h5
    refine ⟨trivial, ?_⟩
    simp only [denSs, denS, den, dens, denO, denT, denI, DV.of, DV.ofB, sSeq, sRet, sRetN, sNext, sIf, sSet, sSetG, sPar, sPar3, sSetIx, sDrop, sFor, sForKeys, sBreak, sCont, dAnd, dOr, dNot, dAndT, dOrT, dNotT, dUn, dOp, dIte, dVar, dC, dTup, dLst, dNil, dCons, dCall, dCut, dPart, dNoPart, dGet1, dGet2, dApp,
  dSeq1, dRange1, dRange2, dEnum, dZip, dLc, dDc, dChain, fIsi, fBlt, fLen, fAbs, fInt1, fMax, fMin, fL1, fTuple, fList, fSorted, fDict, fBin, fCmp, fNeg, fAdd, fSub, fMul, fMod, fDiv, fPow, fInt, fInt0, fLt, fLe, fGt, fGe, fIs, fIsNot, fInD, fIx, fCut, fSeq, fRange1, fRange2, fEnum, fZip, fSetIx, fGet, fApp, fLenSet, fAug, sAug, tOf, tOfB, guardN, gset, gsets, sFrz, frz_dct, frz_lst, fEq_int, fNe_int, fEq_bl, fNe_bl, fEq_nil, fNe_nil, fEq_ints,
  TyC.name, DL.isNon, start0, List.length_cons, List.length_nil, List.map_cons, List.map_nil, List.cons_append, List.nil_append, List.getElem?_cons_zero, List.getElem?_cons_succ, List.getElem?_nil, List.set_cons_zero, List.set_cons_succ, List.set_nil, List.replicate, Nat.reduceSub, Nat.reduceAdd, mkL, mkD, dwipe, Bool.false_eq_true, if_true, if_false, ite_true, ite_false, true_and, and_true, Option.isSome_some, Option.isSome_none, Option.map_some, Option.map_none, Option.getD_some, Option.getD_none,
  tyD_non, tyD_bl, tyD_int, tyD_str, tyD_tup, tyD_lst, tyD_dct, truD_non, truD_bl, truD_int, truD_tup, truD_lst, truD_dct, asL_non, asD_non, keyD_non, asL_bl, asD_bl, keyD_bl, asL_int, asD_int, keyD_int, asL_str, asD_str, keyD_str, asL_tup, asD_tup, keyD_tup, asL_lst, asD_lst, keyD_lst, asL_dct, asD_dct, keyD_dct, asL_scr, asD_scr, keyD_scr, asL_sup, asD_sup, asL_supD, isLs_sup, tyD_supL, tyD_supD, sup_same, sup_sup, ixN_1_0, ixN_2_0, ixN_2_1, ixN_3_0, ixN_3_1, ixN_3_2, ixN_4_0, ixN_4_1, ixN_4_2, ixN_4_3, ixN_5_0, ixN_5_1, ixN_5_2, ixN_5_3, ixN_5_4, ixN_6_0, ixN_6_1, ixN_6_2, ixN_6_3, ixN_6_4, ixN_6_5, ixN_7_0, ixN_7_1, ixN_7_2, ixN_7_3, ixN_7_4, ixN_7_5, ixN_7_6, ixN_8_0, ixN_8_1, ixN_8_2, ixN_8_3, ixN_8_4, ixN_8_5, ixN_8_6, ixN_8_7, atI_0, atI_1, atI_2, atI_3, atI_4, atI_5, atI_6, atI_7, atI_8, isi_NoneType_bool, isi_NoneType_int, isi_NoneType_str, isi_NoneType_tuple, isi_NoneType_list, isi_NoneType_dict, isi_bool_bool, isi_bool_int, isi_bool_str, isi_bool_tuple, isi_bool_list, isi_bool_dict, isi_int_bool, isi_int_int, isi_int_str, isi_int_tuple, isi_int_list, isi_int_dict, isi_str_bool, isi_str_int, isi_str_str, isi_str_tuple, isi_str_list, isi_str_dict, isi_tuple_bool, isi_tuple_int, isi_tuple_str, isi_tuple_tuple, isi_tuple_list, isi_tuple_dict, isi_list_bool, isi_list_int, isi_list_str, isi_list_tuple, isi_list_list, isi_list_dict, isi_dict_bool, isi_dict_int, isi_dict_str, isi_dict_tuple, isi_dict_list, isi_dict_dict, h3, Sm.d]
    refine ⟨_, _, rfl, h1, by have := hsz acc h1 h2; omega, ?_⟩
    rw [sdel_sup hp, h5]
    have e : mk (a.c + b.c) (addF a.fs b.fs 1) = plus a b 1 := by unfold plus; rw [Int.one_mul]
    rw [e]
    exact .of q
def spPlus : DSp := fun ds S Q => ∃ (a b : Sm) (m : Int) (ns : List Int), ds = [a.d, b.d, .int m] ∧ a.good ∧ b.good ∧ ns.length < 60 ∧ a.sub ns ∧ b.sub ns ∧ Sml m ∧ Sml b.c ∧ (∀ p ∈ b.fs, Sml p.2) ∧ Q (plus a b m).d S
theorem r_law_plus {T : Tb} (h3 : T.fn 16 = some (2, spSumWith)) {ds : List D} {S : Store} {Q : DQ} (h : spPlus ds S Q) : denSs T core__law_plus (DD Q) (start0 N__law_plus.length ds) S := by
  obtain ⟨a, b, m, ns, rfl, ha, hb, hl, sa, sb, hm, hc, hf, q⟩ := h
  simp only [core__law_plus, N__law_plus, DD, Sm.d, denSs, denS, den, dens, denO, denT, denI, DV.of, DV.ofB, sSeq, sRet, sRetN, sNext, sIf, sSet, sSetG, sPar, sPar3, sSetIx, sDrop, sFor, sForKeys, sBreak, sCont, dAnd, dOr, dNot, dAndT, dOrT, dNotT, dUn, dOp, dIte, dVar, dC, dTup, dLst, dNil, dCons, dCall, dCut, dPart, dNoPart, dGet1, dGet2, dApp,
  dSeq1, dRange1, dRange2, dEnum, dZip, dLc, dDc, dChain, fIsi, fBlt, fLen, fAbs, fInt1, fMax, fMin, fL1, fTuple, fList, fSorted, fDict, fBin, fCmp, fNeg, fAdd, fSub, fMul, fMod, fDiv, fPow, fInt, fInt0, fLt, fLe, fGt, fGe, fIs, fIsNot, fInD, fIx, fCut, fSeq, fRange1, fRange2, fEnum, fZip, fSetIx, fGet, fApp, fLenSet, fAug, sAug, tOf, tOfB, guardN, gset, gsets, sFrz, frz_dct, frz_lst, fEq_int, fNe_int, fEq_bl, fNe_bl, fEq_nil, fNe_nil, fEq_ints,
  TyC.name, DL.isNon, start0, List.length_cons, List.length_nil, List.map_cons, List.map_nil, List.cons_append, List.nil_append, List.getElem?_cons_zero, List.getElem?_cons_succ, List.getElem?_nil, List.set_cons_zero, List.set_cons_succ, List.set_nil, List.replicate, Nat.reduceSub, Nat.reduceAdd, mkL, mkD, dwipe, Bool.false_eq_true, if_true, if_false, ite_true, ite_false, true_and, and_true, Option.isSome_some, Option.isSome_none, Option.map_some, Option.map_none, Option.getD_some, Option.getD_none,
  tyD_non, tyD_bl, tyD_int, tyD_str, tyD_tup, tyD_lst, tyD_dct, truD_non, truD_bl, truD_int, truD_tup, truD_lst, truD_dct, asL_non, asD_non, keyD_non, asL_bl, asD_bl, keyD_bl, asL_int, asD_int, keyD_int, asL_str, asD_str, keyD_str, asL_tup, asD_tup, keyD_tup, asL_lst, asD_lst, keyD_lst, asL_dct, asD_dct, keyD_dct, asL_scr, asD_scr, keyD_scr, asL_sup, asD_sup, asL_supD, isLs_sup, tyD_supL, tyD_supD, sup_same, sup_sup, ixN_1_0, ixN_2_0, ixN_2_1, ixN_3_0, ixN_3_1, ixN_3_2, ixN_4_0, ixN_4_1, ixN_4_2, ixN_4_3, ixN_5_0, ixN_5_1, ixN_5_2, ixN_5_3, ixN_5_4, ixN_6_0, ixN_6_1, ixN_6_2, ixN_6_3, ixN_6_4, ixN_6_5, ixN_7_0, ixN_7_1, ixN_7_2, ixN_7_3, ixN_7_4, ixN_7_5, ixN_7_6, ixN_8_0, ixN_8_1, ixN_8_2, ixN_8_3, ixN_8_4, ixN_8_5, ixN_8_6, ixN_8_7, atI_0, atI_1, atI_2, atI_3, atI_4, atI_5, atI_6, atI_7, atI_8, isi_NoneType_bool, isi_NoneType_int, isi_NoneType_str, isi_NoneType_tuple, isi_NoneType_list, isi_NoneType_dict, isi_bool_bool, isi_bool_int, isi_bool_str, isi_bool_tuple, isi_bool_list, isi_bool_dict, isi_int_bool, isi_int_int, isi_int_str, isi_int_tuple, isi_int_list, isi_int_dict, isi_str_bool, isi_str_int, isi_str_str, isi_str_tuple, isi_str_list, isi_str_dict, isi_tuple_bool, isi_tuple_int, isi_tuple_str, isi_tuple_tuple, isi_tuple_list, isi_tuple_dict, isi_list_bool, isi_list_int, isi_list_str, isi_list_tuple, isi_list_list, isi_list_dict, isi_dict_bool, isi_dict_int, isi_dict_str, isi_dict_tuple, isi_dict_list, isi_dict_dict, asPairs_kv, merge_nil ha.nd]
  intro p hp
  have hsz : ∀ acc : List P2, (keys acc).Nodup → (∀ k ∈ keys acc, k ∈ ns) → acc.length < 60 := fun acc h1 h2 => by
    have := nodup_len h1 h2
    have e : (keys acc).length = acc.length := List.length_map _
    omega
  have nsz : (64 : Nat) < sizeLine := by decide
  refine forL_ind (fun xs sd S' => ∃ ps acc o3 o4, xs = ps.map pD ∧ sd = [some a.d, some b.d, some (.int m), some (.ref p), o3, o4] ∧ S' = sup S p (.dct (kvD acc)) ∧ (keys acc).Nodup ∧ (∀ k ∈ keys acc, k ∈ ns) ∧ (∀ q ∈ ps, q ∈ b.fs) ∧ addF acc ps m = addF a.fs b.fs m) ?_ ?_ _ _ _ ⟨b.fs, a.fs, none, none, rfl, rfl, rfl, ha.nd, sa, fun _ h => h, rfl⟩
  · rintro x xs sd S' ⟨ps, acc, o3, o4, e, rfl, rfl, h1, h2, h4, h5⟩
    cases ps with
    | nil => cases e
    | cons y ps =>
      cases e
      refine ⟨trivial, _, rfl, fun K hK => ?_⟩
      simp only [denSs, denS, den, dens, denO, denT, denI, DV.of, DV.ofB, sSeq, sRet, sRetN, sNext, sIf, sSet, sSetG, sPar, sPar3, sSetIx, sDrop, sFor, sForKeys, sBreak, sCont, dAnd, dOr, dNot, dAndT, dOrT, dNotT, dUn, dOp, dIte, dVar, dC, dTup, dLst, dNil, dCons, dCall, dCut, dPart, dNoPart, dGet1, dGet2, dApp,
  dSeq1, dRange1, dRange2, dEnum, dZip, dLc, dDc, dChain, fIsi, fBlt, fLen, fAbs, fInt1, fMax, fMin, fL1, fTuple, fList, fSorted, fDict, fBin, fCmp, fNeg, fAdd, fSub, fMul, fMod, fDiv, fPow, fInt, fInt0, fLt, fLe, fGt, fGe, fIs, fIsNot, fInD, fIx, fCut, fSeq, fRange1, fRange2, fEnum, fZip, fSetIx, fGet, fApp, fLenSet, fAug, sAug, tOf, tOfB, guardN, gset, gsets, sFrz, frz_dct, frz_lst, fEq_int, fNe_int, fEq_bl, fNe_bl, fEq_nil, fNe_nil, fEq_ints,
  TyC.name, DL.isNon, start0, List.length_cons, List.length_nil, List.map_cons, List.map_nil, List.cons_append, List.nil_append, List.getElem?_cons_zero, List.getElem?_cons_succ, List.getElem?_nil, List.set_cons_zero, List.set_cons_succ, List.set_nil, List.replicate, Nat.reduceSub, Nat.reduceAdd, mkL, mkD, dwipe, Bool.false_eq_true, if_true, if_false, ite_true, ite_false, true_and, and_true, Option.isSome_some, Option.isSome_none, Option.map_some, Option.map_none, Option.getD_some, Option.getD_none,
  tyD_non, tyD_bl, tyD_int, tyD_str, tyD_tup, tyD_lst, tyD_dct, truD_non, truD_bl, truD_int, truD_tup, truD_lst, truD_dct, asL_non, asD_non, keyD_non, asL_bl, asD_bl, keyD_bl, asL_int, asD_int, keyD_int, asL_str, asD_str, keyD_str, asL_tup, asD_tup, keyD_tup, asL_lst, asD_lst, keyD_lst, asL_dct, asD_dct, keyD_dct, asL_scr, asD_scr, keyD_scr, asL_sup, asD_sup, asL_supD, isLs_sup, tyD_supL, tyD_supD, sup_same, sup_sup, ixN_1_0, ixN_2_0, ixN_2_1, ixN_3_0, ixN_3_1, ixN_3_2, ixN_4_0, ixN_4_1, ixN_4_2, ixN_4_3, ixN_5_0, ixN_5_1, ixN_5_2, ixN_5_3, ixN_5_4, ixN_6_0, ixN_6_1, ixN_6_2, ixN_6_3, ixN_6_4, ixN_6_5, ixN_7_0, ixN_7_1, ixN_7_2, ixN_7_3, ixN_7_4, ixN_7_5, ixN_7_6, ixN_8_0, ixN_8_1, ixN_8_2, ixN_8_3, ixN_8_4, ixN_8_5, ixN_8_6, ixN_8_7, atI_0, atI_1, atI_2, atI_3, atI_4, atI_5, atI_6, atI_7, atI_8, isi_NoneType_bool, isi_NoneType_int, isi_NoneType_str, isi_NoneType_tuple, isi_NoneType_list, isi_NoneType_dict, isi_bool_bool, isi_bool_int, isi_bool_str, isi_bool_tuple, isi_bool_list, isi_bool_dict, isi_int_bool, isi_int_int, isi_int_str, isi_int_tuple, isi_int_list, isi_int_dict, isi_str_bool, isi_str_int, isi_str_str, isi_str_tuple, isi_str_list, isi_str_dict, isi_tuple_bool, isi_tuple_int, isi_tuple_str, isi_tuple_tuple, isi_tuple_list, isi_tuple_dict, isi_list_bool, isi_list_int, isi_list_str, isi_list_tuple, isi_list_list, isi_list_dict, isi_dict_bool, isi_dict_int, isi_dict_str, isi_dict_tuple, isi_dict_list, isi_dict_dict, dget_get, dput_kv]
      have hy : y.1 ∈ ns := sb _ (List.mem_map_of_mem (h4 y List.mem_cons_self))
      have hlen : (kvD acc).length = acc.length := List.length_map _
      have := hsz acc h1 h2
      refine ⟨cmulW hm (hf y (h4 y List.mem_cons_self)), by omega, hK _ _ ⟨ps, put acc y.1 (get acc y.1 + m * y.2), _, _, rfl, rfl, rfl, nd_put h1, fun k hk => ?_, fun q hq => h4 q (List.mem_cons_of_mem _ hq), ?_⟩⟩
      · rcases mem_keys_put.mp hk with hk | rfl
        · exact h2 k hk
        · exact hy
      · rw [addF_step] at h5; exact h5
  · rintro sd S' ⟨ps, acc, o3, o4, e, rfl, rfl, h1, h2, h4, h5⟩
    have e : ps = [] := by cases ps with | nil => rfl | cons _ _ => cases e
    subst e
    have h5 : acc = addF a.fs b.fs m := h5
    refine ⟨trivial, ?_⟩
    simp only [denSs, denS, den, dens, denO, denT, denI, DV.of, DV.ofB, sSeq, sRet, sRetN, sNext, sIf, sSet, sSetG, sPar, sPar3, sSetIx, sDrop, sFor, sForKeys, sBreak, sCont, dAnd, dOr, dNot, dAndT, dOrT, dNotT, dUn, dOp, dIte, dVar, dC, dTup, dLst, dNil, dCons, dCall, dCut, dPart, dNoPart, dGet1, dGet2, dApp,
  dSeq1, dRange1, dRange2, dEnum, dZip, dLc, dDc, dChain, fIsi, fBlt, fLen, fAbs, fInt1, fMax, fMin, fL1, fTuple, fList, fSorted, fDict, fBin, fCmp, fNeg, fAdd, fSub, fMul, fMod, fDiv, fPow, fInt, fInt0, fLt, fLe, fGt, fGe, fIs, fIsNot, fInD, fIx, fCut, fSeq, fRange1, fRange2, fEnum, fZip, fSetIx, fGet, fApp, fLenSet, fAug, sAug, tOf, tOfB, guardN, gset, gsets, sFrz, frz_dct, frz_lst, fEq_int, fNe_int, fEq_bl, fNe_bl, fEq_nil, fNe_nil, fEq_ints,
  TyC.name, DL.isNon, start0, List.length_cons, List.length_nil, List.map_cons, List.map_nil, List.cons_append, List.nil_append, List.getElem?_cons_zero, List.getElem?_cons_succ, List.getElem?_nil, List.set_cons_zero, List.set_cons_succ, List.set_nil, List.replicate, Nat.reduceSub, Nat.reduceAdd, mkL, mkD, dwipe, Bool.false_eq_true, if_true, if_false, ite_true, ite_false, true_and, and_true, Option.isSome_some, Option.isSome_none, Option.map_some, Option.map_none, Option.getD_some, Option.getD_none,
  tyD_non, tyD_bl, tyD_int, tyD_str, tyD_tup, tyD_lst, tyD_dct, truD_non, truD_bl, truD_int, truD_tup, truD_lst, truD_dct, asL_non, asD_non, keyD_non, asL_bl, asD_bl, keyD_bl, asL_int, asD_int, keyD_int, asL_str, asD_str, keyD_str, asL_tup, asD_tup, keyD_tup, asL_lst, asD_lst, keyD_lst, asL_dct, asD_dct, keyD_dct, asL_scr, asD_scr, keyD_scr, asL_sup, asD_sup, asL_supD, isLs_sup, tyD_supL, tyD_supD, sup_same, sup_sup, ixN_1_0, ixN_2_0, ixN_2_1, ixN_3_0, ixN_3_1, ixN_3_2, ixN_4_0, ixN_4_1, ixN_4_2, ixN_4_3, ixN_5_0, ixN_5_1, ixN_5_2, ixN_5_3, ixN_5_4, ixN_6_0, ixN_6_1, ixN_6_2, ixN_6_3, ixN_6_4, ixN_6_5, ixN_7_0, ixN_7_1, ixN_7_2, ixN_7_3, ixN_7_4, ixN_7_5, ixN_7_6, ixN_8_0, ixN_8_1, ixN_8_2, ixN_8_3, ixN_8_4, ixN_8_5, ixN_8_6, ixN_8_7, atI_0, atI_1, atI_2, atI_3, atI_4, atI_5, atI_6, atI_7, atI_8, isi_NoneType_bool, isi_NoneType_int, isi_NoneType_str, isi_NoneType_tuple, isi_NoneType_list, isi_NoneType_dict, isi_bool_bool, isi_bool_int, isi_bool_str, isi_bool_tuple, isi_bool_list, isi_bool_dict, isi_int_bool, isi_int_int, isi_int_str, isi_int_tuple, isi_int_list, isi_int_dict, isi_str_bool, isi_str_int, isi_str_str, isi_str_tuple, isi_str_list, isi_str_dict, isi_tuple_bool, isi_tuple_int, isi_tuple_str, isi_tuple_tuple, isi_tuple_list, isi_tuple_dict, isi_list_bool, isi_list_int, isi_list_str, isi_list_tuple, isi_list_list, isi_list_dict, isi_dict_bool, isi_dict_int, isi_dict_str, isi_dict_tuple, isi_dict_list, isi_dict_dict, h3, Sm.d]
    refine ⟨cmulW hm hc, _, _, rfl, h1, by have := hsz acc h1 h2; omega, ?_⟩
    rw [sdel_sup hp, h5]
    exact .of q
def spTimes : DSp := fun ds S Q => ∃ (a : Sm) (m : Int) (ns : List Int), ds = [.int m, a.d] ∧ a.good ∧ ns.length < 60 ∧ a.sub ns ∧ Sml m ∧ Sml a.c ∧ (∀ p ∈ a.fs, Sml p.2) ∧ Q (tms m a).d S
theorem r_times {T : Tb} (h3 : T.fn 3 = some (2, spSumWith)) {ds : List D} {S : Store} {Q : DQ} (h : spTimes ds S Q) : denSs T core_times (DD Q) (start0 N_times.length ds) S := by
  obtain ⟨a, m, ns, rfl, ha, hl, sa, hm, hc, hf, q⟩ := h
  simp only [core_times, N_times, DD, Sm.d, denSs, denS, den, dens, denO, denT, denI, DV.of, DV.ofB, sSeq, sRet, sRetN, sNext, sIf, sSet, sSetG, sPar, sPar3, sSetIx, sDrop, sFor, sForKeys, sBreak, sCont, dAnd, dOr, dNot, dAndT, dOrT, dNotT, dUn, dOp, dIte, dVar, dC, dTup, dLst, dNil, dCons, dCall, dCut, dPart, dNoPart, dGet1, dGet2, dApp,
  dSeq1, dRange1, dRange2, dEnum, dZip, dLc, dDc, dChain, fIsi, fBlt, fLen, fAbs, fInt1, fMax, fMin, fL1, fTuple, fList, fSorted, fDict, fBin, fCmp, fNeg, fAdd, fSub, fMul, fMod, fDiv, fPow, fInt, fInt0, fLt, fLe, fGt, fGe, fIs, fIsNot, fInD, fIx, fCut, fSeq, fRange1, fRange2, fEnum, fZip, fSetIx, fGet, fApp, fLenSet, fAug, sAug, tOf, tOfB, guardN, gset, gsets, sFrz, frz_dct, frz_lst, fEq_int, fNe_int, fEq_bl, fNe_bl, fEq_nil, fNe_nil, fEq_ints,
  TyC.name, DL.isNon, start0, List.length_cons, List.length_nil, List.map_cons, List.map_nil, List.cons_append, List.nil_append, List.getElem?_cons_zero, List.getElem?_cons_succ, List.getElem?_nil, List.set_cons_zero, List.set_cons_succ, List.set_nil, List.replicate, Nat.reduceSub, Nat.reduceAdd, mkL, mkD, dwipe, Bool.false_eq_true, if_true, if_false, ite_true, ite_false, true_and, and_true, Option.isSome_some, Option.isSome_none, Option.map_some, Option.map_none, Option.getD_some, Option.getD_none,
  tyD_non, tyD_bl, tyD_int, tyD_str, tyD_tup, tyD_lst, tyD_dct, truD_non, truD_bl, truD_int, truD_tup, truD_lst, truD_dct, asL_non, asD_non, keyD_non, asL_bl, asD_bl, keyD_bl, asL_int, asD_int, keyD_int, asL_str, asD_str, keyD_str, asL_tup, asD_tup, keyD_tup, asL_lst, asD_lst, keyD_lst, asL_dct, asD_dct, keyD_dct, asL_scr, asD_scr, keyD_scr, asL_sup, asD_sup, asL_supD, isLs_sup, tyD_supL, tyD_supD, sup_same, sup_sup, ixN_1_0, ixN_2_0, ixN_2_1, ixN_3_0, ixN_3_1, ixN_3_2, ixN_4_0, ixN_4_1, ixN_4_2, ixN_4_3, ixN_5_0, ixN_5_1, ixN_5_2, ixN_5_3, ixN_5_4, ixN_6_0, ixN_6_1, ixN_6_2, ixN_6_3, ixN_6_4, ixN_6_5, ixN_7_0, ixN_7_1, ixN_7_2, ixN_7_3, ixN_7_4, ixN_7_5, ixN_7_6, ixN_8_0, ixN_8_1, ixN_8_2, ixN_8_3, ixN_8_4, ixN_8_5, ixN_8_6, ixN_8_7, atI_0, atI_1, atI_2, atI_3, atI_4, atI_5, atI_6, atI_7, atI_8, isi_NoneType_bool, isi_NoneType_int, isi_NoneType_str, isi_NoneType_tuple, isi_NoneType_list, isi_NoneType_dict, isi_bool_bool, isi_bool_int, isi_bool_str, isi_bool_tuple, isi_bool_list, isi_bool_dict, isi_int_bool, isi_int_int, isi_int_str, isi_int_tuple, isi_int_list, isi_int_dict, isi_str_bool, isi_str_int, isi_str_str, isi_str_tuple, isi_str_list, isi_str_dict, isi_tuple_bool, isi_tuple_int, isi_tuple_str, isi_tuple_tuple, isi_tuple_list, isi_tuple_dict, isi_list_bool, isi_list_int, isi_list_str, isi_list_tuple, isi_list_list, isi_list_dict, isi_dict_bool, isi_dict_int, isi_dict_str, isi_dict_tuple, isi_dict_list, isi_dict_dict, h3]
  refine ⟨cmulW hm hc, ?_⟩
  refine dcL_map (fk := fun d => match d with | .tup [.int x, _] => .int x | _ => .non) (kk := fun d => match d with | .tup [.int x, _] => .inl x | _ => .inl 0) (fv := fun d => match d with | .tup [_, .int y] => .int (m * y) | _ => .non) trivial _ _ (fun x hx => ?_) ?_
  · obtain ⟨p, hp, rfl⟩ := List.mem_map.mp hx
    refine ⟨_, rfl, fun Q' q' => q', fun Q' q' => ?_, rfl⟩
    exact ⟨cmulW hm (hf p hp), q'⟩
  · have e : ((a.fs.map pD).map fun x => ((match x with | .tup [.int x, _] => Sum.inl x | _ => Sum.inl 0 : Key), (match x with | .tup [_, .int y] => D.int (m * y) | _ => D.non))) = kvD (a.fs.map fun p => (p.1, m * p.2)) := by
      unfold kvD
      rw [List.map_map, List.map_map]; rfl
    rw [e]
    have e2 : (kvD (a.fs.map fun p => (p.1, m * p.2))).foldl (fun a kv => dput a kv.1 kv.2) [] = kvD (a.fs.map fun p => (p.1, m * p.2)) := merge_nil (by rw [keys_scale]; exact ha.nd)
    rw [e2]
    have hlen := nodup_len ha.nd sa
    have e3 : (keys a.fs).length = a.fs.length := List.length_map _
    exact ⟨_, _, rfl, by rw [keys_scale]; exact ha.nd, by rw [List.length_map]; omega, .of q⟩
def spWithout : DSp := fun ds S Q => ∃ (a b : Sm) (ns : List Int), ds = [a.d, b.d] ∧ a.good ∧ b.good ∧ ns.length < 60 ∧ a.sub ns ∧ b.sub ns ∧ Sml b.c ∧ (∀ p ∈ b.fs, Sml p.2) ∧ Q (plus a b (-1)).d S
theorem r_without {T : Tb} (h5 : T.fn 5 = some (2, spAdded)) (h6 : T.fn 6 = some (2, spTimes)) {ds : List D} {S : Store} {Q : DQ} (h : spWithout ds S Q) : denSs T core_without (DD Q) (start0 N_without.length ds) S := by
  obtain ⟨a, b, ns, rfl, ha, hb, hl, sa, sb, hc, hf, q⟩ := h
  simp only [core_without, N_without, DD, denSs, denS, den, dens, denO, denT, denI, DV.of, DV.ofB, sSeq, sRet, sRetN, sNext, sIf, sSet, sSetG, sPar, sPar3, sSetIx, sDrop, sFor, sForKeys, sBreak, sCont, dAnd, dOr, dNot, dAndT, dOrT, dNotT, dUn, dOp, dIte, dVar, dC, dTup, dLst, dNil, dCons, dCall, dCut, dPart, dNoPart, dGet1, dGet2, dApp,
  dSeq1, dRange1, dRange2, dEnum, dZip, dLc, dDc, dChain, fIsi, fBlt, fLen, fAbs, fInt1, fMax, fMin, fL1, fTuple, fList, fSorted, fDict, fBin, fCmp, fNeg, fAdd, fSub, fMul, fMod, fDiv, fPow, fInt, fInt0, fLt, fLe, fGt, fGe, fIs, fIsNot, fInD, fIx, fCut, fSeq, fRange1, fRange2, fEnum, fZip, fSetIx, fGet, fApp, fLenSet, fAug, sAug, tOf, tOfB, guardN, gset, gsets, sFrz, frz_dct, frz_lst, fEq_int, fNe_int, fEq_bl, fNe_bl, fEq_nil, fNe_nil, fEq_ints,
  TyC.name, DL.isNon, start0, List.length_cons, List.length_nil, List.map_cons, List.map_nil, List.cons_append, List.nil_append, List.getElem?_cons_zero, List.getElem?_cons_succ, List.getElem?_nil, List.set_cons_zero, List.set_cons_succ, List.set_nil, List.replicate, Nat.reduceSub, Nat.reduceAdd, mkL, mkD, dwipe, Bool.false_eq_true, if_true, if_false, ite_true, ite_false, true_and, and_true, Option.isSome_some, Option.isSome_none, Option.map_some, Option.map_none, Option.getD_some, Option.getD_none,
  tyD_non, tyD_bl, tyD_int, tyD_str, tyD_tup, tyD_lst, tyD_dct, truD_non, truD_bl, truD_int, truD_tup, truD_lst, truD_dct, asL_non, asD_non, keyD_non, asL_bl, asD_bl, keyD_bl, asL_int, asD_int, keyD_int, asL_str, asD_str, keyD_str, asL_tup, asD_tup, keyD_tup, asL_lst, asD_lst, keyD_lst, asL_dct, asD_dct, keyD_dct, asL_scr, asD_scr, keyD_scr, asL_sup, asD_sup, asL_supD, isLs_sup, tyD_supL, tyD_supD, sup_same, sup_sup, ixN_1_0, ixN_2_0, ixN_2_1, ixN_3_0, ixN_3_1, ixN_3_2, ixN_4_0, ixN_4_1, ixN_4_2, ixN_4_3, ixN_5_0, ixN_5_1, ixN_5_2, ixN_5_3, ixN_5_4, ixN_6_0, ixN_6_1, ixN_6_2, ixN_6_3, ixN_6_4, ixN_6_5, ixN_7_0, ixN_7_1, ixN_7_2, ixN_7_3, ixN_7_4, ixN_7_5, ixN_7_6, ixN_8_0, ixN_8_1, ixN_8_2, ixN_8_3, ixN_8_4, ixN_8_5, ixN_8_6, ixN_8_7, atI_0, atI_1, atI_2, atI_3, atI_4, atI_5, atI_6, atI_7, atI_8, isi_NoneType_bool, isi_NoneType_int, isi_NoneType_str, isi_NoneType_tuple, isi_NoneType_list, isi_NoneType_dict, isi_bool_bool, isi_bool_int, isi_bool_str, isi_bool_tuple, isi_bool_list, isi_bool_dict, isi_int_bool, isi_int_int, isi_int_str, isi_int_tuple, isi_int_list, isi_int_dict, isi_str_bool, isi_str_int, isi_str_str, isi_str_tuple, isi_str_list, isi_str_dict, isi_tuple_bool, isi_tuple_int, isi_tuple_str, isi_tuple_tuple, isi_tuple_list, isi_tuple_dict, isi_list_bool, isi_list_int, isi_list_str, isi_list_tuple, isi_list_list, isi_list_dict, isi_dict_bool, isi_dict_int, isi_dict_str, isi_dict_tuple, isi_dict_list, isi_dict_dict, h5, h6]
  refine ⟨b, -1, ns, rfl, hb, hl, sb, .of (by decide) (by decide), hc, hf, ?_⟩
  refine ⟨a, tms (-1) b, ns, rfl, ha, tms_good hb, hl, sa, tms_sub sb, ?_⟩
  rw [plus_tms ha hb]
  exact .of q
/-! ### put_in -/
def one (k : Int) : Sm := ⟨0, [(k, 1)]⟩
def mean (ms : List (Int × Sm)) (k : Int) : Sm := ((ms.find? fun q => decide (q.1 = k)).map (·.2)).getD (one k)
def mnD (ms : List (Int × Sm)) : List (Key × D) := ms.map fun q => (.inl q.1, q.2.d)
theorem dget_mn (k : Int) : ∀ ms : List (Int × Sm), (dget (mnD ms) (.inl k)).getD (one k).d = (mean ms k).d
  | [] => rfl
  | p :: l => by
    have ih := dget_mn k l
    unfold dget mnD mean at ih ⊢
    rw [List.map_cons]
    by_cases h : p.1 = k
    · rw [List.find?_cons_of_pos (by rw [inl_eq]; simpa using h), List.find?_cons_of_pos (by simpa using h)]; rfl
    · rw [List.find?_cons_of_neg (by rw [inl_eq]; simpa using h), List.find?_cons_of_neg (by simpa using h)]; exact ih
structure MnOk (ms : List (Int × Sm)) (ns : List Int) (s : Sm) : Prop where
  g : s.good
  len : ns.length < 60
  sub : s.sub ns
  sf : ∀ p ∈ s.fs, Sml p.2
  mg : ∀ k ∈ keys s.fs, (mean ms k).good ∧ (mean ms k).sub ns ∧ Sml (mean ms k).c ∧ ∀ p ∈ (mean ms k).fs, Sml p.2
def spPutIn : DSp := fun ds S Q => ∃ (s : Sm) (ms : List (Int × Sm)) (ns : List Int), ds = [s.d, .dct (mnD ms)] ∧ MnOk ms ns s ∧ Q (swp (mean ms) s.fs ⟨s.c, []⟩).d S
theorem nil_good (c : Int) : Sm.good ⟨c, []⟩ := ⟨List.Pairwise.nil, fun p hp => by cases hp⟩
theorem nil_sub (c : Int) (ns : List Int) : Sm.sub ⟨c, []⟩ ns := fun k hk => by cases hk
theorem one_d (k : Int) : D.tup [.int 0, .tup [.tup [.int k, .int 1]]] = (one k).d := rfl
theorem r_put_in {T : Tb} (h5 : T.fn 5 = some (2, spAdded)) (h6 : T.fn 6 = some (2, spTimes)) {ds : List D} {S : Store} {Q : DQ} (h : spPutIn ds S Q) : denSs T core_put_in (DD Q) (start0 N_put_in.length ds) S := by
  obtain ⟨s, ms, ns, rfl, ok, q⟩ := h
  simp only [core_put_in, N_put_in, DD, Sm.d, denSs, denS, den, dens, denO, denT, denI, DV.of, DV.ofB, sSeq, sRet, sRetN, sNext, sIf, sSet, sSetG, sPar, sPar3, sSetIx, sDrop, sFor, sForKeys, sBreak, sCont, dAnd, dOr, dNot, dAndT, dOrT, dNotT, dUn, dOp, dIte, dVar, dC, dTup, dLst, dNil, dCons, dCall, dCut, dPart, dNoPart, dGet1, dGet2, dApp,
  dSeq1, dRange1, dRange2, dEnum, dZip, dLc, dDc, dChain, fIsi, fBlt, fLen, fAbs, fInt1, fMax, fMin, fL1, fTuple, fList, fSorted, fDict, fBin, fCmp, fNeg, fAdd, fSub, fMul, fMod, fDiv, fPow, fInt, fInt0, fLt, fLe, fGt, fGe, fIs, fIsNot, fInD, fIx, fCut, fSeq, fRange1, fRange2, fEnum, fZip, fSetIx, fGet, fApp, fLenSet, fAug, sAug, tOf, tOfB, guardN, gset, gsets, sFrz, frz_dct, frz_lst, fEq_int, fNe_int, fEq_bl, fNe_bl, fEq_nil, fNe_nil, fEq_ints,
  TyC.name, DL.isNon, start0, List.length_cons, List.length_nil, List.map_cons, List.map_nil, List.cons_append, List.nil_append, List.getElem?_cons_zero, List.getElem?_cons_succ, List.getElem?_nil, List.set_cons_zero, List.set_cons_succ, List.set_nil, List.replicate, Nat.reduceSub, Nat.reduceAdd, mkL, mkD, dwipe, Bool.false_eq_true, if_true, if_false, ite_true, ite_false, true_and, and_true, Option.isSome_some, Option.isSome_none, Option.map_some, Option.map_none, Option.getD_some, Option.getD_none,
  tyD_non, tyD_bl, tyD_int, tyD_str, tyD_tup, tyD_lst, tyD_dct, truD_non, truD_bl, truD_int, truD_tup, truD_lst, truD_dct, asL_non, asD_non, keyD_non, asL_bl, asD_bl, keyD_bl, asL_int, asD_int, keyD_int, asL_str, asD_str, keyD_str, asL_tup, asD_tup, keyD_tup, asL_lst, asD_lst, keyD_lst, asL_dct, asD_dct, keyD_dct, asL_scr, asD_scr, keyD_scr, asL_sup, asD_sup, asL_supD, isLs_sup, tyD_supL, tyD_supD, sup_same, sup_sup, ixN_1_0, ixN_2_0, ixN_2_1, ixN_3_0, ixN_3_1, ixN_3_2, ixN_4_0, ixN_4_1, ixN_4_2, ixN_4_3, ixN_5_0, ixN_5_1, ixN_5_2, ixN_5_3, ixN_5_4, ixN_6_0, ixN_6_1, ixN_6_2, ixN_6_3, ixN_6_4, ixN_6_5, ixN_7_0, ixN_7_1, ixN_7_2, ixN_7_3, ixN_7_4, ixN_7_5, ixN_7_6, ixN_8_0, ixN_8_1, ixN_8_2, ixN_8_3, ixN_8_4, ixN_8_5, ixN_8_6, ixN_8_7, atI_0, atI_1, atI_2, atI_3, atI_4, atI_5, atI_6, atI_7, atI_8, isi_NoneType_bool, isi_NoneType_int, isi_NoneType_str, isi_NoneType_tuple, isi_NoneType_list, isi_NoneType_dict, isi_bool_bool, isi_bool_int, isi_bool_str, isi_bool_tuple, isi_bool_list, isi_bool_dict, isi_int_bool, isi_int_int, isi_int_str, isi_int_tuple, isi_int_list, isi_int_dict, isi_str_bool, isi_str_int, isi_str_str, isi_str_tuple, isi_str_list, isi_str_dict, isi_tuple_bool, isi_tuple_int, isi_tuple_str, isi_tuple_tuple, isi_tuple_list, isi_tuple_dict, isi_list_bool, isi_list_int, isi_list_str, isi_list_tuple, isi_list_list, isi_list_dict, isi_dict_bool, isi_dict_int, isi_dict_str, isi_dict_tuple, isi_dict_list, isi_dict_dict]
  refine ⟨by decide, by decide, ?_⟩
  refine forL_ind (fun xs sd S' => S' = S ∧ ∃ ps acc o3 o4, xs = ps.map pD ∧ sd = [some s.d, some (.dct (mnD ms)), some acc.d, o3, o4] ∧ acc.good ∧ acc.sub ns ∧ (∀ q ∈ ps, q ∈ s.fs) ∧ swp (mean ms) ps acc = swp (mean ms) s.fs ⟨s.c, []⟩) ?_ ?_ _ _ _ ⟨rfl, s.fs, ⟨s.c, []⟩, none, none, rfl, rfl, nil_good s.c, nil_sub s.c ns, fun _ h => h, rfl⟩
  · rintro x xs sd S' ⟨rfl, ps, acc, o3, o4, e, rfl, h1, h2, h3, h4⟩
    cases ps with
    | nil => cases e
    | cons y ps =>
      cases e
      have hy := h3 y List.mem_cons_self
      obtain ⟨m1, m2, m3, m4⟩ := ok.mg y.1 (List.mem_map_of_mem hy)
      refine ⟨trivial, _, rfl, fun K hK => ?_⟩
      simp only [denSs, denS, den, dens, denO, denT, denI, DV.of, DV.ofB, sSeq, sRet, sRetN, sNext, sIf, sSet, sSetG, sPar, sPar3, sSetIx, sDrop, sFor, sForKeys, sBreak, sCont, dAnd, dOr, dNot, dAndT, dOrT, dNotT, dUn, dOp, dIte, dVar, dC, dTup, dLst, dNil, dCons, dCall, dCut, dPart, dNoPart, dGet1, dGet2, dApp,
  dSeq1, dRange1, dRange2, dEnum, dZip, dLc, dDc, dChain, fIsi, fBlt, fLen, fAbs, fInt1, fMax, fMin, fL1, fTuple, fList, fSorted, fDict, fBin, fCmp, fNeg, fAdd, fSub, fMul, fMod, fDiv, fPow, fInt, fInt0, fLt, fLe, fGt, fGe, fIs, fIsNot, fInD, fIx, fCut, fSeq, fRange1, fRange2, fEnum, fZip, fSetIx, fGet, fApp, fLenSet, fAug, sAug, tOf, tOfB, guardN, gset, gsets, sFrz, frz_dct, frz_lst, fEq_int, fNe_int, fEq_bl, fNe_bl, fEq_nil, fNe_nil, fEq_ints,
  TyC.name, DL.isNon, start0, List.length_cons, List.length_nil, List.map_cons, List.map_nil, List.cons_append, List.nil_append, List.getElem?_cons_zero, List.getElem?_cons_succ, List.getElem?_nil, List.set_cons_zero, List.set_cons_succ, List.set_nil, List.replicate, Nat.reduceSub, Nat.reduceAdd, mkL, mkD, dwipe, Bool.false_eq_true, if_true, if_false, ite_true, ite_false, true_and, and_true, Option.isSome_some, Option.isSome_none, Option.map_some, Option.map_none, Option.getD_some, Option.getD_none,
  tyD_non, tyD_bl, tyD_int, tyD_str, tyD_tup, tyD_lst, tyD_dct, truD_non, truD_bl, truD_int, truD_tup, truD_lst, truD_dct, asL_non, asD_non, keyD_non, asL_bl, asD_bl, keyD_bl, asL_int, asD_int, keyD_int, asL_str, asD_str, keyD_str, asL_tup, asD_tup, keyD_tup, asL_lst, asD_lst, keyD_lst, asL_dct, asD_dct, keyD_dct, asL_scr, asD_scr, keyD_scr, asL_sup, asD_sup, asL_supD, isLs_sup, tyD_supL, tyD_supD, sup_same, sup_sup, ixN_1_0, ixN_2_0, ixN_2_1, ixN_3_0, ixN_3_1, ixN_3_2, ixN_4_0, ixN_4_1, ixN_4_2, ixN_4_3, ixN_5_0, ixN_5_1, ixN_5_2, ixN_5_3, ixN_5_4, ixN_6_0, ixN_6_1, ixN_6_2, ixN_6_3, ixN_6_4, ixN_6_5, ixN_7_0, ixN_7_1, ixN_7_2, ixN_7_3, ixN_7_4, ixN_7_5, ixN_7_6, ixN_8_0, ixN_8_1, ixN_8_2, ixN_8_3, ixN_8_4, ixN_8_5, ixN_8_6, ixN_8_7, atI_0, atI_1, atI_2, atI_3, atI_4, atI_5, atI_6, atI_7, atI_8, isi_NoneType_bool, isi_NoneType_int, isi_NoneType_str, isi_NoneType_tuple, isi_NoneType_list, isi_NoneType_dict, isi_bool_bool, isi_bool_int, isi_bool_str, isi_bool_tuple, isi_bool_list, isi_bool_dict, isi_int_bool, isi_int_int, isi_int_str, isi_int_tuple, isi_int_list, isi_int_dict, isi_str_bool, isi_str_int, isi_str_str, isi_str_tuple, isi_str_list, isi_str_dict, isi_tuple_bool, isi_tuple_int, isi_tuple_str, isi_tuple_tuple, isi_tuple_list, isi_tuple_dict, isi_list_bool, isi_list_int, isi_list_str, isi_list_tuple, isi_list_list, isi_list_dict, isi_dict_bool, isi_dict_int, isi_dict_str, isi_dict_tuple, isi_dict_list, isi_dict_dict, h5, h6, one_d, dget_mn]
      refine ⟨by decide, by decide, by decide, ?_⟩
      refine ⟨mean ms y.1, y.2, ns, rfl, m1, ok.len, m2, ok.sf y hy, m3, m4, ?_⟩
      refine ⟨acc, tms y.2 (mean ms y.1), ns, rfl, h1, tms_good m1, ok.len, h2, tms_sub m2, ?_⟩
      rw [plus_tms h1 m1]
      exact hK _ _ ⟨rfl, ps, plus acc (mean ms y.1) y.2, _, _, rfl, rfl, plus_good h1 m1, plus_sub h2 m2, fun q hq => h3 q (List.mem_cons_of_mem _ hq), h4⟩
  · rintro sd S' ⟨rfl, ps, acc, o3, o4, e, rfl, h1, h2, h3, h4⟩
    have e : ps = [] := by cases ps with | nil => rfl | cons _ _ => cases e
    subst e
    have h4 : acc = swp (mean ms) s.fs ⟨s.c, []⟩ := h4
    refine ⟨trivial, ?_⟩
    simp only [denSs, denS, den, dens, denO, denT, denI, DV.of, DV.ofB, sSeq, sRet, sRetN, sNext, sIf, sSet, sSetG, sPar, sPar3, sSetIx, sDrop, sFor, sForKeys, sBreak, sCont, dAnd, dOr, dNot, dAndT, dOrT, dNotT, dUn, dOp, dIte, dVar, dC, dTup, dLst, dNil, dCons, dCall, dCut, dPart, dNoPart, dGet1, dGet2, dApp,
  dSeq1, dRange1, dRange2, dEnum, dZip, dLc, dDc, dChain, fIsi, fBlt, fLen, fAbs, fInt1, fMax, fMin, fL1, fTuple, fList, fSorted, fDict, fBin, fCmp, fNeg, fAdd, fSub, fMul, fMod, fDiv, fPow, fInt, fInt0, fLt, fLe, fGt, fGe, fIs, fIsNot, fInD, fIx, fCut, fSeq, fRange1, fRange2, fEnum, fZip, fSetIx, fGet, fApp, fLenSet, fAug, sAug, tOf, tOfB, guardN, gset, gsets, sFrz, frz_dct, frz_lst, fEq_int, fNe_int, fEq_bl, fNe_bl, fEq_nil, fNe_nil, fEq_ints,
  TyC.name, DL.isNon, start0, List.length_cons, List.length_nil, List.map_cons, List.map_nil, List.cons_append, List.nil_append, List.getElem?_cons_zero, List.getElem?_cons_succ, List.getElem?_nil, List.set_cons_zero, List.set_cons_succ, List.set_nil, List.replicate, Nat.reduceSub, Nat.reduceAdd, mkL, mkD, dwipe, Bool.false_eq_true, if_true, if_false, ite_true, ite_false, true_and, and_true, Option.isSome_some, Option.isSome_none, Option.map_some, Option.map_none, Option.getD_some, Option.getD_none,
  tyD_non, tyD_bl, tyD_int, tyD_str, tyD_tup, tyD_lst, tyD_dct, truD_non, truD_bl, truD_int, truD_tup, truD_lst, truD_dct, asL_non, asD_non, keyD_non, asL_bl, asD_bl, keyD_bl, asL_int, asD_int, keyD_int, asL_str, asD_str, keyD_str, asL_tup, asD_tup, keyD_tup, asL_lst, asD_lst, keyD_lst, asL_dct, asD_dct, keyD_dct, asL_scr, asD_scr, keyD_scr, asL_sup, asD_sup, asL_supD, isLs_sup, tyD_supL, tyD_supD, sup_same, sup_sup, ixN_1_0, ixN_2_0, ixN_2_1, ixN_3_0, ixN_3_1, ixN_3_2, ixN_4_0, ixN_4_1, ixN_4_2, ixN_4_3, ixN_5_0, ixN_5_1, ixN_5_2, ixN_5_3, ixN_5_4, ixN_6_0, ixN_6_1, ixN_6_2, ixN_6_3, ixN_6_4, ixN_6_5, ixN_7_0, ixN_7_1, ixN_7_2, ixN_7_3, ixN_7_4, ixN_7_5, ixN_7_6, ixN_8_0, ixN_8_1, ixN_8_2, ixN_8_3, ixN_8_4, ixN_8_5, ixN_8_6, ixN_8_7, atI_0, atI_1, atI_2, atI_3, atI_4, atI_5, atI_6, atI_7, atI_8, isi_NoneType_bool, isi_NoneType_int, isi_NoneType_str, isi_NoneType_tuple, isi_NoneType_list, isi_NoneType_dict, isi_bool_bool, isi_bool_int, isi_bool_str, isi_bool_tuple, isi_bool_list, isi_bool_dict, isi_int_bool, isi_int_int, isi_int_str, isi_int_tuple, isi_int_list, isi_int_dict, isi_str_bool, isi_str_int, isi_str_str, isi_str_tuple, isi_str_list, isi_str_dict, isi_tuple_bool, isi_tuple_int, isi_tuple_str, isi_tuple_tuple, isi_tuple_list, isi_tuple_dict, isi_list_bool, isi_list_int, isi_list_str, isi_list_tuple, isi_list_list, isi_list_dict, isi_dict_bool, isi_dict_int, isi_dict_str, isi_dict_tuple, isi_dict_list, isi_dict_dict]
    rw [h4]; exact .of q
theorem r_law_swap {T : Tb} (h5 : T.fn 17 = some (3, spPlus)) {ds : List D} {S : Store} {Q : DQ} (h : spPutIn ds S Q) : denSs T core__law_swap (DD Q) (start0 N__law_swap.length ds) S := by
  obtain ⟨s, ms, ns, rfl, ok, q⟩ := h
  simp only [core__law_swap, N__law_swap, DD, Sm.d, denSs, denS, den, dens, denO, denT, denI, DV.of, DV.ofB, sSeq, sRet, sRetN, sNext, sIf, sSet, sSetG, sPar, sPar3, sSetIx, sDrop, sFor, sForKeys, sBreak, sCont, dAnd, dOr, dNot, dAndT, dOrT, dNotT, dUn, dOp, dIte, dVar, dC, dTup, dLst, dNil, dCons, dCall, dCut, dPart, dNoPart, dGet1, dGet2, dApp,
  dSeq1, dRange1, dRange2, dEnum, dZip, dLc, dDc, dChain, fIsi, fBlt, fLen, fAbs, fInt1, fMax, fMin, fL1, fTuple, fList, fSorted, fDict, fBin, fCmp, fNeg, fAdd, fSub, fMul, fMod, fDiv, fPow, fInt, fInt0, fLt, fLe, fGt, fGe, fIs, fIsNot, fInD, fIx, fCut, fSeq, fRange1, fRange2, fEnum, fZip, fSetIx, fGet, fApp, fLenSet, fAug, sAug, tOf, tOfB, guardN, gset, gsets, sFrz, frz_dct, frz_lst, fEq_int, fNe_int, fEq_bl, fNe_bl, fEq_nil, fNe_nil, fEq_ints,
  TyC.name, DL.isNon, start0, List.length_cons, List.length_nil, List.map_cons, List.map_nil, List.cons_append, List.nil_append, List.getElem?_cons_zero, List.getElem?_cons_succ, List.getElem?_nil, List.set_cons_zero, List.set_cons_succ, List.set_nil, List.replicate, Nat.reduceSub, Nat.reduceAdd, mkL, mkD, dwipe, Bool.false_eq_true, if_true, if_false, ite_true, ite_false, true_and, and_true, Option.isSome_some, Option.isSome_none, Option.map_some, Option.map_none, Option.getD_some, Option.getD_none,
  tyD_non, tyD_bl, tyD_int, tyD_str, tyD_tup, tyD_lst, tyD_dct, truD_non, truD_bl, truD_int, truD_tup, truD_lst, truD_dct, asL_non, asD_non, keyD_non, asL_bl, asD_bl, keyD_bl, asL_int, asD_int, keyD_int, asL_str, asD_str, keyD_str, asL_tup, asD_tup, keyD_tup, asL_lst, asD_lst, keyD_lst, asL_dct, asD_dct, keyD_dct, asL_scr, asD_scr, keyD_scr, asL_sup, asD_sup, asL_supD, isLs_sup, tyD_supL, tyD_supD, sup_same, sup_sup, ixN_1_0, ixN_2_0, ixN_2_1, ixN_3_0, ixN_3_1, ixN_3_2, ixN_4_0, ixN_4_1, ixN_4_2, ixN_4_3, ixN_5_0, ixN_5_1, ixN_5_2, ixN_5_3, ixN_5_4, ixN_6_0, ixN_6_1, ixN_6_2, ixN_6_3, ixN_6_4, ixN_6_5, ixN_7_0, ixN_7_1, ixN_7_2, ixN_7_3, ixN_7_4, ixN_7_5, ixN_7_6, ixN_8_0, ixN_8_1, ixN_8_2, ixN_8_3, ixN_8_4, ixN_8_5, ixN_8_6, ixN_8_7, atI_0, atI_1, atI_2, atI_3, atI_4, atI_5, atI_6, atI_7, atI_8, isi_NoneType_bool, isi_NoneType_int, isi_NoneType_str, isi_NoneType_tuple, isi_NoneType_list, isi_NoneType_dict, isi_bool_bool, isi_bool_int, isi_bool_str, isi_bool_tuple, isi_bool_list, isi_bool_dict, isi_int_bool, isi_int_int, isi_int_str, isi_int_tuple, isi_int_list, isi_int_dict, isi_str_bool, isi_str_int, isi_str_str, isi_str_tuple, isi_str_list, isi_str_dict, isi_tuple_bool, isi_tuple_int, isi_tuple_str, isi_tuple_tuple, isi_tuple_list, isi_tuple_dict, isi_list_bool, isi_list_int, isi_list_str, isi_list_tuple, isi_list_list, isi_list_dict, isi_dict_bool, isi_dict_int, isi_dict_str, isi_dict_tuple, isi_dict_list, isi_dict_dict]
  refine ⟨by decide, by decide, ?_⟩
  refine forL_ind (fun xs sd S' => S' = S ∧ ∃ ps acc o3 o4, xs = ps.map pD ∧ sd = [some s.d, some (.dct (mnD ms)), some acc.d, o3, o4] ∧ acc.good ∧ acc.sub ns ∧ (∀ q ∈ ps, q ∈ s.fs) ∧ swp (mean ms) ps acc = swp (mean ms) s.fs ⟨s.c, []⟩) ?_ ?_ _ _ _ ⟨rfl, s.fs, ⟨s.c, []⟩, none, none, rfl, rfl, nil_good s.c, nil_sub s.c ns, fun _ h => h, rfl⟩
  · rintro x xs sd S' ⟨rfl, ps, acc, o3, o4, e, rfl, h1, h2, h3, h4⟩
    cases ps with
    | nil => cases e
    | cons y ps =>
      cases e
      have hy := h3 y List.mem_cons_self
      obtain ⟨m1, m2, m3, m4⟩ := ok.mg y.1 (List.mem_map_of_mem hy)
      refine ⟨trivial, _, rfl, fun K hK => ?_⟩
      simp only [denSs, denS, den, dens, denO, denT, denI, DV.of, DV.ofB, sSeq, sRet, sRetN, sNext, sIf, sSet, sSetG, sPar, sPar3, sSetIx, sDrop, sFor, sForKeys, sBreak, sCont, dAnd, dOr, dNot, dAndT, dOrT, dNotT, dUn, dOp, dIte, dVar, dC, dTup, dLst, dNil, dCons, dCall, dCut, dPart, dNoPart, dGet1, dGet2, dApp,
  dSeq1, dRange1, dRange2, dEnum, dZip, dLc, dDc, dChain, fIsi, fBlt, fLen, fAbs, fInt1, fMax, fMin, fL1, fTuple, fList, fSorted, fDict, fBin, fCmp, fNeg, fAdd, fSub, fMul, fMod, fDiv, fPow, fInt, fInt0, fLt, fLe, fGt, fGe, fIs, fIsNot, fInD, fIx, fCut, fSeq, fRange1, fRange2, fEnum, fZip, fSetIx, fGet, fApp, fLenSet, fAug, sAug, tOf, tOfB, guardN, gset, gsets, sFrz, frz_dct, frz_lst, fEq_int, fNe_int, fEq_bl, fNe_bl, fEq_nil, fNe_nil, fEq_ints,
  TyC.name, DL.isNon, start0, List.length_cons, List.length_nil, List.map_cons, List.map_nil, List.cons_append, List.nil_append, List.getElem?_cons_zero, List.getElem?_cons_succ, List.getElem?_nil, List.set_cons_zero, List.set_cons_succ, List.set_nil, List.replicate, Nat.reduceSub, Nat.reduceAdd, mkL, mkD, dwipe, Bool.false_eq_true, if_true, if_false, ite_true, ite_false, true_and, and_true, Option.isSome_some, Option.isSome_none, Option.map_some, Option.map_none, Option.getD_some, Option.getD_none,
  tyD_non, tyD_bl, tyD_int, tyD_str, tyD_tup, tyD_lst, tyD_dct, truD_non, truD_bl, truD_int, truD_tup, truD_lst, truD_dct, asL_non, asD_non, keyD_non, asL_bl, asD_bl, keyD_bl, asL_int, asD_int, keyD_int, asL_str, asD_str, keyD_str, asL_tup, asD_tup, keyD_tup, asL_lst, asD_lst, keyD_lst, asL_dct, asD_dct, keyD_dct, asL_scr, asD_scr, keyD_scr, asL_sup, asD_sup, asL_supD, isLs_sup, tyD_supL, tyD_supD, sup_same, sup_sup, ixN_1_0, ixN_2_0, ixN_2_1, ixN_3_0, ixN_3_1, ixN_3_2, ixN_4_0, ixN_4_1, ixN_4_2, ixN_4_3, ixN_5_0, ixN_5_1, ixN_5_2, ixN_5_3, ixN_5_4, ixN_6_0, ixN_6_1, ixN_6_2, ixN_6_3, ixN_6_4, ixN_6_5, ixN_7_0, ixN_7_1, ixN_7_2, ixN_7_3, ixN_7_4, ixN_7_5, ixN_7_6, ixN_8_0, ixN_8_1, ixN_8_2, ixN_8_3, ixN_8_4, ixN_8_5, ixN_8_6, ixN_8_7, atI_0, atI_1, atI_2, atI_3, atI_4, atI_5, atI_6, atI_7, atI_8, isi_NoneType_bool, isi_NoneType_int, isi_NoneType_str, isi_NoneType_tuple, isi_NoneType_list, isi_NoneType_dict, isi_bool_bool, isi_bool_int, isi_bool_str, isi_bool_tuple, isi_bool_list, isi_bool_dict, isi_int_bool, isi_int_int, isi_int_str, isi_int_tuple, isi_int_list, isi_int_dict, isi_str_bool, isi_str_int, isi_str_str, isi_str_tuple, isi_str_list, isi_str_dict, isi_tuple_bool, isi_tuple_int, isi_tuple_str, isi_tuple_tuple, isi_tuple_list, isi_tuple_dict, isi_list_bool, isi_list_int, isi_list_str, isi_list_tuple, isi_list_list, isi_list_dict, isi_dict_bool, isi_dict_int, isi_dict_str, isi_dict_tuple, isi_dict_list, isi_dict_dict, h5, one_d, dget_mn]
      refine ⟨by decide, by decide, by decide, ?_⟩
      refine ⟨acc, mean ms y.1, y.2, ns, rfl, h1, m1, ok.len, h2, m2, ok.sf y hy, m3, m4, ?_⟩
      exact hK _ _ ⟨rfl, ps, plus acc (mean ms y.1) y.2, _, _, rfl, rfl, plus_good h1 m1, plus_sub h2 m2, fun q hq => h3 q (List.mem_cons_of_mem _ hq), h4⟩
  · rintro sd S' ⟨rfl, ps, acc, o3, o4, e, rfl, h1, h2, h3, h4⟩
    have e : ps = [] := by cases ps with | nil => rfl | cons _ _ => cases e
    subst e
    have h4 : acc = swp (mean ms) s.fs ⟨s.c, []⟩ := h4
    refine ⟨trivial, ?_⟩
    simp only [denSs, denS, den, dens, denO, denT, denI, DV.of, DV.ofB, sSeq, sRet, sRetN, sNext, sIf, sSet, sSetG, sPar, sPar3, sSetIx, sDrop, sFor, sForKeys, sBreak, sCont, dAnd, dOr, dNot, dAndT, dOrT, dNotT, dUn, dOp, dIte, dVar, dC, dTup, dLst, dNil, dCons, dCall, dCut, dPart, dNoPart, dGet1, dGet2, dApp,
  dSeq1, dRange1, dRange2, dEnum, dZip, dLc, dDc, dChain, fIsi, fBlt, fLen, fAbs, fInt1, fMax, fMin, fL1, fTuple, fList, fSorted, fDict, fBin, fCmp, fNeg, fAdd, fSub, fMul, fMod, fDiv, fPow, fInt, fInt0, fLt, fLe, fGt, fGe, fIs, fIsNot, fInD, fIx, fCut, fSeq, fRange1, fRange2, fEnum, fZip, fSetIx, fGet, fApp, fLenSet, fAug, sAug, tOf, tOfB, guardN, gset, gsets, sFrz, frz_dct, frz_lst, fEq_int, fNe_int, fEq_bl, fNe_bl, fEq_nil, fNe_nil, fEq_ints,
  TyC.name, DL.isNon, start0, List.length_cons, List.length_nil, List.map_cons, List.map_nil, List.cons_append, List.nil_append, List.getElem?_cons_zero, List.getElem?_cons_succ, List.getElem?_nil, List.set_cons_zero, List.set_cons_succ, List.set_nil, List.replicate, Nat.reduceSub, Nat.reduceAdd, mkL, mkD, dwipe, Bool.false_eq_true, if_true, if_false, ite_true, ite_false, true_and, and_true, Option.isSome_some, Option.isSome_none, Option.map_some, Option.map_none, Option.getD_some, Option.getD_none,
  tyD_non, tyD_bl, tyD_int, tyD_str, tyD_tup, tyD_lst, tyD_dct, truD_non, truD_bl, truD_int, truD_tup, truD_lst, truD_dct, asL_non, asD_non, keyD_non, asL_bl, asD_bl, keyD_bl, asL_int, asD_int, keyD_int, asL_str, asD_str, keyD_str, asL_tup, asD_tup, keyD_tup, asL_lst, asD_lst, keyD_lst, asL_dct, asD_dct, keyD_dct, asL_scr, asD_scr, keyD_scr, asL_sup, asD_sup, asL_supD, isLs_sup, tyD_supL, tyD_supD, sup_same, sup_sup, ixN_1_0, ixN_2_0, ixN_2_1, ixN_3_0, ixN_3_1, ixN_3_2, ixN_4_0, ixN_4_1, ixN_4_2, ixN_4_3, ixN_5_0, ixN_5_1, ixN_5_2, ixN_5_3, ixN_5_4, ixN_6_0, ixN_6_1, ixN_6_2, ixN_6_3, ixN_6_4, ixN_6_5, ixN_7_0, ixN_7_1, ixN_7_2, ixN_7_3, ixN_7_4, ixN_7_5, ixN_7_6, ixN_8_0, ixN_8_1, ixN_8_2, ixN_8_3, ixN_8_4, ixN_8_5, ixN_8_6, ixN_8_7, atI_0, atI_1, atI_2, atI_3, atI_4, atI_5, atI_6, atI_7, atI_8, isi_NoneType_bool, isi_NoneType_int, isi_NoneType_str, isi_NoneType_tuple, isi_NoneType_list, isi_NoneType_dict, isi_bool_bool, isi_bool_int, isi_bool_str, isi_bool_tuple, isi_bool_list, isi_bool_dict, isi_int_bool, isi_int_int, isi_int_str, isi_int_tuple, isi_int_list, isi_int_dict, isi_str_bool, isi_str_int, isi_str_str, isi_str_tuple, isi_str_list, isi_str_dict, isi_tuple_bool, isi_tuple_int, isi_tuple_str, isi_tuple_tuple, isi_tuple_list, isi_tuple_dict, isi_list_bool, isi_list_int, isi_list_str, isi_list_tuple, isi_list_list, isi_list_dict, isi_dict_bool, isi_dict_int, isi_dict_str, isi_dict_tuple, isi_dict_list, isi_dict_dict]
    rw [h4]; exact .of q
end K00
set_option Elab.async false
set_option linter.all false
set_option maxRecDepth 100000
set_option maxHeartbeats 1000000
namespace K00
open PySem L2 DL
/-! ### worth -/
def spWorth : DSp := fun ds S Q => ∃ (s : Sm) (vl : List P2), ds = [s.d, .dct (kvD vl)] ∧ s.sub (keys vl) ∧ (∀ p ∈ s.fs, Sml p.2) ∧ (∀ k ∈ keys vl, Sml (get vl k)) ∧ Q (.int (s.w (get vl))) S
theorem wsum_ints (v : Int → Int) (l : List P2) : asInts ((l.map pD).map fun d => match d with | .tup [.int a, .int b] => D.int (b * v a) | _ => .non) = some (l.map fun p => p.2 * v p.1) := by
  have := asInts_map (l.map fun p => p.2 * v p.1)
  rw [List.map_map] at this ⊢
  exact this
theorem r_worth {T : Tb} {ds : List D} {S : Store} {Q : DQ} (h : spWorth ds S Q) : denSs T core_worth (DD Q) (start0 N_worth.length ds) S := by
  obtain ⟨s, vl, rfl, h1, h2, h3, q⟩ := h
  simp only [core_worth, N_worth, DD, Sm.d, denSs, denS, den, dens, denO, denT, denI, DV.of, DV.ofB, sSeq, sRet, sRetN, sNext, sIf, sSet, sSetG, sPar, sPar3, sSetIx, sDrop, sFor, sForKeys, sBreak, sCont, dAnd, dOr, dNot, dAndT, dOrT, dNotT, dUn, dOp, dIte, dVar, dC, dTup, dLst, dNil, dCons, dCall, dCut, dPart, dNoPart, dGet1, dGet2, dApp,
  dSeq1, dRange1, dRange2, dEnum, dZip, dLc, dDc, dChain, fIsi, fBlt, fLen, fAbs, fInt1, fMax, fMin, fL1, fTuple, fList, fSorted, fDict, fBin, fCmp, fNeg, fAdd, fSub, fMul, fMod, fDiv, fPow, fInt, fInt0, fLt, fLe, fGt, fGe, fIs, fIsNot, fInD, fIx, fCut, fSeq, fRange1, fRange2, fEnum, fZip, fSetIx, fGet, fApp, fLenSet, fAug, sAug, tOf, tOfB, guardN, gset, gsets, sFrz, frz_dct, frz_lst, fEq_int, fNe_int, fEq_bl, fNe_bl, fEq_nil, fNe_nil, fEq_ints,
  TyC.name, DL.isNon, start0, List.length_cons, List.length_nil, List.map_cons, List.map_nil, List.cons_append, List.nil_append, List.getElem?_cons_zero, List.getElem?_cons_succ, List.getElem?_nil, List.set_cons_zero, List.set_cons_succ, List.set_nil, List.replicate, Nat.reduceSub, Nat.reduceAdd, mkL, mkD, dwipe, Bool.false_eq_true, if_true, if_false, ite_true, ite_false, true_and, and_true, Option.isSome_some, Option.isSome_none, Option.map_some, Option.map_none, Option.getD_some, Option.getD_none,
  tyD_non, tyD_bl, tyD_int, tyD_str, tyD_tup, tyD_lst, tyD_dct, truD_non, truD_bl, truD_int, truD_tup, truD_lst, truD_dct, asL_non, asD_non, keyD_non, asL_bl, asD_bl, keyD_bl, asL_int, asD_int, keyD_int, asL_str, asD_str, keyD_str, asL_tup, asD_tup, keyD_tup, asL_lst, asD_lst, keyD_lst, asL_dct, asD_dct, keyD_dct, asL_scr, asD_scr, keyD_scr, asL_sup, asD_sup, asL_supD, isLs_sup, tyD_supL, tyD_supD, sup_same, sup_sup, ixN_1_0, ixN_2_0, ixN_2_1, ixN_3_0, ixN_3_1, ixN_3_2, ixN_4_0, ixN_4_1, ixN_4_2, ixN_4_3, ixN_5_0, ixN_5_1, ixN_5_2, ixN_5_3, ixN_5_4, ixN_6_0, ixN_6_1, ixN_6_2, ixN_6_3, ixN_6_4, ixN_6_5, ixN_7_0, ixN_7_1, ixN_7_2, ixN_7_3, ixN_7_4, ixN_7_5, ixN_7_6, ixN_8_0, ixN_8_1, ixN_8_2, ixN_8_3, ixN_8_4, ixN_8_5, ixN_8_6, ixN_8_7, atI_0, atI_1, atI_2, atI_3, atI_4, atI_5, atI_6, atI_7, atI_8, isi_NoneType_bool, isi_NoneType_int, isi_NoneType_str, isi_NoneType_tuple, isi_NoneType_list, isi_NoneType_dict, isi_bool_bool, isi_bool_int, isi_bool_str, isi_bool_tuple, isi_bool_list, isi_bool_dict, isi_int_bool, isi_int_int, isi_int_str, isi_int_tuple, isi_int_list, isi_int_dict, isi_str_bool, isi_str_int, isi_str_str, isi_str_tuple, isi_str_list, isi_str_dict, isi_tuple_bool, isi_tuple_int, isi_tuple_str, isi_tuple_tuple, isi_tuple_list, isi_tuple_dict, isi_list_bool, isi_list_int, isi_list_str, isi_list_tuple, isi_list_list, isi_list_dict, isi_dict_bool, isi_dict_int, isi_dict_str, isi_dict_tuple, isi_dict_list, isi_dict_dict]
  refine lcL_map (f := fun d => match d with | .tup [.int a, .int b] => .int (b * get vl a) | _ => .non) trivial (fun x hx => ?_) ?_
  · obtain ⟨p, hp, rfl⟩ := List.mem_map.mp hx
    have hk := h1 p.1 (List.mem_map_of_mem hp)
    refine ⟨_, rfl, fun Q' q' => ?_⟩
    simp only [denSs, denS, den, dens, denO, denT, denI, DV.of, DV.ofB, sSeq, sRet, sRetN, sNext, sIf, sSet, sSetG, sPar, sPar3, sSetIx, sDrop, sFor, sForKeys, sBreak, sCont, dAnd, dOr, dNot, dAndT, dOrT, dNotT, dUn, dOp, dIte, dVar, dC, dTup, dLst, dNil, dCons, dCall, dCut, dPart, dNoPart, dGet1, dGet2, dApp,
  dSeq1, dRange1, dRange2, dEnum, dZip, dLc, dDc, dChain, fIsi, fBlt, fLen, fAbs, fInt1, fMax, fMin, fL1, fTuple, fList, fSorted, fDict, fBin, fCmp, fNeg, fAdd, fSub, fMul, fMod, fDiv, fPow, fInt, fInt0, fLt, fLe, fGt, fGe, fIs, fIsNot, fInD, fIx, fCut, fSeq, fRange1, fRange2, fEnum, fZip, fSetIx, fGet, fApp, fLenSet, fAug, sAug, tOf, tOfB, guardN, gset, gsets, sFrz, frz_dct, frz_lst, fEq_int, fNe_int, fEq_bl, fNe_bl, fEq_nil, fNe_nil, fEq_ints,
  TyC.name, DL.isNon, start0, List.length_cons, List.length_nil, List.map_cons, List.map_nil, List.cons_append, List.nil_append, List.getElem?_cons_zero, List.getElem?_cons_succ, List.getElem?_nil, List.set_cons_zero, List.set_cons_succ, List.set_nil, List.replicate, Nat.reduceSub, Nat.reduceAdd, mkL, mkD, dwipe, Bool.false_eq_true, if_true, if_false, ite_true, ite_false, true_and, and_true, Option.isSome_some, Option.isSome_none, Option.map_some, Option.map_none, Option.getD_some, Option.getD_none,
  tyD_non, tyD_bl, tyD_int, tyD_str, tyD_tup, tyD_lst, tyD_dct, truD_non, truD_bl, truD_int, truD_tup, truD_lst, truD_dct, asL_non, asD_non, keyD_non, asL_bl, asD_bl, keyD_bl, asL_int, asD_int, keyD_int, asL_str, asD_str, keyD_str, asL_tup, asD_tup, keyD_tup, asL_lst, asD_lst, keyD_lst, asL_dct, asD_dct, keyD_dct, asL_scr, asD_scr, keyD_scr, asL_sup, asD_sup, asL_supD, isLs_sup, tyD_supL, tyD_supD, sup_same, sup_sup, ixN_1_0, ixN_2_0, ixN_2_1, ixN_3_0, ixN_3_1, ixN_3_2, ixN_4_0, ixN_4_1, ixN_4_2, ixN_4_3, ixN_5_0, ixN_5_1, ixN_5_2, ixN_5_3, ixN_5_4, ixN_6_0, ixN_6_1, ixN_6_2, ixN_6_3, ixN_6_4, ixN_6_5, ixN_7_0, ixN_7_1, ixN_7_2, ixN_7_3, ixN_7_4, ixN_7_5, ixN_7_6, ixN_8_0, ixN_8_1, ixN_8_2, ixN_8_3, ixN_8_4, ixN_8_5, ixN_8_6, ixN_8_7, atI_0, atI_1, atI_2, atI_3, atI_4, atI_5, atI_6, atI_7, atI_8, isi_NoneType_bool, isi_NoneType_int, isi_NoneType_str, isi_NoneType_tuple, isi_NoneType_list, isi_NoneType_dict, isi_bool_bool, isi_bool_int, isi_bool_str, isi_bool_tuple, isi_bool_list, isi_bool_dict, isi_int_bool, isi_int_int, isi_int_str, isi_int_tuple, isi_int_list, isi_int_dict, isi_str_bool, isi_str_int, isi_str_str, isi_str_tuple, isi_str_list, isi_str_dict, isi_tuple_bool, isi_tuple_int, isi_tuple_str, isi_tuple_tuple, isi_tuple_list, isi_tuple_dict, isi_list_bool, isi_list_int, isi_list_str, isi_list_tuple, isi_list_list, isi_list_dict, isi_dict_bool, isi_dict_int, isi_dict_str, isi_dict_tuple, isi_dict_list, isi_dict_dict, dget_in hk]
    exact ⟨cmulW (h2 p hp) (h3 _ hk), q'⟩
  · simp only [wsum_ints]
    exact .of q
theorem r_law_worth {T : Tb} {ds : List D} {S : Store} {Q : DQ} (h : spWorth ds S Q) : denSs T core__law_worth (DD Q) (start0 N__law_worth.length ds) S := by
  obtain ⟨s, vl, rfl, h1, h2, h3, q⟩ := h
  simp only [core__law_worth, N__law_worth, DD, Sm.d, denSs, denS, den, dens, denO, denT, denI, DV.of, DV.ofB, sSeq, sRet, sRetN, sNext, sIf, sSet, sSetG, sPar, sPar3, sSetIx, sDrop, sFor, sForKeys, sBreak, sCont, dAnd, dOr, dNot, dAndT, dOrT, dNotT, dUn, dOp, dIte, dVar, dC, dTup, dLst, dNil, dCons, dCall, dCut, dPart, dNoPart, dGet1, dGet2, dApp,
  dSeq1, dRange1, dRange2, dEnum, dZip, dLc, dDc, dChain, fIsi, fBlt, fLen, fAbs, fInt1, fMax, fMin, fL1, fTuple, fList, fSorted, fDict, fBin, fCmp, fNeg, fAdd, fSub, fMul, fMod, fDiv, fPow, fInt, fInt0, fLt, fLe, fGt, fGe, fIs, fIsNot, fInD, fIx, fCut, fSeq, fRange1, fRange2, fEnum, fZip, fSetIx, fGet, fApp, fLenSet, fAug, sAug, tOf, tOfB, guardN, gset, gsets, sFrz, frz_dct, frz_lst, fEq_int, fNe_int, fEq_bl, fNe_bl, fEq_nil, fNe_nil, fEq_ints,
  TyC.name, DL.isNon, start0, List.length_cons, List.length_nil, List.map_cons, List.map_nil, List.cons_append, List.nil_append, List.getElem?_cons_zero, List.getElem?_cons_succ, List.getElem?_nil, List.set_cons_zero, List.set_cons_succ, List.set_nil, List.replicate, Nat.reduceSub, Nat.reduceAdd, mkL, mkD, dwipe, Bool.false_eq_true, if_true, if_false, ite_true, ite_false, true_and, and_true, Option.isSome_some, Option.isSome_none, Option.map_some, Option.map_none, Option.getD_some, Option.getD_none,
  tyD_non, tyD_bl, tyD_int, tyD_str, tyD_tup, tyD_lst, tyD_dct, truD_non, truD_bl, truD_int, truD_tup, truD_lst, truD_dct, asL_non, asD_non, keyD_non, asL_bl, asD_bl, keyD_bl, asL_int, asD_int, keyD_int, asL_str, asD_str, keyD_str, asL_tup, asD_tup, keyD_tup, asL_lst, asD_lst, keyD_lst, asL_dct, asD_dct, keyD_dct, asL_scr, asD_scr, keyD_scr, asL_sup, asD_sup, asL_supD, isLs_sup, tyD_supL, tyD_supD, sup_same, sup_sup, ixN_1_0, ixN_2_0, ixN_2_1, ixN_3_0, ixN_3_1, ixN_3_2, ixN_4_0, ixN_4_1, ixN_4_2, ixN_4_3, ixN_5_0, ixN_5_1, ixN_5_2, ixN_5_3, ixN_5_4, ixN_6_0, ixN_6_1, ixN_6_2, ixN_6_3, ixN_6_4, ixN_6_5, ixN_7_0, ixN_7_1, ixN_7_2, ixN_7_3, ixN_7_4, ixN_7_5, ixN_7_6, ixN_8_0, ixN_8_1, ixN_8_2, ixN_8_3, ixN_8_4, ixN_8_5, ixN_8_6, ixN_8_7, atI_0, atI_1, atI_2, atI_3, atI_4, atI_5, atI_6, atI_7, atI_8, isi_NoneType_bool, isi_NoneType_int, isi_NoneType_str, isi_NoneType_tuple, isi_NoneType_list, isi_NoneType_dict, isi_bool_bool, isi_bool_int, isi_bool_str, isi_bool_tuple, isi_bool_list, isi_bool_dict, isi_int_bool, isi_int_int, isi_int_str, isi_int_tuple, isi_int_list, isi_int_dict, isi_str_bool, isi_str_int, isi_str_str, isi_str_tuple, isi_str_list, isi_str_dict, isi_tuple_bool, isi_tuple_int, isi_tuple_str, isi_tuple_tuple, isi_tuple_list, isi_tuple_dict, isi_list_bool, isi_list_int, isi_list_str, isi_list_tuple, isi_list_list, isi_list_dict, isi_dict_bool, isi_dict_int, isi_dict_str, isi_dict_tuple, isi_dict_list, isi_dict_dict]
  refine lcL_map (f := fun d => match d with | .tup [.int a, .int b] => .int (b * get vl a) | _ => .non) trivial (fun x hx => ?_) ?_
  · obtain ⟨p, hp, rfl⟩ := List.mem_map.mp hx
    have hk := h1 p.1 (List.mem_map_of_mem hp)
    refine ⟨_, rfl, fun Q' q' => ?_⟩
    simp only [denSs, denS, den, dens, denO, denT, denI, DV.of, DV.ofB, sSeq, sRet, sRetN, sNext, sIf, sSet, sSetG, sPar, sPar3, sSetIx, sDrop, sFor, sForKeys, sBreak, sCont, dAnd, dOr, dNot, dAndT, dOrT, dNotT, dUn, dOp, dIte, dVar, dC, dTup, dLst, dNil, dCons, dCall, dCut, dPart, dNoPart, dGet1, dGet2, dApp,
  dSeq1, dRange1, dRange2, dEnum, dZip, dLc, dDc, dChain, fIsi, fBlt, fLen, fAbs, fInt1, fMax, fMin, fL1, fTuple, fList, fSorted, fDict, fBin, fCmp, fNeg, fAdd, fSub, fMul, fMod, fDiv, fPow, fInt, fInt0, fLt, fLe, fGt, fGe, fIs, fIsNot, fInD, fIx, fCut, fSeq, fRange1, fRange2, fEnum, fZip, fSetIx, fGet, fApp, fLenSet, fAug, sAug, tOf, tOfB, guardN, gset, gsets, sFrz, frz_dct, frz_lst, fEq_int, fNe_int, fEq_bl, fNe_bl, fEq_nil, fNe_nil, fEq_ints,
  TyC.name, DL.isNon, start0, List.length_cons, List.length_nil, List.map_cons, List.map_nil, List.cons_append, List.nil_append, List.getElem?_cons_zero, List.getElem?_cons_succ, List.getElem?_nil, List.set_cons_zero, List.set_cons_succ, List.set_nil, List.replicate, Nat.reduceSub, Nat.reduceAdd, mkL, mkD, dwipe, Bool.false_eq_true, if_true, if_false, ite_true, ite_false, true_and, and_true, Option.isSome_some, Option.isSome_none, Option.map_some, Option.map_none, Option.getD_some, Option.getD_none,
  tyD_non, tyD_bl, tyD_int, tyD_str, tyD_tup, tyD_lst, tyD_dct, truD_non, truD_bl, truD_int, truD_tup, truD_lst, truD_dct, asL_non, asD_non, keyD_non, asL_bl, asD_bl, keyD_bl, asL_int, asD_int, keyD_int, asL_str, asD_str, keyD_str, asL_tup, asD_tup, keyD_tup, asL_lst, asD_lst, keyD_lst, asL_dct, asD_dct, keyD_dct, asL_scr, asD_scr, keyD_scr, asL_sup, asD_sup, asL_supD, isLs_sup, tyD_supL, tyD_supD, sup_same, sup_sup, ixN_1_0, ixN_2_0, ixN_2_1, ixN_3_0, ixN_3_1, ixN_3_2, ixN_4_0, ixN_4_1, ixN_4_2, ixN_4_3, ixN_5_0, ixN_5_1, ixN_5_2, ixN_5_3, ixN_5_4, ixN_6_0, ixN_6_1, ixN_6_2, ixN_6_3, ixN_6_4, ixN_6_5, ixN_7_0, ixN_7_1, ixN_7_2, ixN_7_3, ixN_7_4, ixN_7_5, ixN_7_6, ixN_8_0, ixN_8_1, ixN_8_2, ixN_8_3, ixN_8_4, ixN_8_5, ixN_8_6, ixN_8_7, atI_0, atI_1, atI_2, atI_3, atI_4, atI_5, atI_6, atI_7, atI_8, isi_NoneType_bool, isi_NoneType_int, isi_NoneType_str, isi_NoneType_tuple, isi_NoneType_list, isi_NoneType_dict, isi_bool_bool, isi_bool_int, isi_bool_str, isi_bool_tuple, isi_bool_list, isi_bool_dict, isi_int_bool, isi_int_int, isi_int_str, isi_int_tuple, isi_int_list, isi_int_dict, isi_str_bool, isi_str_int, isi_str_str, isi_str_tuple, isi_str_list, isi_str_dict, isi_tuple_bool, isi_tuple_int, isi_tuple_str, isi_tuple_tuple, isi_tuple_list, isi_tuple_dict, isi_list_bool, isi_list_int, isi_list_str, isi_list_tuple, isi_list_list, isi_list_dict, isi_dict_bool, isi_dict_int, isi_dict_str, isi_dict_tuple, isi_dict_list, isi_dict_dict, dget_in hk]
    exact ⟨cmulW (h2 p hp) (h3 _ hk), q'⟩
  · simp only [wsum_ints]
    exact .of q
/-! ### names -/
def spNamesOf : DSp := fun ds S Q => ∃ (s : Sm), ds = [s.d] ∧ Q (.lst ((keys s.fs).map D.int)) S
theorem r_names_of {T : Tb} {ds : List D} {S : Store} {Q : DQ} (h : spNamesOf ds S Q) : denSs T core_names_of (DD Q) (start0 N_names_of.length ds) S := by
  obtain ⟨s, rfl, q⟩ := h
  simp only [core_names_of, N_names_of, DD, Sm.d, denSs, denS, den, dens, denO, denT, denI, DV.of, DV.ofB, sSeq, sRet, sRetN, sNext, sIf, sSet, sSetG, sPar, sPar3, sSetIx, sDrop, sFor, sForKeys, sBreak, sCont, dAnd, dOr, dNot, dAndT, dOrT, dNotT, dUn, dOp, dIte, dVar, dC, dTup, dLst, dNil, dCons, dCall, dCut, dPart, dNoPart, dGet1, dGet2, dApp,
  dSeq1, dRange1, dRange2, dEnum, dZip, dLc, dDc, dChain, fIsi, fBlt, fLen, fAbs, fInt1, fMax, fMin, fL1, fTuple, fList, fSorted, fDict, fBin, fCmp, fNeg, fAdd, fSub, fMul, fMod, fDiv, fPow, fInt, fInt0, fLt, fLe, fGt, fGe, fIs, fIsNot, fInD, fIx, fCut, fSeq, fRange1, fRange2, fEnum, fZip, fSetIx, fGet, fApp, fLenSet, fAug, sAug, tOf, tOfB, guardN, gset, gsets, sFrz, frz_dct, frz_lst, fEq_int, fNe_int, fEq_bl, fNe_bl, fEq_nil, fNe_nil, fEq_ints,
  TyC.name, DL.isNon, start0, List.length_cons, List.length_nil, List.map_cons, List.map_nil, List.cons_append, List.nil_append, List.getElem?_cons_zero, List.getElem?_cons_succ, List.getElem?_nil, List.set_cons_zero, List.set_cons_succ, List.set_nil, List.replicate, Nat.reduceSub, Nat.reduceAdd, mkL, mkD, dwipe, Bool.false_eq_true, if_true, if_false, ite_true, ite_false, true_and, and_true, Option.isSome_some, Option.isSome_none, Option.map_some, Option.map_none, Option.getD_some, Option.getD_none,
  tyD_non, tyD_bl, tyD_int, tyD_str, tyD_tup, tyD_lst, tyD_dct, truD_non, truD_bl, truD_int, truD_tup, truD_lst, truD_dct, asL_non, asD_non, keyD_non, asL_bl, asD_bl, keyD_bl, asL_int, asD_int, keyD_int, asL_str, asD_str, keyD_str, asL_tup, asD_tup, keyD_tup, asL_lst, asD_lst, keyD_lst, asL_dct, asD_dct, keyD_dct, asL_scr, asD_scr, keyD_scr, asL_sup, asD_sup, asL_supD, isLs_sup, tyD_supL, tyD_supD, sup_same, sup_sup, ixN_1_0, ixN_2_0, ixN_2_1, ixN_3_0, ixN_3_1, ixN_3_2, ixN_4_0, ixN_4_1, ixN_4_2, ixN_4_3, ixN_5_0, ixN_5_1, ixN_5_2, ixN_5_3, ixN_5_4, ixN_6_0, ixN_6_1, ixN_6_2, ixN_6_3, ixN_6_4, ixN_6_5, ixN_7_0, ixN_7_1, ixN_7_2, ixN_7_3, ixN_7_4, ixN_7_5, ixN_7_6, ixN_8_0, ixN_8_1, ixN_8_2, ixN_8_3, ixN_8_4, ixN_8_5, ixN_8_6, ixN_8_7, atI_0, atI_1, atI_2, atI_3, atI_4, atI_5, atI_6, atI_7, atI_8, isi_NoneType_bool, isi_NoneType_int, isi_NoneType_str, isi_NoneType_tuple, isi_NoneType_list, isi_NoneType_dict, isi_bool_bool, isi_bool_int, isi_bool_str, isi_bool_tuple, isi_bool_list, isi_bool_dict, isi_int_bool, isi_int_int, isi_int_str, isi_int_tuple, isi_int_list, isi_int_dict, isi_str_bool, isi_str_int, isi_str_str, isi_str_tuple, isi_str_list, isi_str_dict, isi_tuple_bool, isi_tuple_int, isi_tuple_str, isi_tuple_tuple, isi_tuple_list, isi_tuple_dict, isi_list_bool, isi_list_int, isi_list_str, isi_list_tuple, isi_list_list, isi_list_dict, isi_dict_bool, isi_dict_int, isi_dict_str, isi_dict_tuple, isi_dict_list, isi_dict_dict]
  refine lcL_map (f := fun d => match d with | .tup [a, _] => a | _ => .non) trivial (fun x hx => ?_) ?_
  · obtain ⟨p, hp, rfl⟩ := List.mem_map.mp hx
    exact ⟨_, rfl, fun Q' q' => q'⟩
  · have e : (s.fs.map pD).map (fun d => match d with | .tup [a, _] => a | _ => D.non) = (keys s.fs).map D.int := by
      unfold keys; rw [List.map_map, List.map_map]; rfl
    rw [e]; exact .of q
def insK (acc : List Int) (k : Int) : List Int := if k ∈ acc then acc else acc ++ [k]
def nmK (acc : List Int) (ss : List Sm) : List Int := ss.foldl (fun acc s => (keys s.fs).foldl insK acc) acc
def kb (acc : List Int) : List (Key × D) := acc.map fun k => (.inl k, .bl true)
theorem dput_kb (k : Int) (acc : List Int) : dput (kb acc) (.inl k) (.bl true) = kb (insK acc k) := by
  unfold dput insK
  have e : ((kb acc).any fun kv => decide (kv.1 = (Sum.inl k : Key))) = decide (k ∈ acc) := by
    unfold kb
    rw [List.any_map, Bool.eq_iff_iff, decide_eq_true_eq, List.any_eq_true]
    constructor
    · rintro ⟨x, hx, e⟩
      have e : decide ((Sum.inl x : Key) = Sum.inl k) = true := e
      rw [inl_eq, decide_eq_true_eq] at e
      rw [← e]; exact hx
    · intro h
      exact ⟨k, h, by show decide ((Sum.inl k : Key) = Sum.inl k) = true; simp⟩
  rw [e]
  by_cases h : k ∈ acc
  · rw [if_pos (by simpa using h), if_pos h]
    unfold kb
    rw [List.map_map]
    refine List.map_congr_left fun x _ => ?_
    show (if (Sum.inl x : Key) = Sum.inl k then ((Sum.inl x : Key), D.bl true) else (Sum.inl x, D.bl true)) = _
    split <;> rfl
  · rw [if_neg (by simpa using h), if_neg h]
    unfold kb; rw [List.map_append]; rfl
theorem intKeys_kb : ∀ l : List Int, intKeys (kb l) = some l
  | [] => rfl
  | p :: l => by
    show (intKeys (kb l)).map (p :: ·) = _
    rw [intKeys_kb l]; rfl
theorem insK_nd {acc : List Int} {k : Int} (h : acc.Nodup) : (insK acc k).Nodup := by
  unfold insK
  split
  · exact h
  · rename_i hk
    refine List.nodup_append.mpr ⟨h, by simp, fun a ha b hb => ?_⟩
    rw [List.mem_singleton.mp hb]; rintro rfl; exact hk ha
theorem insK_sub {acc ns : List Int} {k : Int} (h : ∀ x ∈ acc, x ∈ ns) (hk : k ∈ ns) : ∀ x ∈ insK acc k, x ∈ ns := by
  unfold insK
  split
  · exact h
  · intro x hx
    rcases List.mem_append.mp hx with hx | hx
    · exact h x hx
    · rw [List.mem_singleton.mp hx]; exact hk
def namesIn (ss : List Sm) : List Int := isort (nmK [] ss)
def spNamesIn : DSp := fun ds S Q => ∃ (ss : List Sm) (ns : List Int) (d : D), ds = [d] ∧ (d = .lst (ss.map Sm.d) ∨ d = .tup (ss.map Sm.d)) ∧ ns.length < 60 ∧ (∀ s ∈ ss, s.sub ns) ∧ ∀ p, S p = none → Q (.ref p) (sup S p (.lst ((namesIn ss).map D.int)))
theorem r_names_in {T : Tb} (h10 : T.fn 10 = some (1, spNamesOf)) {ds : List D} {S : Store} {Q : DQ} (h : spNamesIn ds S Q) : denSs T core_names_in (DD Q) (start0 N_names_in.length ds) S := by
  obtain ⟨ss, ns, d, rfl, hd, hl, hs, q⟩ := h
  have hsz : (64 : Nat) < sizeLine := by decide
  have key : ∀ p, S p = none → forL (fun _ => True) (.slot 2) (sSeq (sFor (dSeq1 (match T.fn 10 with | some (n, sp) => dCall (guardN n sp) (dCons (dVar 2) dNil) | none => dFail)) (.slot 3) (sSeq (sSetIx (dVar 1) (dVar 3) (dC (.bl true))) sNext)) sNext)
      { nx := fun sd' S' => sFrz 1 { nx := fun sd' S' => dCall (fSorted true) (dCons (dVar 1) dNil) sd' S' (rtQ Q), rt := rtQ Q } sd' S', rt := rtQ Q } (ss.map Sm.d) [some d, some (.ref p), none, none] (sup S p (.dct [])) := by
    intro p hp
    have lenOk : ∀ acc : List Int, acc.Nodup → (∀ x ∈ acc, x ∈ ns) → acc.length < 60 := fun acc h1 h2 => by have := nodup_len h1 h2; omega
    refine forL_ind (fun xs sd S' => ∃ ts acc o2 o3, xs = ts.map Sm.d ∧ sd = [some d, some (.ref p), o2, o3] ∧ S' = sup S p (.dct (kb acc)) ∧ acc.Nodup ∧ (∀ x ∈ acc, x ∈ ns) ∧ (∀ s ∈ ts, s ∈ ss) ∧ nmK acc ts = nmK [] ss) ?_ ?_ _ _ _ ⟨ss, [], none, none, rfl, rfl, rfl, List.nodup_nil, fun x hx => (by cases hx), fun _ h => h, rfl⟩
    · rintro x xs sd S' ⟨ts, acc, o2, o3, e, rfl, rfl, h1, h2, h3, h4⟩
      cases ts with
      | nil => cases e
      | cons t ts =>
        cases e
        refine ⟨trivial, _, rfl, fun K hK => ?_⟩
        simp only [denSs, denS, den, dens, denO, denT, denI, DV.of, DV.ofB, sSeq, sRet, sRetN, sNext, sIf, sSet, sSetG, sPar, sPar3, sSetIx, sDrop, sFor, sForKeys, sBreak, sCont, dAnd, dOr, dNot, dAndT, dOrT, dNotT, dUn, dOp, dIte, dVar, dC, dTup, dLst, dNil, dCons, dCall, dCut, dPart, dNoPart, dGet1, dGet2, dApp,
  dSeq1, dRange1, dRange2, dEnum, dZip, dLc, dDc, dChain, fIsi, fBlt, fLen, fAbs, fInt1, fMax, fMin, fL1, fTuple, fList, fSorted, fDict, fBin, fCmp, fNeg, fAdd, fSub, fMul, fMod, fDiv, fPow, fInt, fInt0, fLt, fLe, fGt, fGe, fIs, fIsNot, fInD, fIx, fCut, fSeq, fRange1, fRange2, fEnum, fZip, fSetIx, fGet, fApp, fLenSet, fAug, sAug, tOf, tOfB, guardN, gset, gsets, sFrz, frz_dct, frz_lst, fEq_int, fNe_int, fEq_bl, fNe_bl, fEq_nil, fNe_nil, fEq_ints,
  TyC.name, DL.isNon, start0, List.length_cons, List.length_nil, List.map_cons, List.map_nil, List.cons_append, List.nil_append, List.getElem?_cons_zero, List.getElem?_cons_succ, List.getElem?_nil, List.set_cons_zero, List.set_cons_succ, List.set_nil, List.replicate, Nat.reduceSub, Nat.reduceAdd, mkL, mkD, dwipe, Bool.false_eq_true, if_true, if_false, ite_true, ite_false, true_and, and_true, Option.isSome_some, Option.isSome_none, Option.map_some, Option.map_none, Option.getD_some, Option.getD_none,
  tyD_non, tyD_bl, tyD_int, tyD_str, tyD_tup, tyD_lst, tyD_dct, truD_non, truD_bl, truD_int, truD_tup, truD_lst, truD_dct, asL_non, asD_non, keyD_non, asL_bl, asD_bl, keyD_bl, asL_int, asD_int, keyD_int, asL_str, asD_str, keyD_str, asL_tup, asD_tup, keyD_tup, asL_lst, asD_lst, keyD_lst, asL_dct, asD_dct, keyD_dct, asL_scr, asD_scr, keyD_scr, asL_sup, asD_sup, asL_supD, isLs_sup, tyD_supL, tyD_supD, sup_same, sup_sup, ixN_1_0, ixN_2_0, ixN_2_1, ixN_3_0, ixN_3_1, ixN_3_2, ixN_4_0, ixN_4_1, ixN_4_2, ixN_4_3, ixN_5_0, ixN_5_1, ixN_5_2, ixN_5_3, ixN_5_4, ixN_6_0, ixN_6_1, ixN_6_2, ixN_6_3, ixN_6_4, ixN_6_5, ixN_7_0, ixN_7_1, ixN_7_2, ixN_7_3, ixN_7_4, ixN_7_5, ixN_7_6, ixN_8_0, ixN_8_1, ixN_8_2, ixN_8_3, ixN_8_4, ixN_8_5, ixN_8_6, ixN_8_7, atI_0, atI_1, atI_2, atI_3, atI_4, atI_5, atI_6, atI_7, atI_8, isi_NoneType_bool, isi_NoneType_int, isi_NoneType_str, isi_NoneType_tuple, isi_NoneType_list, isi_NoneType_dict, isi_bool_bool, isi_bool_int, isi_bool_str, isi_bool_tuple, isi_bool_list, isi_bool_dict, isi_int_bool, isi_int_int, isi_int_str, isi_int_tuple, isi_int_list, isi_int_dict, isi_str_bool, isi_str_int, isi_str_str, isi_str_tuple, isi_str_list, isi_str_dict, isi_tuple_bool, isi_tuple_int, isi_tuple_str, isi_tuple_tuple, isi_tuple_list, isi_tuple_dict, isi_list_bool, isi_list_int, isi_list_str, isi_list_tuple, isi_list_list, isi_list_dict, isi_dict_bool, isi_dict_int, isi_dict_str, isi_dict_tuple, isi_dict_list, isi_dict_dict, h10]
        refine ⟨t, rfl, ?_⟩
        simp only [denSs, denS, den, dens, denO, denT, denI, DV.of, DV.ofB, sSeq, sRet, sRetN, sNext, sIf, sSet, sSetG, sPar, sPar3, sSetIx, sDrop, sFor, sForKeys, sBreak, sCont, dAnd, dOr, dNot, dAndT, dOrT, dNotT, dUn, dOp, dIte, dVar, dC, dTup, dLst, dNil, dCons, dCall, dCut, dPart, dNoPart, dGet1, dGet2, dApp,
  dSeq1, dRange1, dRange2, dEnum, dZip, dLc, dDc, dChain, fIsi, fBlt, fLen, fAbs, fInt1, fMax, fMin, fL1, fTuple, fList, fSorted, fDict, fBin, fCmp, fNeg, fAdd, fSub, fMul, fMod, fDiv, fPow, fInt, fInt0, fLt, fLe, fGt, fGe, fIs, fIsNot, fInD, fIx, fCut, fSeq, fRange1, fRange2, fEnum, fZip, fSetIx, fGet, fApp, fLenSet, fAug, sAug, tOf, tOfB, guardN, gset, gsets, sFrz, frz_dct, frz_lst, fEq_int, fNe_int, fEq_bl, fNe_bl, fEq_nil, fNe_nil, fEq_ints,
  TyC.name, DL.isNon, start0, List.length_cons, List.length_nil, List.map_cons, List.map_nil, List.cons_append, List.nil_append, List.getElem?_cons_zero, List.getElem?_cons_succ, List.getElem?_nil, List.set_cons_zero, List.set_cons_succ, List.set_nil, List.replicate, Nat.reduceSub, Nat.reduceAdd, mkL, mkD, dwipe, Bool.false_eq_true, if_true, if_false, ite_true, ite_false, true_and, and_true, Option.isSome_some, Option.isSome_none, Option.map_some, Option.map_none, Option.getD_some, Option.getD_none,
  tyD_non, tyD_bl, tyD_int, tyD_str, tyD_tup, tyD_lst, tyD_dct, truD_non, truD_bl, truD_int, truD_tup, truD_lst, truD_dct, asL_non, asD_non, keyD_non, asL_bl, asD_bl, keyD_bl, asL_int, asD_int, keyD_int, asL_str, asD_str, keyD_str, asL_tup, asD_tup, keyD_tup, asL_lst, asD_lst, keyD_lst, asL_dct, asD_dct, keyD_dct, asL_scr, asD_scr, keyD_scr, asL_sup, asD_sup, asL_supD, isLs_sup, tyD_supL, tyD_supD, sup_same, sup_sup, ixN_1_0, ixN_2_0, ixN_2_1, ixN_3_0, ixN_3_1, ixN_3_2, ixN_4_0, ixN_4_1, ixN_4_2, ixN_4_3, ixN_5_0, ixN_5_1, ixN_5_2, ixN_5_3, ixN_5_4, ixN_6_0, ixN_6_1, ixN_6_2, ixN_6_3, ixN_6_4, ixN_6_5, ixN_7_0, ixN_7_1, ixN_7_2, ixN_7_3, ixN_7_4, ixN_7_5, ixN_7_6, ixN_8_0, ixN_8_1, ixN_8_2, ixN_8_3, ixN_8_4, ixN_8_5, ixN_8_6, ixN_8_7, atI_0, atI_1, atI_2, atI_3, atI_4, atI_5, atI_6, atI_7, atI_8, isi_NoneType_bool, isi_NoneType_int, isi_NoneType_str, isi_NoneType_tuple, isi_NoneType_list, isi_NoneType_dict, isi_bool_bool, isi_bool_int, isi_bool_str, isi_bool_tuple, isi_bool_list, isi_bool_dict, isi_int_bool, isi_int_int, isi_int_str, isi_int_tuple, isi_int_list, isi_int_dict, isi_str_bool, isi_str_int, isi_str_str, isi_str_tuple, isi_str_list, isi_str_dict, isi_tuple_bool, isi_tuple_int, isi_tuple_str, isi_tuple_tuple, isi_tuple_list, isi_tuple_dict, isi_list_bool, isi_list_int, isi_list_str, isi_list_tuple, isi_list_list, isi_list_dict, isi_dict_bool, isi_dict_int, isi_dict_str, isi_dict_tuple, isi_dict_list, isi_dict_dict]
        have hts := hs t (h3 t List.mem_cons_self)
        refine forL_ind (fun xs sd S' => ∃ ks acc2 o3, xs = ks.map D.int ∧ sd = [some d, some (.ref p), some t.d, o3] ∧ S' = sup S p (.dct (kb acc2)) ∧ acc2.Nodup ∧ (∀ x ∈ acc2, x ∈ ns) ∧ (∀ k ∈ ks, k ∈ keys t.fs) ∧ ks.foldl insK acc2 = (keys t.fs).foldl insK acc) ?_ ?_ _ _ _ ⟨keys t.fs, acc, o3, rfl, rfl, rfl, h1, h2, fun _ h => h, rfl⟩
        · rintro x xs sd S' ⟨ks, acc2, o3, e, rfl, rfl, g1, g2, g3, g4⟩
          cases ks with
          | nil => cases e
          | cons k ks =>
            cases e
            refine ⟨trivial, _, rfl, fun K2 hK2 => ?_⟩
            simp only [denSs, denS, den, dens, denO, denT, denI, DV.of, DV.ofB, sSeq, sRet, sRetN, sNext, sIf, sSet, sSetG, sPar, sPar3, sSetIx, sDrop, sFor, sForKeys, sBreak, sCont, dAnd, dOr, dNot, dAndT, dOrT, dNotT, dUn, dOp, dIte, dVar, dC, dTup, dLst, dNil, dCons, dCall, dCut, dPart, dNoPart, dGet1, dGet2, dApp,
  dSeq1, dRange1, dRange2, dEnum, dZip, dLc, dDc, dChain, fIsi, fBlt, fLen, fAbs, fInt1, fMax, fMin, fL1, fTuple, fList, fSorted, fDict, fBin, fCmp, fNeg, fAdd, fSub, fMul, fMod, fDiv, fPow, fInt, fInt0, fLt, fLe, fGt, fGe, fIs, fIsNot, fInD, fIx, fCut, fSeq, fRange1, fRange2, fEnum, fZip, fSetIx, fGet, fApp, fLenSet, fAug, sAug, tOf, tOfB, guardN, gset, gsets, sFrz, frz_dct, frz_lst, fEq_int, fNe_int, fEq_bl, fNe_bl, fEq_nil, fNe_nil, fEq_ints,
  TyC.name, DL.isNon, start0, List.length_cons, List.length_nil, List.map_cons, List.map_nil, List.cons_append, List.nil_append, List.getElem?_cons_zero, List.getElem?_cons_succ, List.getElem?_nil, List.set_cons_zero, List.set_cons_succ, List.set_nil, List.replicate, Nat.reduceSub, Nat.reduceAdd, mkL, mkD, dwipe, Bool.false_eq_true, if_true, if_false, ite_true, ite_false, true_and, and_true, Option.isSome_some, Option.isSome_none, Option.map_some, Option.map_none, Option.getD_some, Option.getD_none,
  tyD_non, tyD_bl, tyD_int, tyD_str, tyD_tup, tyD_lst, tyD_dct, truD_non, truD_bl, truD_int, truD_tup, truD_lst, truD_dct, asL_non, asD_non, keyD_non, asL_bl, asD_bl, keyD_bl, asL_int, asD_int, keyD_int, asL_str, asD_str, keyD_str, asL_tup, asD_tup, keyD_tup, asL_lst, asD_lst, keyD_lst, asL_dct, asD_dct, keyD_dct, asL_scr, asD_scr, keyD_scr, asL_sup, asD_sup, asL_supD, isLs_sup, tyD_supL, tyD_supD, sup_same, sup_sup, ixN_1_0, ixN_2_0, ixN_2_1, ixN_3_0, ixN_3_1, ixN_3_2, ixN_4_0, ixN_4_1, ixN_4_2, ixN_4_3, ixN_5_0, ixN_5_1, ixN_5_2, ixN_5_3, ixN_5_4, ixN_6_0, ixN_6_1, ixN_6_2, ixN_6_3, ixN_6_4, ixN_6_5, ixN_7_0, ixN_7_1, ixN_7_2, ixN_7_3, ixN_7_4, ixN_7_5, ixN_7_6, ixN_8_0, ixN_8_1, ixN_8_2, ixN_8_3, ixN_8_4, ixN_8_5, ixN_8_6, ixN_8_7, atI_0, atI_1, atI_2, atI_3, atI_4, atI_5, atI_6, atI_7, atI_8, isi_NoneType_bool, isi_NoneType_int, isi_NoneType_str, isi_NoneType_tuple, isi_NoneType_list, isi_NoneType_dict, isi_bool_bool, isi_bool_int, isi_bool_str, isi_bool_tuple, isi_bool_list, isi_bool_dict, isi_int_bool, isi_int_int, isi_int_str, isi_int_tuple, isi_int_list, isi_int_dict, isi_str_bool, isi_str_int, isi_str_str, isi_str_tuple, isi_str_list, isi_str_dict, isi_tuple_bool, isi_tuple_int, isi_tuple_str, isi_tuple_tuple, isi_tuple_list, isi_tuple_dict, isi_list_bool, isi_list_int, isi_list_str, isi_list_tuple, isi_list_list, isi_list_dict, isi_dict_bool, isi_dict_int, isi_dict_str, isi_dict_tuple, isi_dict_list, isi_dict_dict, dput_kb]
            have := lenOk acc2 g1 g2
            have e2 : (kb acc2).length = acc2.length := List.length_map _
            exact ⟨by omega, hK2 _ _ ⟨ks, insK acc2 k, _, rfl, rfl, rfl, insK_nd g1, insK_sub g2 (hts k (g3 k List.mem_cons_self)), fun x hx => g3 x (List.mem_cons_of_mem _ hx), g4⟩⟩
        · rintro sd S' ⟨ks, acc2, o3, e, rfl, rfl, g1, g2, g3, g4⟩
          have e : ks = [] := by cases ks with | nil => rfl | cons _ _ => cases e
          subst e
          have g4 : acc2 = (keys t.fs).foldl insK acc := g4
          refine ⟨trivial, hK _ _ ⟨ts, acc2, _, _, rfl, rfl, rfl, g1, g2, fun s hs => h3 s (List.mem_cons_of_mem _ hs), ?_⟩⟩
          rw [g4]; exact h4
    · rintro sd S' ⟨ts, acc, o2, o3, e, rfl, rfl, h1, h2, h3, h4⟩
      have e : ts = [] := by cases ts with | nil => rfl | cons _ _ => cases e
      subst e
      have h4 : acc = nmK [] ss := h4
      refine ⟨trivial, ?_⟩
      simp only [denSs, denS, den, dens, denO, denT, denI, DV.of, DV.ofB, sSeq, sRet, sRetN, sNext, sIf, sSet, sSetG, sPar, sPar3, sSetIx, sDrop, sFor, sForKeys, sBreak, sCont, dAnd, dOr, dNot, dAndT, dOrT, dNotT, dUn, dOp, dIte, dVar, dC, dTup, dLst, dNil, dCons, dCall, dCut, dPart, dNoPart, dGet1, dGet2, dApp,
  dSeq1, dRange1, dRange2, dEnum, dZip, dLc, dDc, dChain, fIsi, fBlt, fLen, fAbs, fInt1, fMax, fMin, fL1, fTuple, fList, fSorted, fDict, fBin, fCmp, fNeg, fAdd, fSub, fMul, fMod, fDiv, fPow, fInt, fInt0, fLt, fLe, fGt, fGe, fIs, fIsNot, fInD, fIx, fCut, fSeq, fRange1, fRange2, fEnum, fZip, fSetIx, fGet, fApp, fLenSet, fAug, sAug, tOf, tOfB, guardN, gset, gsets, sFrz, frz_dct, frz_lst, fEq_int, fNe_int, fEq_bl, fNe_bl, fEq_nil, fNe_nil, fEq_ints,
  TyC.name, DL.isNon, start0, List.length_cons, List.length_nil, List.map_cons, List.map_nil, List.cons_append, List.nil_append, List.getElem?_cons_zero, List.getElem?_cons_succ, List.getElem?_nil, List.set_cons_zero, List.set_cons_succ, List.set_nil, List.replicate, Nat.reduceSub, Nat.reduceAdd, mkL, mkD, dwipe, Bool.false_eq_true, if_true, if_false, ite_true, ite_false, true_and, and_true, Option.isSome_some, Option.isSome_none, Option.map_some, Option.map_none, Option.getD_some, Option.getD_none,
  tyD_non, tyD_bl, tyD_int, tyD_str, tyD_tup, tyD_lst, tyD_dct, truD_non, truD_bl, truD_int, truD_tup, truD_lst, truD_dct, asL_non, asD_non, keyD_non, asL_bl, asD_bl, keyD_bl, asL_int, asD_int, keyD_int, asL_str, asD_str, keyD_str, asL_tup, asD_tup, keyD_tup, asL_lst, asD_lst, keyD_lst, asL_dct, asD_dct, keyD_dct, asL_scr, asD_scr, keyD_scr, asL_sup, asD_sup, asL_supD, isLs_sup, tyD_supL, tyD_supD, sup_same, sup_sup, ixN_1_0, ixN_2_0, ixN_2_1, ixN_3_0, ixN_3_1, ixN_3_2, ixN_4_0, ixN_4_1, ixN_4_2, ixN_4_3, ixN_5_0, ixN_5_1, ixN_5_2, ixN_5_3, ixN_5_4, ixN_6_0, ixN_6_1, ixN_6_2, ixN_6_3, ixN_6_4, ixN_6_5, ixN_7_0, ixN_7_1, ixN_7_2, ixN_7_3, ixN_7_4, ixN_7_5, ixN_7_6, ixN_8_0, ixN_8_1, ixN_8_2, ixN_8_3, ixN_8_4, ixN_8_5, ixN_8_6, ixN_8_7, atI_0, atI_1, atI_2, atI_3, atI_4, atI_5, atI_6, atI_7, atI_8, isi_NoneType_bool, isi_NoneType_int, isi_NoneType_str, isi_NoneType_tuple, isi_NoneType_list, isi_NoneType_dict, isi_bool_bool, isi_bool_int, isi_bool_str, isi_bool_tuple, isi_bool_list, isi_bool_dict, isi_int_bool, isi_int_int, isi_int_str, isi_int_tuple, isi_int_list, isi_int_dict, isi_str_bool, isi_str_int, isi_str_str, isi_str_tuple, isi_str_list, isi_str_dict, isi_tuple_bool, isi_tuple_int, isi_tuple_str, isi_tuple_tuple, isi_tuple_list, isi_tuple_dict, isi_list_bool, isi_list_int, isi_list_str, isi_list_tuple, isi_list_list, isi_list_dict, isi_dict_bool, isi_dict_int, isi_dict_str, isi_dict_tuple, isi_dict_list, isi_dict_dict, intKeys_kb]
      refine ⟨by have := lenOk acc h1 h2; omega, ?_⟩
      rw [sdel_sup hp]
      intro p2 hp2
      have := q p2 hp2
      unfold namesIn at this
      rw [← h4] at this
      exact .of this
  rcases hd with rfl | rfl
  · simp only [core_names_in, N_names_in, DD, denSs, denS, den, dens, denO, denT, denI, DV.of, DV.ofB, sSeq, sRet, sRetN, sNext, sIf, sSet, sSetG, sPar, sPar3, sSetIx, sDrop, sFor, sForKeys, sBreak, sCont, dAnd, dOr, dNot, dAndT, dOrT, dNotT, dUn, dOp, dIte, dVar, dC, dTup, dLst, dNil, dCons, dCall, dCut, dPart, dNoPart, dGet1, dGet2, dApp,
  dSeq1, dRange1, dRange2, dEnum, dZip, dLc, dDc, dChain, fIsi, fBlt, fLen, fAbs, fInt1, fMax, fMin, fL1, fTuple, fList, fSorted, fDict, fBin, fCmp, fNeg, fAdd, fSub, fMul, fMod, fDiv, fPow, fInt, fInt0, fLt, fLe, fGt, fGe, fIs, fIsNot, fInD, fIx, fCut, fSeq, fRange1, fRange2, fEnum, fZip, fSetIx, fGet, fApp, fLenSet, fAug, sAug, tOf, tOfB, guardN, gset, gsets, sFrz, frz_dct, frz_lst, fEq_int, fNe_int, fEq_bl, fNe_bl, fEq_nil, fNe_nil, fEq_ints,
  TyC.name, DL.isNon, start0, List.length_cons, List.length_nil, List.map_cons, List.map_nil, List.cons_append, List.nil_append, List.getElem?_cons_zero, List.getElem?_cons_succ, List.getElem?_nil, List.set_cons_zero, List.set_cons_succ, List.set_nil, List.replicate, Nat.reduceSub, Nat.reduceAdd, mkL, mkD, dwipe, Bool.false_eq_true, if_true, if_false, ite_true, ite_false, true_and, and_true, Option.isSome_some, Option.isSome_none, Option.map_some, Option.map_none, Option.getD_some, Option.getD_none,
  tyD_non, tyD_bl, tyD_int, tyD_str, tyD_tup, tyD_lst, tyD_dct, truD_non, truD_bl, truD_int, truD_tup, truD_lst, truD_dct, asL_non, asD_non, keyD_non, asL_bl, asD_bl, keyD_bl, asL_int, asD_int, keyD_int, asL_str, asD_str, keyD_str, asL_tup, asD_tup, keyD_tup, asL_lst, asD_lst, keyD_lst, asL_dct, asD_dct, keyD_dct, asL_scr, asD_scr, keyD_scr, asL_sup, asD_sup, asL_supD, isLs_sup, tyD_supL, tyD_supD, sup_same, sup_sup, ixN_1_0, ixN_2_0, ixN_2_1, ixN_3_0, ixN_3_1, ixN_3_2, ixN_4_0, ixN_4_1, ixN_4_2, ixN_4_3, ixN_5_0, ixN_5_1, ixN_5_2, ixN_5_3, ixN_5_4, ixN_6_0, ixN_6_1, ixN_6_2, ixN_6_3, ixN_6_4, ixN_6_5, ixN_7_0, ixN_7_1, ixN_7_2, ixN_7_3, ixN_7_4, ixN_7_5, ixN_7_6, ixN_8_0, ixN_8_1, ixN_8_2, ixN_8_3, ixN_8_4, ixN_8_5, ixN_8_6, ixN_8_7, atI_0, atI_1, atI_2, atI_3, atI_4, atI_5, atI_6, atI_7, atI_8, isi_NoneType_bool, isi_NoneType_int, isi_NoneType_str, isi_NoneType_tuple, isi_NoneType_list, isi_NoneType_dict, isi_bool_bool, isi_bool_int, isi_bool_str, isi_bool_tuple, isi_bool_list, isi_bool_dict, isi_int_bool, isi_int_int, isi_int_str, isi_int_tuple, isi_int_list, isi_int_dict, isi_str_bool, isi_str_int, isi_str_str, isi_str_tuple, isi_str_list, isi_str_dict, isi_tuple_bool, isi_tuple_int, isi_tuple_str, isi_tuple_tuple, isi_tuple_list, isi_tuple_dict, isi_list_bool, isi_list_int, isi_list_str, isi_list_tuple, isi_list_list, isi_list_dict, isi_dict_bool, isi_dict_int, isi_dict_str, isi_dict_tuple, isi_dict_list, isi_dict_dict]
    exact key
  · simp only [core_names_in, N_names_in, DD, denSs, denS, den, dens, denO, denT, denI, DV.of, DV.ofB, sSeq, sRet, sRetN, sNext, sIf, sSet, sSetG, sPar, sPar3, sSetIx, sDrop, sFor, sForKeys, sBreak, sCont, dAnd, dOr, dNot, dAndT, dOrT, dNotT, dUn, dOp, dIte, dVar, dC, dTup, dLst, dNil, dCons, dCall, dCut, dPart, dNoPart, dGet1, dGet2, dApp,
  dSeq1, dRange1, dRange2, dEnum, dZip, dLc, dDc, dChain, fIsi, fBlt, fLen, fAbs, fInt1, fMax, fMin, fL1, fTuple, fList, fSorted, fDict, fBin, fCmp, fNeg, fAdd, fSub, fMul, fMod, fDiv, fPow, fInt, fInt0, fLt, fLe, fGt, fGe, fIs, fIsNot, fInD, fIx, fCut, fSeq, fRange1, fRange2, fEnum, fZip, fSetIx, fGet, fApp, fLenSet, fAug, sAug, tOf, tOfB, guardN, gset, gsets, sFrz, frz_dct, frz_lst, fEq_int, fNe_int, fEq_bl, fNe_bl, fEq_nil, fNe_nil, fEq_ints,
  TyC.name, DL.isNon, start0, List.length_cons, List.length_nil, List.map_cons, List.map_nil, List.cons_append, List.nil_append, List.getElem?_cons_zero, List.getElem?_cons_succ, List.getElem?_nil, List.set_cons_zero, List.set_cons_succ, List.set_nil, List.replicate, Nat.reduceSub, Nat.reduceAdd, mkL, mkD, dwipe, Bool.false_eq_true, if_true, if_false, ite_true, ite_false, true_and, and_true, Option.isSome_some, Option.isSome_none, Option.map_some, Option.map_none, Option.getD_some, Option.getD_none,
  tyD_non, tyD_bl, tyD_int, tyD_str, tyD_tup, tyD_lst, tyD_dct, truD_non, truD_bl, truD_int, truD_tup, truD_lst, truD_dct, asL_non, asD_non, keyD_non, asL_bl, asD_bl, keyD_bl, asL_int, asD_int, keyD_int, asL_str, asD_str, keyD_str, asL_tup, asD_tup, keyD_tup, asL_lst, asD_lst, keyD_lst, asL_dct, asD_dct, keyD_dct, asL_scr, asD_scr, keyD_scr, asL_sup, asD_sup, asL_supD, isLs_sup, tyD_supL, tyD_supD, sup_same, sup_sup, ixN_1_0, ixN_2_0, ixN_2_1, ixN_3_0, ixN_3_1, ixN_3_2, ixN_4_0, ixN_4_1, ixN_4_2, ixN_4_3, ixN_5_0, ixN_5_1, ixN_5_2, ixN_5_3, ixN_5_4, ixN_6_0, ixN_6_1, ixN_6_2, ixN_6_3, ixN_6_4, ixN_6_5, ixN_7_0, ixN_7_1, ixN_7_2, ixN_7_3, ixN_7_4, ixN_7_5, ixN_7_6, ixN_8_0, ixN_8_1, ixN_8_2, ixN_8_3, ixN_8_4, ixN_8_5, ixN_8_6, ixN_8_7, atI_0, atI_1, atI_2, atI_3, atI_4, atI_5, atI_6, atI_7, atI_8, isi_NoneType_bool, isi_NoneType_int, isi_NoneType_str, isi_NoneType_tuple, isi_NoneType_list, isi_NoneType_dict, isi_bool_bool, isi_bool_int, isi_bool_str, isi_bool_tuple, isi_bool_list, isi_bool_dict, isi_int_bool, isi_int_int, isi_int_str, isi_int_tuple, isi_int_list, isi_int_dict, isi_str_bool, isi_str_int, isi_str_str, isi_str_tuple, isi_str_list, isi_str_dict, isi_tuple_bool, isi_tuple_int, isi_tuple_str, isi_tuple_tuple, isi_tuple_list, isi_tuple_dict, isi_list_bool, isi_list_int, isi_list_str, isi_list_tuple, isi_list_list, isi_list_dict, isi_dict_bool, isi_dict_int, isi_dict_str, isi_dict_tuple, isi_dict_list, isi_dict_dict]
    exact key
end K00
set_option Elab.async false
set_option linter.all false
set_option maxRecDepth 100000
set_option maxHeartbeats 1000000
namespace K00
open PySem L2 DL
def spLawNames : DSp := fun ds S Q => ∃ (ss : List Sm) (ns : List Int), ds = [.lst (ss.map Sm.d)] ∧ ns.length < 60 ∧ (∀ s ∈ ss, s.sub ns) ∧ Q (.lst ((namesIn ss).map D.int)) S
theorem foldl_keys (f : List Int → Int → List Int) : ∀ (l : List P2) (acc : List Int), (keys l).foldl f acc = l.foldl (fun a p => f a p.1) acc
  | [], _ => rfl
  | p :: l, acc => foldl_keys f l (f acc p.1)
theorem r_law_names_of {T : Tb} {ds : List D} {S : Store} {Q : DQ} (h : spLawNames ds S Q) : denSs T core__law_names_of (DD Q) (start0 N__law_names_of.length ds) S := by
  obtain ⟨ss, ns, rfl, hl, hs, q⟩ := h
  have hsz : (64 : Nat) < sizeLine := by decide
  simp only [core__law_names_of, N__law_names_of, DD, denSs, denS, den, dens, denO, denT, denI, DV.of, DV.ofB, sSeq, sRet, sRetN, sNext, sIf, sSet, sSetG, sPar, sPar3, sSetIx, sDrop, sFor, sForKeys, sBreak, sCont, dAnd, dOr, dNot, dAndT, dOrT, dNotT, dUn, dOp, dIte, dVar, dC, dTup, dLst, dNil, dCons, dCall, dCut, dPart, dNoPart, dGet1, dGet2, dApp,
  dSeq1, dRange1, dRange2, dEnum, dZip, dLc, dDc, dChain, fIsi, fBlt, fLen, fAbs, fInt1, fMax, fMin, fL1, fTuple, fList, fSorted, fDict, fBin, fCmp, fNeg, fAdd, fSub, fMul, fMod, fDiv, fPow, fInt, fInt0, fLt, fLe, fGt, fGe, fIs, fIsNot, fInD, fIx, fCut, fSeq, fRange1, fRange2, fEnum, fZip, fSetIx, fGet, fApp, fLenSet, fAug, sAug, tOf, tOfB, guardN, gset, gsets, sFrz, frz_dct, frz_lst, fEq_int, fNe_int, fEq_bl, fNe_bl, fEq_nil, fNe_nil, fEq_ints,
  TyC.name, DL.isNon, start0, List.length_cons, List.length_nil, List.map_cons, List.map_nil, List.cons_append, List.nil_append, List.getElem?_cons_zero, List.getElem?_cons_succ, List.getElem?_nil, List.set_cons_zero, List.set_cons_succ, List.set_nil, List.replicate, Nat.reduceSub, Nat.reduceAdd, mkL, mkD, dwipe, Bool.false_eq_true, if_true, if_false, ite_true, ite_false, true_and, and_true, Option.isSome_some, Option.isSome_none, Option.map_some, Option.map_none, Option.getD_some, Option.getD_none,
  tyD_non, tyD_bl, tyD_int, tyD_str, tyD_tup, tyD_lst, tyD_dct, truD_non, truD_bl, truD_int, truD_tup, truD_lst, truD_dct, asL_non, asD_non, keyD_non, asL_bl, asD_bl, keyD_bl, asL_int, asD_int, keyD_int, asL_str, asD_str, keyD_str, asL_tup, asD_tup, keyD_tup, asL_lst, asD_lst, keyD_lst, asL_dct, asD_dct, keyD_dct, asL_scr, asD_scr, keyD_scr, asL_sup, asD_sup, asL_supD, isLs_sup, tyD_supL, tyD_supD, sup_same, sup_sup, ixN_1_0, ixN_2_0, ixN_2_1, ixN_3_0, ixN_3_1, ixN_3_2, ixN_4_0, ixN_4_1, ixN_4_2, ixN_4_3, ixN_5_0, ixN_5_1, ixN_5_2, ixN_5_3, ixN_5_4, ixN_6_0, ixN_6_1, ixN_6_2, ixN_6_3, ixN_6_4, ixN_6_5, ixN_7_0, ixN_7_1, ixN_7_2, ixN_7_3, ixN_7_4, ixN_7_5, ixN_7_6, ixN_8_0, ixN_8_1, ixN_8_2, ixN_8_3, ixN_8_4, ixN_8_5, ixN_8_6, ixN_8_7, atI_0, atI_1, atI_2, atI_3, atI_4, atI_5, atI_6, atI_7, atI_8, isi_NoneType_bool, isi_NoneType_int, isi_NoneType_str, isi_NoneType_tuple, isi_NoneType_list, isi_NoneType_dict, isi_bool_bool, isi_bool_int, isi_bool_str, isi_bool_tuple, isi_bool_list, isi_bool_dict, isi_int_bool, isi_int_int, isi_int_str, isi_int_tuple, isi_int_list, isi_int_dict, isi_str_bool, isi_str_int, isi_str_str, isi_str_tuple, isi_str_list, isi_str_dict, isi_tuple_bool, isi_tuple_int, isi_tuple_str, isi_tuple_tuple, isi_tuple_list, isi_tuple_dict, isi_list_bool, isi_list_int, isi_list_str, isi_list_tuple, isi_list_list, isi_list_dict, isi_dict_bool, isi_dict_int, isi_dict_str, isi_dict_tuple, isi_dict_list, isi_dict_dict]
  intro p hp
  have lenOk : ∀ acc : List Int, acc.Nodup → (∀ x ∈ acc, x ∈ ns) → acc.length < 60 := fun acc h1 h2 => by have := nodup_len h1 h2; omega
  refine forL_ind (fun xs sd S' => ∃ ts acc o2 o3 o4, xs = ts.map Sm.d ∧ sd = [some (.lst (ss.map Sm.d)), some (.ref p), o2, o3, o4] ∧ S' = sup S p (.dct (kb acc)) ∧ acc.Nodup ∧ (∀ x ∈ acc, x ∈ ns) ∧ (∀ s ∈ ts, s ∈ ss) ∧ nmK acc ts = nmK [] ss) ?_ ?_ _ _ _ ⟨ss, [], none, none, none, rfl, rfl, rfl, List.nodup_nil, fun x hx => (by cases hx), fun _ h => h, rfl⟩
  · rintro x xs sd S' ⟨ts, acc, o2, o3, o4, e, rfl, rfl, h1, h2, h3, h4⟩
    cases ts with
    | nil => cases e
    | cons t ts =>
      cases e
      refine ⟨trivial, _, rfl, fun K hK => ?_⟩
      simp only [denSs, denS, den, dens, denO, denT, denI, DV.of, DV.ofB, sSeq, sRet, sRetN, sNext, sIf, sSet, sSetG, sPar, sPar3, sSetIx, sDrop, sFor, sForKeys, sBreak, sCont, dAnd, dOr, dNot, dAndT, dOrT, dNotT, dUn, dOp, dIte, dVar, dC, dTup, dLst, dNil, dCons, dCall, dCut, dPart, dNoPart, dGet1, dGet2, dApp,
  dSeq1, dRange1, dRange2, dEnum, dZip, dLc, dDc, dChain, fIsi, fBlt, fLen, fAbs, fInt1, fMax, fMin, fL1, fTuple, fList, fSorted, fDict, fBin, fCmp, fNeg, fAdd, fSub, fMul, fMod, fDiv, fPow, fInt, fInt0, fLt, fLe, fGt, fGe, fIs, fIsNot, fInD, fIx, fCut, fSeq, fRange1, fRange2, fEnum, fZip, fSetIx, fGet, fApp, fLenSet, fAug, sAug, tOf, tOfB, guardN, gset, gsets, sFrz, frz_dct, frz_lst, fEq_int, fNe_int, fEq_bl, fNe_bl, fEq_nil, fNe_nil, fEq_ints,
  TyC.name, DL.isNon, start0, List.length_cons, List.length_nil, List.map_cons, List.map_nil, List.cons_append, List.nil_append, List.getElem?_cons_zero, List.getElem?_cons_succ, List.getElem?_nil, List.set_cons_zero, List.set_cons_succ, List.set_nil, List.replicate, Nat.reduceSub, Nat.reduceAdd, mkL, mkD, dwipe, Bool.false_eq_true, if_true, if_false, ite_true, ite_false, true_and, and_true, Option.isSome_some, Option.isSome_none, Option.map_some, Option.map_none, Option.getD_some, Option.getD_none,
  tyD_non, tyD_bl, tyD_int, tyD_str, tyD_tup, tyD_lst, tyD_dct, truD_non, truD_bl, truD_int, truD_tup, truD_lst, truD_dct, asL_non, asD_non, keyD_non, asL_bl, asD_bl, keyD_bl, asL_int, asD_int, keyD_int, asL_str, asD_str, keyD_str, asL_tup, asD_tup, keyD_tup, asL_lst, asD_lst, keyD_lst, asL_dct, asD_dct, keyD_dct, asL_scr, asD_scr, keyD_scr, asL_sup, asD_sup, asL_supD, isLs_sup, tyD_supL, tyD_supD, sup_same, sup_sup, ixN_1_0, ixN_2_0, ixN_2_1, ixN_3_0, ixN_3_1, ixN_3_2, ixN_4_0, ixN_4_1, ixN_4_2, ixN_4_3, ixN_5_0, ixN_5_1, ixN_5_2, ixN_5_3, ixN_5_4, ixN_6_0, ixN_6_1, ixN_6_2, ixN_6_3, ixN_6_4, ixN_6_5, ixN_7_0, ixN_7_1, ixN_7_2, ixN_7_3, ixN_7_4, ixN_7_5, ixN_7_6, ixN_8_0, ixN_8_1, ixN_8_2, ixN_8_3, ixN_8_4, ixN_8_5, ixN_8_6, ixN_8_7, atI_0, atI_1, atI_2, atI_3, atI_4, atI_5, atI_6, atI_7, atI_8, isi_NoneType_bool, isi_NoneType_int, isi_NoneType_str, isi_NoneType_tuple, isi_NoneType_list, isi_NoneType_dict, isi_bool_bool, isi_bool_int, isi_bool_str, isi_bool_tuple, isi_bool_list, isi_bool_dict, isi_int_bool, isi_int_int, isi_int_str, isi_int_tuple, isi_int_list, isi_int_dict, isi_str_bool, isi_str_int, isi_str_str, isi_str_tuple, isi_str_list, isi_str_dict, isi_tuple_bool, isi_tuple_int, isi_tuple_str, isi_tuple_tuple, isi_tuple_list, isi_tuple_dict, isi_list_bool, isi_list_int, isi_list_str, isi_list_tuple, isi_list_list, isi_list_dict, isi_dict_bool, isi_dict_int, isi_dict_str, isi_dict_tuple, isi_dict_list, isi_dict_dict, Sm.d]
      have hts := hs t (h3 t List.mem_cons_self)
      refine forL_ind (fun xs sd S' => ∃ ks acc2 o3 o4, xs = ks.map pD ∧ sd = [some (.lst (ss.map Sm.d)), some (.ref p), some t.d, o3, o4] ∧ S' = sup S p (.dct (kb acc2)) ∧ acc2.Nodup ∧ (∀ x ∈ acc2, x ∈ ns) ∧ (∀ k ∈ ks, k.1 ∈ keys t.fs) ∧ ks.foldl (fun a p => insK a p.1) acc2 = t.fs.foldl (fun a p => insK a p.1) acc) ?_ ?_ _ _ _ ⟨t.fs, acc, o3, o4, rfl, rfl, rfl, h1, h2, fun _ h => List.mem_map_of_mem h, rfl⟩
      · rintro x xs sd S' ⟨ks, acc2, o3, o4, e, rfl, rfl, g1, g2, g3, g4⟩
        cases ks with
        | nil => cases e
        | cons k ks =>
          cases e
          refine ⟨trivial, _, rfl, fun K2 hK2 => ?_⟩
          simp only [denSs, denS, den, dens, denO, denT, denI, DV.of, DV.ofB, sSeq, sRet, sRetN, sNext, sIf, sSet, sSetG, sPar, sPar3, sSetIx, sDrop, sFor, sForKeys, sBreak, sCont, dAnd, dOr, dNot, dAndT, dOrT, dNotT, dUn, dOp, dIte, dVar, dC, dTup, dLst, dNil, dCons, dCall, dCut, dPart, dNoPart, dGet1, dGet2, dApp,
  dSeq1, dRange1, dRange2, dEnum, dZip, dLc, dDc, dChain, fIsi, fBlt, fLen, fAbs, fInt1, fMax, fMin, fL1, fTuple, fList, fSorted, fDict, fBin, fCmp, fNeg, fAdd, fSub, fMul, fMod, fDiv, fPow, fInt, fInt0, fLt, fLe, fGt, fGe, fIs, fIsNot, fInD, fIx, fCut, fSeq, fRange1, fRange2, fEnum, fZip, fSetIx, fGet, fApp, fLenSet, fAug, sAug, tOf, tOfB, guardN, gset, gsets, sFrz, frz_dct, frz_lst, fEq_int, fNe_int, fEq_bl, fNe_bl, fEq_nil, fNe_nil, fEq_ints,
  TyC.name, DL.isNon, start0, List.length_cons, List.length_nil, List.map_cons, List.map_nil, List.cons_append, List.nil_append, List.getElem?_cons_zero, List.getElem?_cons_succ, List.getElem?_nil, List.set_cons_zero, List.set_cons_succ, List.set_nil, List.replicate, Nat.reduceSub, Nat.reduceAdd, mkL, mkD, dwipe, Bool.false_eq_true, if_true, if_false, ite_true, ite_false, true_and, and_true, Option.isSome_some, Option.isSome_none, Option.map_some, Option.map_none, Option.getD_some, Option.getD_none,
  tyD_non, tyD_bl, tyD_int, tyD_str, tyD_tup, tyD_lst, tyD_dct, truD_non, truD_bl, truD_int, truD_tup, truD_lst, truD_dct, asL_non, asD_non, keyD_non, asL_bl, asD_bl, keyD_bl, asL_int, asD_int, keyD_int, asL_str, asD_str, keyD_str, asL_tup, asD_tup, keyD_tup, asL_lst, asD_lst, keyD_lst, asL_dct, asD_dct, keyD_dct, asL_scr, asD_scr, keyD_scr, asL_sup, asD_sup, asL_supD, isLs_sup, tyD_supL, tyD_supD, sup_same, sup_sup, ixN_1_0, ixN_2_0, ixN_2_1, ixN_3_0, ixN_3_1, ixN_3_2, ixN_4_0, ixN_4_1, ixN_4_2, ixN_4_3, ixN_5_0, ixN_5_1, ixN_5_2, ixN_5_3, ixN_5_4, ixN_6_0, ixN_6_1, ixN_6_2, ixN_6_3, ixN_6_4, ixN_6_5, ixN_7_0, ixN_7_1, ixN_7_2, ixN_7_3, ixN_7_4, ixN_7_5, ixN_7_6, ixN_8_0, ixN_8_1, ixN_8_2, ixN_8_3, ixN_8_4, ixN_8_5, ixN_8_6, ixN_8_7, atI_0, atI_1, atI_2, atI_3, atI_4, atI_5, atI_6, atI_7, atI_8, isi_NoneType_bool, isi_NoneType_int, isi_NoneType_str, isi_NoneType_tuple, isi_NoneType_list, isi_NoneType_dict, isi_bool_bool, isi_bool_int, isi_bool_str, isi_bool_tuple, isi_bool_list, isi_bool_dict, isi_int_bool, isi_int_int, isi_int_str, isi_int_tuple, isi_int_list, isi_int_dict, isi_str_bool, isi_str_int, isi_str_str, isi_str_tuple, isi_str_list, isi_str_dict, isi_tuple_bool, isi_tuple_int, isi_tuple_str, isi_tuple_tuple, isi_tuple_list, isi_tuple_dict, isi_list_bool, isi_list_int, isi_list_str, isi_list_tuple, isi_list_list, isi_list_dict, isi_dict_bool, isi_dict_int, isi_dict_str, isi_dict_tuple, isi_dict_list, isi_dict_dict, dput_kb]
          have := lenOk acc2 g1 g2
          have e2 : (kb acc2).length = acc2.length := List.length_map _
          exact ⟨by omega, hK2 _ _ ⟨ks, insK acc2 k.1, _, _, rfl, rfl, rfl, insK_nd g1, insK_sub g2 (hts k.1 (g3 k List.mem_cons_self)), fun x hx => g3 x (List.mem_cons_of_mem _ hx), g4⟩⟩
      · rintro sd S' ⟨ks, acc2, o3, o4, e, rfl, rfl, g1, g2, g3, g4⟩
        have e : ks = [] := by cases ks with | nil => rfl | cons _ _ => cases e
        subst e
        have g4 : acc2 = t.fs.foldl (fun a p => insK a p.1) acc := g4
        refine ⟨trivial, hK _ _ ⟨ts, acc2, _, _, _, rfl, rfl, rfl, g1, g2, fun s hs => h3 s (List.mem_cons_of_mem _ hs), ?_⟩⟩
        rw [g4, ← foldl_keys]; exact h4
  · rintro sd S' ⟨ts, acc, o2, o3, o4, e, rfl, rfl, h1, h2, h3, h4⟩
    have e : ts = [] := by cases ts with | nil => rfl | cons _ _ => cases e
    subst e
    have h4 : acc = nmK [] ss := h4
    refine ⟨trivial, ?_⟩
    simp only [denSs, denS, den, dens, denO, denT, denI, DV.of, DV.ofB, sSeq, sRet, sRetN, sNext, sIf, sSet, sSetG, sPar, sPar3, sSetIx, sDrop, sFor, sForKeys, sBreak, sCont, dAnd, dOr, dNot, dAndT, dOrT, dNotT, dUn, dOp, dIte, dVar, dC, dTup, dLst, dNil, dCons, dCall, dCut, dPart, dNoPart, dGet1, dGet2, dApp,
  dSeq1, dRange1, dRange2, dEnum, dZip, dLc, dDc, dChain, fIsi, fBlt, fLen, fAbs, fInt1, fMax, fMin, fL1, fTuple, fList, fSorted, fDict, fBin, fCmp, fNeg, fAdd, fSub, fMul, fMod, fDiv, fPow, fInt, fInt0, fLt, fLe, fGt, fGe, fIs, fIsNot, fInD, fIx, fCut, fSeq, fRange1, fRange2, fEnum, fZip, fSetIx, fGet, fApp, fLenSet, fAug, sAug, tOf, tOfB, guardN, gset, gsets, sFrz, frz_dct, frz_lst, fEq_int, fNe_int, fEq_bl, fNe_bl, fEq_nil, fNe_nil, fEq_ints,
  TyC.name, DL.isNon, start0, List.length_cons, List.length_nil, List.map_cons, List.map_nil, List.cons_append, List.nil_append, List.getElem?_cons_zero, List.getElem?_cons_succ, List.getElem?_nil, List.set_cons_zero, List.set_cons_succ, List.set_nil, List.replicate, Nat.reduceSub, Nat.reduceAdd, mkL, mkD, dwipe, Bool.false_eq_true, if_true, if_false, ite_true, ite_false, true_and, and_true, Option.isSome_some, Option.isSome_none, Option.map_some, Option.map_none, Option.getD_some, Option.getD_none,
  tyD_non, tyD_bl, tyD_int, tyD_str, tyD_tup, tyD_lst, tyD_dct, truD_non, truD_bl, truD_int, truD_tup, truD_lst, truD_dct, asL_non, asD_non, keyD_non, asL_bl, asD_bl, keyD_bl, asL_int, asD_int, keyD_int, asL_str, asD_str, keyD_str, asL_tup, asD_tup, keyD_tup, asL_lst, asD_lst, keyD_lst, asL_dct, asD_dct, keyD_dct, asL_scr, asD_scr, keyD_scr, asL_sup, asD_sup, asL_supD, isLs_sup, tyD_supL, tyD_supD, sup_same, sup_sup, ixN_1_0, ixN_2_0, ixN_2_1, ixN_3_0, ixN_3_1, ixN_3_2, ixN_4_0, ixN_4_1, ixN_4_2, ixN_4_3, ixN_5_0, ixN_5_1, ixN_5_2, ixN_5_3, ixN_5_4, ixN_6_0, ixN_6_1, ixN_6_2, ixN_6_3, ixN_6_4, ixN_6_5, ixN_7_0, ixN_7_1, ixN_7_2, ixN_7_3, ixN_7_4, ixN_7_5, ixN_7_6, ixN_8_0, ixN_8_1, ixN_8_2, ixN_8_3, ixN_8_4, ixN_8_5, ixN_8_6, ixN_8_7, atI_0, atI_1, atI_2, atI_3, atI_4, atI_5, atI_6, atI_7, atI_8, isi_NoneType_bool, isi_NoneType_int, isi_NoneType_str, isi_NoneType_tuple, isi_NoneType_list, isi_NoneType_dict, isi_bool_bool, isi_bool_int, isi_bool_str, isi_bool_tuple, isi_bool_list, isi_bool_dict, isi_int_bool, isi_int_int, isi_int_str, isi_int_tuple, isi_int_list, isi_int_dict, isi_str_bool, isi_str_int, isi_str_str, isi_str_tuple, isi_str_list, isi_str_dict, isi_tuple_bool, isi_tuple_int, isi_tuple_str, isi_tuple_tuple, isi_tuple_list, isi_tuple_dict, isi_list_bool, isi_list_int, isi_list_str, isi_list_tuple, isi_list_list, isi_list_dict, isi_dict_bool, isi_dict_int, isi_dict_str, isi_dict_tuple, isi_dict_list, isi_dict_dict, intKeys_kb]
    refine ⟨by have := lenOk acc h1 h2; omega, ?_⟩
    rw [sdel_sup hp, h4]
    exact .of q
def spSumOf : DSp := fun ds S Q => ∃ (w : Str) (i : Int), ds = [.tup [.str w, .int i]] ∧ PyData.strOk w = true ∧ Q (if w = ("num" : Str) then Sm.d ⟨i, []⟩ else (one i).d) S
theorem r_sum_of {T : Tb} {ds : List D} {S : Store} {Q : DQ} (h : spSumOf ds S Q) : denSs T core_sum_of (DD Q) (start0 N_sum_of.length ds) S := by
  obtain ⟨w, i, rfl, hw, q⟩ := h
  simp only [core_sum_of, N_sum_of, DD, denSs, denS, den, dens, denO, denT, denI, DV.of, DV.ofB, sSeq, sRet, sRetN, sNext, sIf, sSet, sSetG, sPar, sPar3, sSetIx, sDrop, sFor, sForKeys, sBreak, sCont, dAnd, dOr, dNot, dAndT, dOrT, dNotT, dUn, dOp, dIte, dVar, dC, dTup, dLst, dNil, dCons, dCall, dCut, dPart, dNoPart, dGet1, dGet2, dApp,
  dSeq1, dRange1, dRange2, dEnum, dZip, dLc, dDc, dChain, fIsi, fBlt, fLen, fAbs, fInt1, fMax, fMin, fL1, fTuple, fList, fSorted, fDict, fBin, fCmp, fNeg, fAdd, fSub, fMul, fMod, fDiv, fPow, fInt, fInt0, fLt, fLe, fGt, fGe, fIs, fIsNot, fInD, fIx, fCut, fSeq, fRange1, fRange2, fEnum, fZip, fSetIx, fGet, fApp, fLenSet, fAug, sAug, tOf, tOfB, guardN, gset, gsets, sFrz, frz_dct, frz_lst, fEq_int, fNe_int, fEq_bl, fNe_bl, fEq_nil, fNe_nil, fEq_ints,
  TyC.name, DL.isNon, start0, List.length_cons, List.length_nil, List.map_cons, List.map_nil, List.cons_append, List.nil_append, List.getElem?_cons_zero, List.getElem?_cons_succ, List.getElem?_nil, List.set_cons_zero, List.set_cons_succ, List.set_nil, List.replicate, Nat.reduceSub, Nat.reduceAdd, mkL, mkD, dwipe, Bool.false_eq_true, if_true, if_false, ite_true, ite_false, true_and, and_true, Option.isSome_some, Option.isSome_none, Option.map_some, Option.map_none, Option.getD_some, Option.getD_none,
  tyD_non, tyD_bl, tyD_int, tyD_str, tyD_tup, tyD_lst, tyD_dct, truD_non, truD_bl, truD_int, truD_tup, truD_lst, truD_dct, asL_non, asD_non, keyD_non, asL_bl, asD_bl, keyD_bl, asL_int, asD_int, keyD_int, asL_str, asD_str, keyD_str, asL_tup, asD_tup, keyD_tup, asL_lst, asD_lst, keyD_lst, asL_dct, asD_dct, keyD_dct, asL_scr, asD_scr, keyD_scr, asL_sup, asD_sup, asL_supD, isLs_sup, tyD_supL, tyD_supD, sup_same, sup_sup, ixN_1_0, ixN_2_0, ixN_2_1, ixN_3_0, ixN_3_1, ixN_3_2, ixN_4_0, ixN_4_1, ixN_4_2, ixN_4_3, ixN_5_0, ixN_5_1, ixN_5_2, ixN_5_3, ixN_5_4, ixN_6_0, ixN_6_1, ixN_6_2, ixN_6_3, ixN_6_4, ixN_6_5, ixN_7_0, ixN_7_1, ixN_7_2, ixN_7_3, ixN_7_4, ixN_7_5, ixN_7_6, ixN_8_0, ixN_8_1, ixN_8_2, ixN_8_3, ixN_8_4, ixN_8_5, ixN_8_6, ixN_8_7, atI_0, atI_1, atI_2, atI_3, atI_4, atI_5, atI_6, atI_7, atI_8, isi_NoneType_bool, isi_NoneType_int, isi_NoneType_str, isi_NoneType_tuple, isi_NoneType_list, isi_NoneType_dict, isi_bool_bool, isi_bool_int, isi_bool_str, isi_bool_tuple, isi_bool_list, isi_bool_dict, isi_int_bool, isi_int_int, isi_int_str, isi_int_tuple, isi_int_list, isi_int_dict, isi_str_bool, isi_str_int, isi_str_str, isi_str_tuple, isi_str_list, isi_str_dict, isi_tuple_bool, isi_tuple_int, isi_tuple_str, isi_tuple_tuple, isi_tuple_list, isi_tuple_dict, isi_list_bool, isi_list_int, isi_list_str, isi_list_tuple, isi_list_list, isi_list_dict, isi_dict_bool, isi_dict_int, isi_dict_str, isi_dict_tuple, isi_dict_list, isi_dict_dict]
  rw [fEq_str hw (by decide +kernel)]
  by_cases e : w = ("num" : Str)
  · rw [if_pos e] at q
    simp only [e, beq_self_eq_true, denSs, denS, den, dens, denO, denT, denI, DV.of, DV.ofB, sSeq, sRet, sRetN, sNext, sIf, sSet, sSetG, sPar, sPar3, sSetIx, sDrop, sFor, sForKeys, sBreak, sCont, dAnd, dOr, dNot, dAndT, dOrT, dNotT, dUn, dOp, dIte, dVar, dC, dTup, dLst, dNil, dCons, dCall, dCut, dPart, dNoPart, dGet1, dGet2, dApp,
  dSeq1, dRange1, dRange2, dEnum, dZip, dLc, dDc, dChain, fIsi, fBlt, fLen, fAbs, fInt1, fMax, fMin, fL1, fTuple, fList, fSorted, fDict, fBin, fCmp, fNeg, fAdd, fSub, fMul, fMod, fDiv, fPow, fInt, fInt0, fLt, fLe, fGt, fGe, fIs, fIsNot, fInD, fIx, fCut, fSeq, fRange1, fRange2, fEnum, fZip, fSetIx, fGet, fApp, fLenSet, fAug, sAug, tOf, tOfB, guardN, gset, gsets, sFrz, frz_dct, frz_lst, fEq_int, fNe_int, fEq_bl, fNe_bl, fEq_nil, fNe_nil, fEq_ints,
  TyC.name, DL.isNon, start0, List.length_cons, List.length_nil, List.map_cons, List.map_nil, List.cons_append, List.nil_append, List.getElem?_cons_zero, List.getElem?_cons_succ, List.getElem?_nil, List.set_cons_zero, List.set_cons_succ, List.set_nil, List.replicate, Nat.reduceSub, Nat.reduceAdd, mkL, mkD, dwipe, Bool.false_eq_true, if_true, if_false, ite_true, ite_false, true_and, and_true, Option.isSome_some, Option.isSome_none, Option.map_some, Option.map_none, Option.getD_some, Option.getD_none,
  tyD_non, tyD_bl, tyD_int, tyD_str, tyD_tup, tyD_lst, tyD_dct, truD_non, truD_bl, truD_int, truD_tup, truD_lst, truD_dct, asL_non, asD_non, keyD_non, asL_bl, asD_bl, keyD_bl, asL_int, asD_int, keyD_int, asL_str, asD_str, keyD_str, asL_tup, asD_tup, keyD_tup, asL_lst, asD_lst, keyD_lst, asL_dct, asD_dct, keyD_dct, asL_scr, asD_scr, keyD_scr, asL_sup, asD_sup, asL_supD, isLs_sup, tyD_supL, tyD_supD, sup_same, sup_sup, ixN_1_0, ixN_2_0, ixN_2_1, ixN_3_0, ixN_3_1, ixN_3_2, ixN_4_0, ixN_4_1, ixN_4_2, ixN_4_3, ixN_5_0, ixN_5_1, ixN_5_2, ixN_5_3, ixN_5_4, ixN_6_0, ixN_6_1, ixN_6_2, ixN_6_3, ixN_6_4, ixN_6_5, ixN_7_0, ixN_7_1, ixN_7_2, ixN_7_3, ixN_7_4, ixN_7_5, ixN_7_6, ixN_8_0, ixN_8_1, ixN_8_2, ixN_8_3, ixN_8_4, ixN_8_5, ixN_8_6, ixN_8_7, atI_0, atI_1, atI_2, atI_3, atI_4, atI_5, atI_6, atI_7, atI_8, isi_NoneType_bool, isi_NoneType_int, isi_NoneType_str, isi_NoneType_tuple, isi_NoneType_list, isi_NoneType_dict, isi_bool_bool, isi_bool_int, isi_bool_str, isi_bool_tuple, isi_bool_list, isi_bool_dict, isi_int_bool, isi_int_int, isi_int_str, isi_int_tuple, isi_int_list, isi_int_dict, isi_str_bool, isi_str_int, isi_str_str, isi_str_tuple, isi_str_list, isi_str_dict, isi_tuple_bool, isi_tuple_int, isi_tuple_str, isi_tuple_tuple, isi_tuple_list, isi_tuple_dict, isi_list_bool, isi_list_int, isi_list_str, isi_list_tuple, isi_list_list, isi_list_dict, isi_dict_bool, isi_dict_int, isi_dict_str, isi_dict_tuple, isi_dict_list, isi_dict_dict]
    exact ⟨by decide, by decide, .of q⟩
  · rw [if_neg e] at q
    have e2 : (w == ("num" : Str)) = false := by simpa using e
    simp only [e2, denSs, denS, den, dens, denO, denT, denI, DV.of, DV.ofB, sSeq, sRet, sRetN, sNext, sIf, sSet, sSetG, sPar, sPar3, sSetIx, sDrop, sFor, sForKeys, sBreak, sCont, dAnd, dOr, dNot, dAndT, dOrT, dNotT, dUn, dOp, dIte, dVar, dC, dTup, dLst, dNil, dCons, dCall, dCut, dPart, dNoPart, dGet1, dGet2, dApp,
  dSeq1, dRange1, dRange2, dEnum, dZip, dLc, dDc, dChain, fIsi, fBlt, fLen, fAbs, fInt1, fMax, fMin, fL1, fTuple, fList, fSorted, fDict, fBin, fCmp, fNeg, fAdd, fSub, fMul, fMod, fDiv, fPow, fInt, fInt0, fLt, fLe, fGt, fGe, fIs, fIsNot, fInD, fIx, fCut, fSeq, fRange1, fRange2, fEnum, fZip, fSetIx, fGet, fApp, fLenSet, fAug, sAug, tOf, tOfB, guardN, gset, gsets, sFrz, frz_dct, frz_lst, fEq_int, fNe_int, fEq_bl, fNe_bl, fEq_nil, fNe_nil, fEq_ints,
  TyC.name, DL.isNon, start0, List.length_cons, List.length_nil, List.map_cons, List.map_nil, List.cons_append, List.nil_append, List.getElem?_cons_zero, List.getElem?_cons_succ, List.getElem?_nil, List.set_cons_zero, List.set_cons_succ, List.set_nil, List.replicate, Nat.reduceSub, Nat.reduceAdd, mkL, mkD, dwipe, Bool.false_eq_true, if_true, if_false, ite_true, ite_false, true_and, and_true, Option.isSome_some, Option.isSome_none, Option.map_some, Option.map_none, Option.getD_some, Option.getD_none,
  tyD_non, tyD_bl, tyD_int, tyD_str, tyD_tup, tyD_lst, tyD_dct, truD_non, truD_bl, truD_int, truD_tup, truD_lst, truD_dct, asL_non, asD_non, keyD_non, asL_bl, asD_bl, keyD_bl, asL_int, asD_int, keyD_int, asL_str, asD_str, keyD_str, asL_tup, asD_tup, keyD_tup, asL_lst, asD_lst, keyD_lst, asL_dct, asD_dct, keyD_dct, asL_scr, asD_scr, keyD_scr, asL_sup, asD_sup, asL_supD, isLs_sup, tyD_supL, tyD_supD, sup_same, sup_sup, ixN_1_0, ixN_2_0, ixN_2_1, ixN_3_0, ixN_3_1, ixN_3_2, ixN_4_0, ixN_4_1, ixN_4_2, ixN_4_3, ixN_5_0, ixN_5_1, ixN_5_2, ixN_5_3, ixN_5_4, ixN_6_0, ixN_6_1, ixN_6_2, ixN_6_3, ixN_6_4, ixN_6_5, ixN_7_0, ixN_7_1, ixN_7_2, ixN_7_3, ixN_7_4, ixN_7_5, ixN_7_6, ixN_8_0, ixN_8_1, ixN_8_2, ixN_8_3, ixN_8_4, ixN_8_5, ixN_8_6, ixN_8_7, atI_0, atI_1, atI_2, atI_3, atI_4, atI_5, atI_6, atI_7, atI_8, isi_NoneType_bool, isi_NoneType_int, isi_NoneType_str, isi_NoneType_tuple, isi_NoneType_list, isi_NoneType_dict, isi_bool_bool, isi_bool_int, isi_bool_str, isi_bool_tuple, isi_bool_list, isi_bool_dict, isi_int_bool, isi_int_int, isi_int_str, isi_int_tuple, isi_int_list, isi_int_dict, isi_str_bool, isi_str_int, isi_str_str, isi_str_tuple, isi_str_list, isi_str_dict, isi_tuple_bool, isi_tuple_int, isi_tuple_str, isi_tuple_tuple, isi_tuple_list, isi_tuple_dict, isi_list_bool, isi_list_int, isi_list_str, isi_list_tuple, isi_list_list, isi_list_dict, isi_dict_bool, isi_dict_int, isi_dict_str, isi_dict_tuple, isi_dict_list, isi_dict_dict]
    exact ⟨by decide, by decide, by decide, .of q⟩
/-! ### the law's own looking at what is told: two things that stand for one tree -/
inductive Tre where
  | non | bl (b : Bool) | int (i : Int) | tup (ts : List Tre) | lst (ts : List Tre)
inductive Stn (S : Store) : Nat → D → Tre → Prop
  | non (n : Nat) : Stn S n .non .non
  | bl (n : Nat) (b : Bool) : Stn S n (.bl b) (.bl b)
  | int (n : Nat) (i : Int) : Stn S n (.int i) (.int i)
  | tup {n : Nat} {xs : List D} {ts : List Tre} (hl : xs.length = ts.length) (hz : xs.length ≤ 1000) (h : ∀ (i : Nat) (x : D) (t : Tre), xs[i]? = some x → ts[i]? = some t → Stn S n x t) : Stn S (n + 1) (.tup xs) (.tup ts)
  | lst {n : Nat} {d : D} {xs : List D} {ts : List Tre} (hd : asL S d = some xs) (hl : xs.length = ts.length) (hz : xs.length ≤ 1000) (h : ∀ (i : Nat) (x : D) (t : Tre), xs[i]? = some x → ts[i]? = some t → Stn S n x t) : Stn S (n + 1) d (.lst ts)
def spSame (n : Nat) : DSp := fun ds S Q => ∃ d e t, ds = [d, e] ∧ Stn S n d t ∧ Stn S n e t ∧ Q (.bl true) S
theorem asL_cases {S : Store} {d : D} {xs : List D} (h : asL S d = some xs) : d = .lst xs ∨ ∃ a, d = .ref a ∧ S a = some (.lst xs) := by
  cases d <;> first | (cases h; done) | skip
  · cases h; exact .inl rfl
  · rename_i a
    simp only [asL] at h
    split at h
    · rename_i ys e; cases h; exact .inr ⟨a, rfl, e⟩
    · cases h
theorem fIx_seq {S : Store} {d : D} {xs : List D} {i : Int} {x : D} {Q : DQ} (h : d = .tup xs ∨ asL S d = some xs) (e : atI xs i = some x) (q : Q x S) : fIx d (.int i) S Q := by
  rcases h with rfl | h
  · show (match atI xs i with | some d => Q d S | none => False)
    rw [e]; exact q
  · rcases asL_cases h with rfl | ⟨a, rfl, h3⟩
    · show (match atI xs i with | some d => Q d S | none => False)
      rw [e]; exact q
    · have h2 : asL S (.ref a) = some xs := asL_ref h3
      simp only [fIx, h2, e]; exact q
theorem same_list {S : Store} {n : Nat} {d e : D} {xs ys : List D} {ts : List Tre} {Q : List D → Store → Prop} (hd : d = .tup xs ∨ asL S d = some xs) (he : e = .tup ys ∨ asL S e = some ys) (hl : xs.length = ts.length) (hl2 : ys.length = ts.length)
    (h : ∀ (i : Nat) (x : D) (t : Tre), xs[i]? = some x → ts[i]? = some t → Stn S n x t) (h2 : ∀ (i : Nat) (x : D) (t : Tre), ys[i]? = some x → ts[i]? = some t → Stn S n x t) (q : Q [] S) :
    lcL (fun x => True) (CG.slot 2) [2] (dNotT (tOf (dCall (guardN 2 (spSame n)) (dCons (dOp fIx (dVar 0) (dVar 2)) (dCons (dOp fIx (dVar 1) (dVar 2)) dNil))))) (dVar 2) [some d, some e, none] (rangeD 0 (ys.length : Int)) [] S Q := by
  refine lcL_pure (p := fun _ => false) (f := fun d => d) trivial _ _ (fun x hx => ?_) ?_
  · unfold rangeD at hx
    obtain ⟨i, hi, rfl⟩ := List.mem_map.mp hx
    rw [List.mem_range] at hi
    have hi : i < ys.length := by omega
    refine ⟨_, rfl, fun Q' q' => ?_, fun z => (by cases z)⟩
    have e1 : atI xs (0 + (i : Int)) = some (xs[i]'(by omega)) := by
      rw [Int.zero_add, atI_pos (Int.natCast_nonneg i) (by omega)]
      simp
    have e2 : atI ys (0 + (i : Int)) = some (ys[i]'hi) := by
      rw [Int.zero_add, atI_pos (Int.natCast_nonneg i) (by omega)]
      simp
    refine (show fIx d (.int (0 + (i : Int))) S (fun x S1 => fIx e (.int (0 + (i : Int))) S1 (fun y S2 => guardN 2 (spSame n) [x, y] S2 (fun r S3 => match truD S3 r with | some k => Q' (!k) S3 | none => False))) from ?_)
    refine fIx_seq hd e1 (fIx_seq he e2 ?_)
    refine ⟨rfl, _, _, ts[i]'(by omega), rfl, h i _ _ (List.getElem?_eq_getElem _) (List.getElem?_eq_getElem _), h2 i _ _ (List.getElem?_eq_getElem _) (List.getElem?_eq_getElem _), q'⟩
  · have e : (rangeD 0 (ys.length : Int)).filter (fun _ => false) = [] := by
      rw [List.filter_eq_nil_iff]; intro a _ z; cases z
    rw [e]; exact q
theorem r_law_same {T : Tb} {n : Nat} (h15 : T.fn 15 = some (2, match n with | 0 => fun _ _ _ => False | n + 1 => spSame n)) {ds : List D} {S : Store} {Q : DQ} (h : spSame n ds S Q) : denSs T core__law_same (DD Q) (start0 N__law_same.length ds) S := by
  obtain ⟨d, e, t, rfl, hd, he, q⟩ := h
  have hsz : (1000 : Nat) ≤ sizeLine := by decide
  cases hd with
  | non => cases he; simp only [core__law_same, N__law_same, DD, denSs, denS, den, dens, denO, denT, denI, DV.of, DV.ofB, sSeq, sRet, sRetN, sNext, sIf, sSet, sSetG, sPar, sPar3, sSetIx, sDrop, sFor, sForKeys, sBreak, sCont, dAnd, dOr, dNot, dAndT, dOrT, dNotT, dUn, dOp, dIte, dVar, dC, dTup, dLst, dNil, dCons, dCall, dCut, dPart, dNoPart, dGet1, dGet2, dApp,
  dSeq1, dRange1, dRange2, dEnum, dZip, dLc, dDc, dChain, fIsi, fBlt, fLen, fAbs, fInt1, fMax, fMin, fL1, fTuple, fList, fSorted, fDict, fBin, fCmp, fNeg, fAdd, fSub, fMul, fMod, fDiv, fPow, fInt, fInt0, fLt, fLe, fGt, fGe, fIs, fIsNot, fInD, fIx, fCut, fSeq, fRange1, fRange2, fEnum, fZip, fSetIx, fGet, fApp, fLenSet, fAug, sAug, tOf, tOfB, guardN, gset, gsets, sFrz, frz_dct, frz_lst, fEq_int, fNe_int, fEq_bl, fNe_bl, fEq_nil, fNe_nil, fEq_ints,
  TyC.name, DL.isNon, start0, List.length_cons, List.length_nil, List.map_cons, List.map_nil, List.cons_append, List.nil_append, List.getElem?_cons_zero, List.getElem?_cons_succ, List.getElem?_nil, List.set_cons_zero, List.set_cons_succ, List.set_nil, List.replicate, Nat.reduceSub, Nat.reduceAdd, mkL, mkD, dwipe, Bool.false_eq_true, if_true, if_false, ite_true, ite_false, true_and, and_true, Option.isSome_some, Option.isSome_none, Option.map_some, Option.map_none, Option.getD_some, Option.getD_none,
  tyD_non, tyD_bl, tyD_int, tyD_str, tyD_tup, tyD_lst, tyD_dct, truD_non, truD_bl, truD_int, truD_tup, truD_lst, truD_dct, asL_non, asD_non, keyD_non, asL_bl, asD_bl, keyD_bl, asL_int, asD_int, keyD_int, asL_str, asD_str, keyD_str, asL_tup, asD_tup, keyD_tup, asL_lst, asD_lst, keyD_lst, asL_dct, asD_dct, keyD_dct, asL_scr, asD_scr, keyD_scr, asL_sup, asD_sup, asL_supD, isLs_sup, tyD_supL, tyD_supD, sup_same, sup_sup, ixN_1_0, ixN_2_0, ixN_2_1, ixN_3_0, ixN_3_1, ixN_3_2, ixN_4_0, ixN_4_1, ixN_4_2, ixN_4_3, ixN_5_0, ixN_5_1, ixN_5_2, ixN_5_3, ixN_5_4, ixN_6_0, ixN_6_1, ixN_6_2, ixN_6_3, ixN_6_4, ixN_6_5, ixN_7_0, ixN_7_1, ixN_7_2, ixN_7_3, ixN_7_4, ixN_7_5, ixN_7_6, ixN_8_0, ixN_8_1, ixN_8_2, ixN_8_3, ixN_8_4, ixN_8_5, ixN_8_6, ixN_8_7, atI_0, atI_1, atI_2, atI_3, atI_4, atI_5, atI_6, atI_7, atI_8, isi_NoneType_bool, isi_NoneType_int, isi_NoneType_str, isi_NoneType_tuple, isi_NoneType_list, isi_NoneType_dict, isi_bool_bool, isi_bool_int, isi_bool_str, isi_bool_tuple, isi_bool_list, isi_bool_dict, isi_int_bool, isi_int_int, isi_int_str, isi_int_tuple, isi_int_list, isi_int_dict, isi_str_bool, isi_str_int, isi_str_str, isi_str_tuple, isi_str_list, isi_str_dict, isi_tuple_bool, isi_tuple_int, isi_tuple_str, isi_tuple_tuple, isi_tuple_list, isi_tuple_dict, isi_list_bool, isi_list_int, isi_list_str, isi_list_tuple, isi_list_list, isi_list_dict, isi_dict_bool, isi_dict_int, isi_dict_str, isi_dict_tuple, isi_dict_list, isi_dict_dict]; exact .of q
  | bl _ b =>
    cases he
    cases b <;> (simp only [core__law_same, N__law_same, DD, denSs, denS, den, dens, denO, denT, denI, DV.of, DV.ofB, sSeq, sRet, sRetN, sNext, sIf, sSet, sSetG, sPar, sPar3, sSetIx, sDrop, sFor, sForKeys, sBreak, sCont, dAnd, dOr, dNot, dAndT, dOrT, dNotT, dUn, dOp, dIte, dVar, dC, dTup, dLst, dNil, dCons, dCall, dCut, dPart, dNoPart, dGet1, dGet2, dApp,
  dSeq1, dRange1, dRange2, dEnum, dZip, dLc, dDc, dChain, fIsi, fBlt, fLen, fAbs, fInt1, fMax, fMin, fL1, fTuple, fList, fSorted, fDict, fBin, fCmp, fNeg, fAdd, fSub, fMul, fMod, fDiv, fPow, fInt, fInt0, fLt, fLe, fGt, fGe, fIs, fIsNot, fInD, fIx, fCut, fSeq, fRange1, fRange2, fEnum, fZip, fSetIx, fGet, fApp, fLenSet, fAug, sAug, tOf, tOfB, guardN, gset, gsets, sFrz, frz_dct, frz_lst, fEq_int, fNe_int, fEq_bl, fNe_bl, fEq_nil, fNe_nil, fEq_ints,
  TyC.name, DL.isNon, start0, List.length_cons, List.length_nil, List.map_cons, List.map_nil, List.cons_append, List.nil_append, List.getElem?_cons_zero, List.getElem?_cons_succ, List.getElem?_nil, List.set_cons_zero, List.set_cons_succ, List.set_nil, List.replicate, Nat.reduceSub, Nat.reduceAdd, mkL, mkD, dwipe, Bool.false_eq_true, if_true, if_false, ite_true, ite_false, true_and, and_true, Option.isSome_some, Option.isSome_none, Option.map_some, Option.map_none, Option.getD_some, Option.getD_none,
  tyD_non, tyD_bl, tyD_int, tyD_str, tyD_tup, tyD_lst, tyD_dct, truD_non, truD_bl, truD_int, truD_tup, truD_lst, truD_dct, asL_non, asD_non, keyD_non, asL_bl, asD_bl, keyD_bl, asL_int, asD_int, keyD_int, asL_str, asD_str, keyD_str, asL_tup, asD_tup, keyD_tup, asL_lst, asD_lst, keyD_lst, asL_dct, asD_dct, keyD_dct, asL_scr, asD_scr, keyD_scr, asL_sup, asD_sup, asL_supD, isLs_sup, tyD_supL, tyD_supD, sup_same, sup_sup, ixN_1_0, ixN_2_0, ixN_2_1, ixN_3_0, ixN_3_1, ixN_3_2, ixN_4_0, ixN_4_1, ixN_4_2, ixN_4_3, ixN_5_0, ixN_5_1, ixN_5_2, ixN_5_3, ixN_5_4, ixN_6_0, ixN_6_1, ixN_6_2, ixN_6_3, ixN_6_4, ixN_6_5, ixN_7_0, ixN_7_1, ixN_7_2, ixN_7_3, ixN_7_4, ixN_7_5, ixN_7_6, ixN_8_0, ixN_8_1, ixN_8_2, ixN_8_3, ixN_8_4, ixN_8_5, ixN_8_6, ixN_8_7, atI_0, atI_1, atI_2, atI_3, atI_4, atI_5, atI_6, atI_7, atI_8, isi_NoneType_bool, isi_NoneType_int, isi_NoneType_str, isi_NoneType_tuple, isi_NoneType_list, isi_NoneType_dict, isi_bool_bool, isi_bool_int, isi_bool_str, isi_bool_tuple, isi_bool_list, isi_bool_dict, isi_int_bool, isi_int_int, isi_int_str, isi_int_tuple, isi_int_list, isi_int_dict, isi_str_bool, isi_str_int, isi_str_str, isi_str_tuple, isi_str_list, isi_str_dict, isi_tuple_bool, isi_tuple_int, isi_tuple_str, isi_tuple_tuple, isi_tuple_list, isi_tuple_dict, isi_list_bool, isi_list_int, isi_list_str, isi_list_tuple, isi_list_list, isi_list_dict, isi_dict_bool, isi_dict_int, isi_dict_str, isi_dict_tuple, isi_dict_list, isi_dict_dict]; exact .of q)
  | int _ i =>
    cases he
    simp only [core__law_same, N__law_same, DD, denSs, denS, den, dens, denO, denT, denI, DV.of, DV.ofB, sSeq, sRet, sRetN, sNext, sIf, sSet, sSetG, sPar, sPar3, sSetIx, sDrop, sFor, sForKeys, sBreak, sCont, dAnd, dOr, dNot, dAndT, dOrT, dNotT, dUn, dOp, dIte, dVar, dC, dTup, dLst, dNil, dCons, dCall, dCut, dPart, dNoPart, dGet1, dGet2, dApp,
  dSeq1, dRange1, dRange2, dEnum, dZip, dLc, dDc, dChain, fIsi, fBlt, fLen, fAbs, fInt1, fMax, fMin, fL1, fTuple, fList, fSorted, fDict, fBin, fCmp, fNeg, fAdd, fSub, fMul, fMod, fDiv, fPow, fInt, fInt0, fLt, fLe, fGt, fGe, fIs, fIsNot, fInD, fIx, fCut, fSeq, fRange1, fRange2, fEnum, fZip, fSetIx, fGet, fApp, fLenSet, fAug, sAug, tOf, tOfB, guardN, gset, gsets, sFrz, frz_dct, frz_lst, fEq_int, fNe_int, fEq_bl, fNe_bl, fEq_nil, fNe_nil, fEq_ints,
  TyC.name, DL.isNon, start0, List.length_cons, List.length_nil, List.map_cons, List.map_nil, List.cons_append, List.nil_append, List.getElem?_cons_zero, List.getElem?_cons_succ, List.getElem?_nil, List.set_cons_zero, List.set_cons_succ, List.set_nil, List.replicate, Nat.reduceSub, Nat.reduceAdd, mkL, mkD, dwipe, Bool.false_eq_true, if_true, if_false, ite_true, ite_false, true_and, and_true, Option.isSome_some, Option.isSome_none, Option.map_some, Option.map_none, Option.getD_some, Option.getD_none,
  tyD_non, tyD_bl, tyD_int, tyD_str, tyD_tup, tyD_lst, tyD_dct, truD_non, truD_bl, truD_int, truD_tup, truD_lst, truD_dct, asL_non, asD_non, keyD_non, asL_bl, asD_bl, keyD_bl, asL_int, asD_int, keyD_int, asL_str, asD_str, keyD_str, asL_tup, asD_tup, keyD_tup, asL_lst, asD_lst, keyD_lst, asL_dct, asD_dct, keyD_dct, asL_scr, asD_scr, keyD_scr, asL_sup, asD_sup, asL_supD, isLs_sup, tyD_supL, tyD_supD, sup_same, sup_sup, ixN_1_0, ixN_2_0, ixN_2_1, ixN_3_0, ixN_3_1, ixN_3_2, ixN_4_0, ixN_4_1, ixN_4_2, ixN_4_3, ixN_5_0, ixN_5_1, ixN_5_2, ixN_5_3, ixN_5_4, ixN_6_0, ixN_6_1, ixN_6_2, ixN_6_3, ixN_6_4, ixN_6_5, ixN_7_0, ixN_7_1, ixN_7_2, ixN_7_3, ixN_7_4, ixN_7_5, ixN_7_6, ixN_8_0, ixN_8_1, ixN_8_2, ixN_8_3, ixN_8_4, ixN_8_5, ixN_8_6, ixN_8_7, atI_0, atI_1, atI_2, atI_3, atI_4, atI_5, atI_6, atI_7, atI_8, isi_NoneType_bool, isi_NoneType_int, isi_NoneType_str, isi_NoneType_tuple, isi_NoneType_list, isi_NoneType_dict, isi_bool_bool, isi_bool_int, isi_bool_str, isi_bool_tuple, isi_bool_list, isi_bool_dict, isi_int_bool, isi_int_int, isi_int_str, isi_int_tuple, isi_int_list, isi_int_dict, isi_str_bool, isi_str_int, isi_str_str, isi_str_tuple, isi_str_list, isi_str_dict, isi_tuple_bool, isi_tuple_int, isi_tuple_str, isi_tuple_tuple, isi_tuple_list, isi_tuple_dict, isi_list_bool, isi_list_int, isi_list_str, isi_list_tuple, isi_list_list, isi_list_dict, isi_dict_bool, isi_dict_int, isi_dict_str, isi_dict_tuple, isi_dict_list, isi_dict_dict, Bool.not_false, Int.sub_self, decide_true]
    exact .of q
  | @tup n xs ts hl hz h =>
    cases he with
    | @tup _ ys _ hl2 hz2 h2 =>
      simp only [core__law_same, N__law_same, DD, denSs, denS, den, dens, denO, denT, denI, DV.of, DV.ofB, sSeq, sRet, sRetN, sNext, sIf, sSet, sSetG, sPar, sPar3, sSetIx, sDrop, sFor, sForKeys, sBreak, sCont, dAnd, dOr, dNot, dAndT, dOrT, dNotT, dUn, dOp, dIte, dVar, dC, dTup, dLst, dNil, dCons, dCall, dCut, dPart, dNoPart, dGet1, dGet2, dApp,
  dSeq1, dRange1, dRange2, dEnum, dZip, dLc, dDc, dChain, fIsi, fBlt, fLen, fAbs, fInt1, fMax, fMin, fL1, fTuple, fList, fSorted, fDict, fBin, fCmp, fNeg, fAdd, fSub, fMul, fMod, fDiv, fPow, fInt, fInt0, fLt, fLe, fGt, fGe, fIs, fIsNot, fInD, fIx, fCut, fSeq, fRange1, fRange2, fEnum, fZip, fSetIx, fGet, fApp, fLenSet, fAug, sAug, tOf, tOfB, guardN, gset, gsets, sFrz, frz_dct, frz_lst, fEq_int, fNe_int, fEq_bl, fNe_bl, fEq_nil, fNe_nil, fEq_ints,
  TyC.name, DL.isNon, start0, List.length_cons, List.length_nil, List.map_cons, List.map_nil, List.cons_append, List.nil_append, List.getElem?_cons_zero, List.getElem?_cons_succ, List.getElem?_nil, List.set_cons_zero, List.set_cons_succ, List.set_nil, List.replicate, Nat.reduceSub, Nat.reduceAdd, mkL, mkD, dwipe, Bool.false_eq_true, if_true, if_false, ite_true, ite_false, true_and, and_true, Option.isSome_some, Option.isSome_none, Option.map_some, Option.map_none, Option.getD_some, Option.getD_none,
  tyD_non, tyD_bl, tyD_int, tyD_str, tyD_tup, tyD_lst, tyD_dct, truD_non, truD_bl, truD_int, truD_tup, truD_lst, truD_dct, asL_non, asD_non, keyD_non, asL_bl, asD_bl, keyD_bl, asL_int, asD_int, keyD_int, asL_str, asD_str, keyD_str, asL_tup, asD_tup, keyD_tup, asL_lst, asD_lst, keyD_lst, asL_dct, asD_dct, keyD_dct, asL_scr, asD_scr, keyD_scr, asL_sup, asD_sup, asL_supD, isLs_sup, tyD_supL, tyD_supD, sup_same, sup_sup, ixN_1_0, ixN_2_0, ixN_2_1, ixN_3_0, ixN_3_1, ixN_3_2, ixN_4_0, ixN_4_1, ixN_4_2, ixN_4_3, ixN_5_0, ixN_5_1, ixN_5_2, ixN_5_3, ixN_5_4, ixN_6_0, ixN_6_1, ixN_6_2, ixN_6_3, ixN_6_4, ixN_6_5, ixN_7_0, ixN_7_1, ixN_7_2, ixN_7_3, ixN_7_4, ixN_7_5, ixN_7_6, ixN_8_0, ixN_8_1, ixN_8_2, ixN_8_3, ixN_8_4, ixN_8_5, ixN_8_6, ixN_8_7, atI_0, atI_1, atI_2, atI_3, atI_4, atI_5, atI_6, atI_7, atI_8, isi_NoneType_bool, isi_NoneType_int, isi_NoneType_str, isi_NoneType_tuple, isi_NoneType_list, isi_NoneType_dict, isi_bool_bool, isi_bool_int, isi_bool_str, isi_bool_tuple, isi_bool_list, isi_bool_dict, isi_int_bool, isi_int_int, isi_int_str, isi_int_tuple, isi_int_list, isi_int_dict, isi_str_bool, isi_str_int, isi_str_str, isi_str_tuple, isi_str_list, isi_str_dict, isi_tuple_bool, isi_tuple_int, isi_tuple_str, isi_tuple_tuple, isi_tuple_list, isi_tuple_dict, isi_list_bool, isi_list_int, isi_list_str, isi_list_tuple, isi_list_list, isi_list_dict, isi_dict_bool, isi_dict_int, isi_dict_str, isi_dict_tuple, isi_dict_list, isi_dict_dict, h15, Bool.not_false, Bool.not_true]
      rw [if_neg (by decide), if_neg (by decide), if_pos (by rw [hl, hl2]; simp)]
      refine ⟨by omega, by omega, same_list (.inl rfl) (.inl rfl) hl hl2 h h2 ⟨Nat.zero_le _, ?_⟩⟩
      rw [fEq_nil]; exact .of q
  | @lst n d xs ts hd hl hz h =>
    cases he with
    | @lst _ _ ys _ hd2 hl2 hz2 h2 =>
      have hd0 := hd
      have he0 := hd2
      rcases asL_cases hd with rfl | ⟨a, rfl, hda⟩ <;> rcases asL_cases hd2 with rfl | ⟨b, rfl, hdb⟩
      · simp only [core__law_same, N__law_same, DD, denSs, denS, den, dens, denO, denT, denI, DV.of, DV.ofB, sSeq, sRet, sRetN, sNext, sIf, sSet, sSetG, sPar, sPar3, sSetIx, sDrop, sFor, sForKeys, sBreak, sCont, dAnd, dOr, dNot, dAndT, dOrT, dNotT, dUn, dOp, dIte, dVar, dC, dTup, dLst, dNil, dCons, dCall, dCut, dPart, dNoPart, dGet1, dGet2, dApp,
  dSeq1, dRange1, dRange2, dEnum, dZip, dLc, dDc, dChain, fIsi, fBlt, fLen, fAbs, fInt1, fMax, fMin, fL1, fTuple, fList, fSorted, fDict, fBin, fCmp, fNeg, fAdd, fSub, fMul, fMod, fDiv, fPow, fInt, fInt0, fLt, fLe, fGt, fGe, fIs, fIsNot, fInD, fIx, fCut, fSeq, fRange1, fRange2, fEnum, fZip, fSetIx, fGet, fApp, fLenSet, fAug, sAug, tOf, tOfB, guardN, gset, gsets, sFrz, frz_dct, frz_lst, fEq_int, fNe_int, fEq_bl, fNe_bl, fEq_nil, fNe_nil, fEq_ints,
  TyC.name, DL.isNon, start0, List.length_cons, List.length_nil, List.map_cons, List.map_nil, List.cons_append, List.nil_append, List.getElem?_cons_zero, List.getElem?_cons_succ, List.getElem?_nil, List.set_cons_zero, List.set_cons_succ, List.set_nil, List.replicate, Nat.reduceSub, Nat.reduceAdd, mkL, mkD, dwipe, Bool.false_eq_true, if_true, if_false, ite_true, ite_false, true_and, and_true, Option.isSome_some, Option.isSome_none, Option.map_some, Option.map_none, Option.getD_some, Option.getD_none,
  tyD_non, tyD_bl, tyD_int, tyD_str, tyD_tup, tyD_lst, tyD_dct, truD_non, truD_bl, truD_int, truD_tup, truD_lst, truD_dct, asL_non, asD_non, keyD_non, asL_bl, asD_bl, keyD_bl, asL_int, asD_int, keyD_int, asL_str, asD_str, keyD_str, asL_tup, asD_tup, keyD_tup, asL_lst, asD_lst, keyD_lst, asL_dct, asD_dct, keyD_dct, asL_scr, asD_scr, keyD_scr, asL_sup, asD_sup, asL_supD, isLs_sup, tyD_supL, tyD_supD, sup_same, sup_sup, ixN_1_0, ixN_2_0, ixN_2_1, ixN_3_0, ixN_3_1, ixN_3_2, ixN_4_0, ixN_4_1, ixN_4_2, ixN_4_3, ixN_5_0, ixN_5_1, ixN_5_2, ixN_5_3, ixN_5_4, ixN_6_0, ixN_6_1, ixN_6_2, ixN_6_3, ixN_6_4, ixN_6_5, ixN_7_0, ixN_7_1, ixN_7_2, ixN_7_3, ixN_7_4, ixN_7_5, ixN_7_6, ixN_8_0, ixN_8_1, ixN_8_2, ixN_8_3, ixN_8_4, ixN_8_5, ixN_8_6, ixN_8_7, atI_0, atI_1, atI_2, atI_3, atI_4, atI_5, atI_6, atI_7, atI_8, isi_NoneType_bool, isi_NoneType_int, isi_NoneType_str, isi_NoneType_tuple, isi_NoneType_list, isi_NoneType_dict, isi_bool_bool, isi_bool_int, isi_bool_str, isi_bool_tuple, isi_bool_list, isi_bool_dict, isi_int_bool, isi_int_int, isi_int_str, isi_int_tuple, isi_int_list, isi_int_dict, isi_str_bool, isi_str_int, isi_str_str, isi_str_tuple, isi_str_list, isi_str_dict, isi_tuple_bool, isi_tuple_int, isi_tuple_str, isi_tuple_tuple, isi_tuple_list, isi_tuple_dict, isi_list_bool, isi_list_int, isi_list_str, isi_list_tuple, isi_list_list, isi_list_dict, isi_dict_bool, isi_dict_int, isi_dict_str, isi_dict_tuple, isi_dict_list, isi_dict_dict, h15, Bool.not_false, Bool.not_true]
        rw [if_neg (by decide), if_neg (by decide), if_pos (by rw [hl, hl2]; simp)]
        refine ⟨by omega, by omega, same_list (.inr hd0) (.inr he0) hl hl2 h h2 ⟨Nat.zero_le _, ?_⟩⟩
        rw [fEq_nil]; exact .of q
      · simp only [core__law_same, N__law_same, DD, denSs, denS, den, dens, denO, denT, denI, DV.of, DV.ofB, sSeq, sRet, sRetN, sNext, sIf, sSet, sSetG, sPar, sPar3, sSetIx, sDrop, sFor, sForKeys, sBreak, sCont, dAnd, dOr, dNot, dAndT, dOrT, dNotT, dUn, dOp, dIte, dVar, dC, dTup, dLst, dNil, dCons, dCall, dCut, dPart, dNoPart, dGet1, dGet2, dApp,
  dSeq1, dRange1, dRange2, dEnum, dZip, dLc, dDc, dChain, fIsi, fBlt, fLen, fAbs, fInt1, fMax, fMin, fL1, fTuple, fList, fSorted, fDict, fBin, fCmp, fNeg, fAdd, fSub, fMul, fMod, fDiv, fPow, fInt, fInt0, fLt, fLe, fGt, fGe, fIs, fIsNot, fInD, fIx, fCut, fSeq, fRange1, fRange2, fEnum, fZip, fSetIx, fGet, fApp, fLenSet, fAug, sAug, tOf, tOfB, guardN, gset, gsets, sFrz, frz_dct, frz_lst, fEq_int, fNe_int, fEq_bl, fNe_bl, fEq_nil, fNe_nil, fEq_ints,
  TyC.name, DL.isNon, start0, List.length_cons, List.length_nil, List.map_cons, List.map_nil, List.cons_append, List.nil_append, List.getElem?_cons_zero, List.getElem?_cons_succ, List.getElem?_nil, List.set_cons_zero, List.set_cons_succ, List.set_nil, List.replicate, Nat.reduceSub, Nat.reduceAdd, mkL, mkD, dwipe, Bool.false_eq_true, if_true, if_false, ite_true, ite_false, true_and, and_true, Option.isSome_some, Option.isSome_none, Option.map_some, Option.map_none, Option.getD_some, Option.getD_none,
  tyD_non, tyD_bl, tyD_int, tyD_str, tyD_tup, tyD_lst, tyD_dct, truD_non, truD_bl, truD_int, truD_tup, truD_lst, truD_dct, asL_non, asD_non, keyD_non, asL_bl, asD_bl, keyD_bl, asL_int, asD_int, keyD_int, asL_str, asD_str, keyD_str, asL_tup, asD_tup, keyD_tup, asL_lst, asD_lst, keyD_lst, asL_dct, asD_dct, keyD_dct, asL_scr, asD_scr, keyD_scr, asL_sup, asD_sup, asL_supD, isLs_sup, tyD_supL, tyD_supD, sup_same, sup_sup, ixN_1_0, ixN_2_0, ixN_2_1, ixN_3_0, ixN_3_1, ixN_3_2, ixN_4_0, ixN_4_1, ixN_4_2, ixN_4_3, ixN_5_0, ixN_5_1, ixN_5_2, ixN_5_3, ixN_5_4, ixN_6_0, ixN_6_1, ixN_6_2, ixN_6_3, ixN_6_4, ixN_6_5, ixN_7_0, ixN_7_1, ixN_7_2, ixN_7_3, ixN_7_4, ixN_7_5, ixN_7_6, ixN_8_0, ixN_8_1, ixN_8_2, ixN_8_3, ixN_8_4, ixN_8_5, ixN_8_6, ixN_8_7, atI_0, atI_1, atI_2, atI_3, atI_4, atI_5, atI_6, atI_7, atI_8, isi_NoneType_bool, isi_NoneType_int, isi_NoneType_str, isi_NoneType_tuple, isi_NoneType_list, isi_NoneType_dict, isi_bool_bool, isi_bool_int, isi_bool_str, isi_bool_tuple, isi_bool_list, isi_bool_dict, isi_int_bool, isi_int_int, isi_int_str, isi_int_tuple, isi_int_list, isi_int_dict, isi_str_bool, isi_str_int, isi_str_str, isi_str_tuple, isi_str_list, isi_str_dict, isi_tuple_bool, isi_tuple_int, isi_tuple_str, isi_tuple_tuple, isi_tuple_list, isi_tuple_dict, isi_list_bool, isi_list_int, isi_list_str, isi_list_tuple, isi_list_list, isi_list_dict, isi_dict_bool, isi_dict_int, isi_dict_str, isi_dict_tuple, isi_dict_list, isi_dict_dict, h15, Bool.not_false, Bool.not_true, he0, tyD_refL hdb]
        rw [if_neg (by decide), if_neg (by decide), if_pos (by rw [hl, hl2]; simp)]
        refine ⟨by omega, by omega, same_list (.inr hd0) (.inr he0) hl hl2 h h2 ⟨Nat.zero_le _, ?_⟩⟩
        rw [fEq_nil]; exact .of q
      · simp only [core__law_same, N__law_same, DD, denSs, denS, den, dens, denO, denT, denI, DV.of, DV.ofB, sSeq, sRet, sRetN, sNext, sIf, sSet, sSetG, sPar, sPar3, sSetIx, sDrop, sFor, sForKeys, sBreak, sCont, dAnd, dOr, dNot, dAndT, dOrT, dNotT, dUn, dOp, dIte, dVar, dC, dTup, dLst, dNil, dCons, dCall, dCut, dPart, dNoPart, dGet1, dGet2, dApp,
  dSeq1, dRange1, dRange2, dEnum, dZip, dLc, dDc, dChain, fIsi, fBlt, fLen, fAbs, fInt1, fMax, fMin, fL1, fTuple, fList, fSorted, fDict, fBin, fCmp, fNeg, fAdd, fSub, fMul, fMod, fDiv, fPow, fInt, fInt0, fLt, fLe, fGt, fGe, fIs, fIsNot, fInD, fIx, fCut, fSeq, fRange1, fRange2, fEnum, fZip, fSetIx, fGet, fApp, fLenSet, fAug, sAug, tOf, tOfB, guardN, gset, gsets, sFrz, frz_dct, frz_lst, fEq_int, fNe_int, fEq_bl, fNe_bl, fEq_nil, fNe_nil, fEq_ints,
  TyC.name, DL.isNon, start0, List.length_cons, List.length_nil, List.map_cons, List.map_nil, List.cons_append, List.nil_append, List.getElem?_cons_zero, List.getElem?_cons_succ, List.getElem?_nil, List.set_cons_zero, List.set_cons_succ, List.set_nil, List.replicate, Nat.reduceSub, Nat.reduceAdd, mkL, mkD, dwipe, Bool.false_eq_true, if_true, if_false, ite_true, ite_false, true_and, and_true, Option.isSome_some, Option.isSome_none, Option.map_some, Option.map_none, Option.getD_some, Option.getD_none,
  tyD_non, tyD_bl, tyD_int, tyD_str, tyD_tup, tyD_lst, tyD_dct, truD_non, truD_bl, truD_int, truD_tup, truD_lst, truD_dct, asL_non, asD_non, keyD_non, asL_bl, asD_bl, keyD_bl, asL_int, asD_int, keyD_int, asL_str, asD_str, keyD_str, asL_tup, asD_tup, keyD_tup, asL_lst, asD_lst, keyD_lst, asL_dct, asD_dct, keyD_dct, asL_scr, asD_scr, keyD_scr, asL_sup, asD_sup, asL_supD, isLs_sup, tyD_supL, tyD_supD, sup_same, sup_sup, ixN_1_0, ixN_2_0, ixN_2_1, ixN_3_0, ixN_3_1, ixN_3_2, ixN_4_0, ixN_4_1, ixN_4_2, ixN_4_3, ixN_5_0, ixN_5_1, ixN_5_2, ixN_5_3, ixN_5_4, ixN_6_0, ixN_6_1, ixN_6_2, ixN_6_3, ixN_6_4, ixN_6_5, ixN_7_0, ixN_7_1, ixN_7_2, ixN_7_3, ixN_7_4, ixN_7_5, ixN_7_6, ixN_8_0, ixN_8_1, ixN_8_2, ixN_8_3, ixN_8_4, ixN_8_5, ixN_8_6, ixN_8_7, atI_0, atI_1, atI_2, atI_3, atI_4, atI_5, atI_6, atI_7, atI_8, isi_NoneType_bool, isi_NoneType_int, isi_NoneType_str, isi_NoneType_tuple, isi_NoneType_list, isi_NoneType_dict, isi_bool_bool, isi_bool_int, isi_bool_str, isi_bool_tuple, isi_bool_list, isi_bool_dict, isi_int_bool, isi_int_int, isi_int_str, isi_int_tuple, isi_int_list, isi_int_dict, isi_str_bool, isi_str_int, isi_str_str, isi_str_tuple, isi_str_list, isi_str_dict, isi_tuple_bool, isi_tuple_int, isi_tuple_str, isi_tuple_tuple, isi_tuple_list, isi_tuple_dict, isi_list_bool, isi_list_int, isi_list_str, isi_list_tuple, isi_list_list, isi_list_dict, isi_dict_bool, isi_dict_int, isi_dict_str, isi_dict_tuple, isi_dict_list, isi_dict_dict, h15, Bool.not_false, Bool.not_true, hd0, tyD_refL hda]
        rw [if_neg (by decide), if_neg (by decide), if_pos (by rw [hl, hl2]; simp)]
        refine ⟨by omega, by omega, same_list (.inr hd0) (.inr he0) hl hl2 h h2 ⟨Nat.zero_le _, ?_⟩⟩
        rw [fEq_nil]; exact .of q
      · simp only [core__law_same, N__law_same, DD, denSs, denS, den, dens, denO, denT, denI, DV.of, DV.ofB, sSeq, sRet, sRetN, sNext, sIf, sSet, sSetG, sPar, sPar3, sSetIx, sDrop, sFor, sForKeys, sBreak, sCont, dAnd, dOr, dNot, dAndT, dOrT, dNotT, dUn, dOp, dIte, dVar, dC, dTup, dLst, dNil, dCons, dCall, dCut, dPart, dNoPart, dGet1, dGet2, dApp,
  dSeq1, dRange1, dRange2, dEnum, dZip, dLc, dDc, dChain, fIsi, fBlt, fLen, fAbs, fInt1, fMax, fMin, fL1, fTuple, fList, fSorted, fDict, fBin, fCmp, fNeg, fAdd, fSub, fMul, fMod, fDiv, fPow, fInt, fInt0, fLt, fLe, fGt, fGe, fIs, fIsNot, fInD, fIx, fCut, fSeq, fRange1, fRange2, fEnum, fZip, fSetIx, fGet, fApp, fLenSet, fAug, sAug, tOf, tOfB, guardN, gset, gsets, sFrz, frz_dct, frz_lst, fEq_int, fNe_int, fEq_bl, fNe_bl, fEq_nil, fNe_nil, fEq_ints,
  TyC.name, DL.isNon, start0, List.length_cons, List.length_nil, List.map_cons, List.map_nil, List.cons_append, List.nil_append, List.getElem?_cons_zero, List.getElem?_cons_succ, List.getElem?_nil, List.set_cons_zero, List.set_cons_succ, List.set_nil, List.replicate, Nat.reduceSub, Nat.reduceAdd, mkL, mkD, dwipe, Bool.false_eq_true, if_true, if_false, ite_true, ite_false, true_and, and_true, Option.isSome_some, Option.isSome_none, Option.map_some, Option.map_none, Option.getD_some, Option.getD_none,
  tyD_non, tyD_bl, tyD_int, tyD_str, tyD_tup, tyD_lst, tyD_dct, truD_non, truD_bl, truD_int, truD_tup, truD_lst, truD_dct, asL_non, asD_non, keyD_non, asL_bl, asD_bl, keyD_bl, asL_int, asD_int, keyD_int, asL_str, asD_str, keyD_str, asL_tup, asD_tup, keyD_tup, asL_lst, asD_lst, keyD_lst, asL_dct, asD_dct, keyD_dct, asL_scr, asD_scr, keyD_scr, asL_sup, asD_sup, asL_supD, isLs_sup, tyD_supL, tyD_supD, sup_same, sup_sup, ixN_1_0, ixN_2_0, ixN_2_1, ixN_3_0, ixN_3_1, ixN_3_2, ixN_4_0, ixN_4_1, ixN_4_2, ixN_4_3, ixN_5_0, ixN_5_1, ixN_5_2, ixN_5_3, ixN_5_4, ixN_6_0, ixN_6_1, ixN_6_2, ixN_6_3, ixN_6_4, ixN_6_5, ixN_7_0, ixN_7_1, ixN_7_2, ixN_7_3, ixN_7_4, ixN_7_5, ixN_7_6, ixN_8_0, ixN_8_1, ixN_8_2, ixN_8_3, ixN_8_4, ixN_8_5, ixN_8_6, ixN_8_7, atI_0, atI_1, atI_2, atI_3, atI_4, atI_5, atI_6, atI_7, atI_8, isi_NoneType_bool, isi_NoneType_int, isi_NoneType_str, isi_NoneType_tuple, isi_NoneType_list, isi_NoneType_dict, isi_bool_bool, isi_bool_int, isi_bool_str, isi_bool_tuple, isi_bool_list, isi_bool_dict, isi_int_bool, isi_int_int, isi_int_str, isi_int_tuple, isi_int_list, isi_int_dict, isi_str_bool, isi_str_int, isi_str_str, isi_str_tuple, isi_str_list, isi_str_dict, isi_tuple_bool, isi_tuple_int, isi_tuple_str, isi_tuple_tuple, isi_tuple_list, isi_tuple_dict, isi_list_bool, isi_list_int, isi_list_str, isi_list_tuple, isi_list_list, isi_list_dict, isi_dict_bool, isi_dict_int, isi_dict_str, isi_dict_tuple, isi_dict_list, isi_dict_dict, h15, Bool.not_false, Bool.not_true, hd0, he0, tyD_refL hda, tyD_refL hdb]
        rw [if_neg (by decide), if_neg (by decide), if_pos (by rw [hl, hl2]; simp)]
        refine ⟨by omega, by omega, same_list (.inr hd0) (.inr he0) hl hl2 h h2 ⟨Nat.zero_le _, ?_⟩⟩
        rw [fEq_nil]; exact .of q
end K00
set_option Elab.async false
set_option linter.all false
set_option maxRecDepth 100000
set_option maxHeartbeats 1000000
namespace K00
open PySem L2 DL
theorem atI_lit (ns : List Int) {r : Int} (h0 : 0 ≤ r) (h1 : r < ns.length) : ∃ v, v ∈ ns ∧ atI (ns.map D.int) r = some (.int v) := by
  refine ⟨ns[r.toNat]'(by omega), List.getElem_mem _, ?_⟩
  rw [atI_pos h0 (by rw [List.length_map]; exact h1)]
  simp
theorem Bx.ok.mono {b : Bx} {j k : Nat} (h : b.ok j) (l : j ≤ k) : b.ok k := ⟨h.1, h.2.1, h.2.2.1, by have := h.2.2.2; omega⟩
def Names (ns : List Int) : Prop := ns.Nodup ∧ 0 < ns.length ∧ ns.length ≤ 5 ∧ ∀ k ∈ ns, -1 ≤ k
def cB : Nat := 1000000000000000
structure Drawn (ns : List Int) (s : Sm) : Prop where
  g : s.good
  sub : s.sub ns
  bd : s.bd cB
def spDraw : DSp := fun ds S Q => ∃ b bx k ns sz, ds = [.ref b, .lst (ns.map D.int), .int sz] ∧ S b = some (Bx.o bx) ∧ bx.ok k ∧ k < 900000 ∧ Names ns ∧ 0 ≤ sz ∧ sz ≤ 10000000000000 ∧
  ∀ s bx', Drawn ns s → Bx.ok bx' (k + 11) → Q s.d (sup S b bx'.o)
theorem r_draw {T : Tb} (h13 : T.fn 13 = some (2, spTake)) (h16 : T.fn 16 = some (2, spSumWith)) {ds : List D} {S : Store} {Q : DQ} (h : spDraw ds S Q) : denSs T core__law_draw_sum (DD Q) (start0 N__law_draw_sum.length ds) S := by
  obtain ⟨b, bx, k, ns, sz, rfl, hb, hk, hk2, hns, hs0, hs1, q⟩ := h
  simp only [core__law_draw_sum, N__law_draw_sum, DD, denSs, denS, den, dens, denO, denT, denI, DV.of, DV.ofB, sSeq, sRet, sRetN, sNext, sIf, sSet, sSetG, sPar, sPar3, sSetIx, sDrop, sFor, sForKeys, sBreak, sCont, dAnd, dOr, dNot, dAndT, dOrT, dNotT, dUn, dOp, dIte, dVar, dC, dTup, dLst, dNil, dCons, dCall, dCut, dPart, dNoPart, dGet1, dGet2, dApp,
  dSeq1, dRange1, dRange2, dEnum, dZip, dLc, dDc, dChain, fIsi, fBlt, fLen, fAbs, fInt1, fMax, fMin, fL1, fTuple, fList, fSorted, fDict, fBin, fCmp, fNeg, fAdd, fSub, fMul, fMod, fDiv, fPow, fInt, fInt0, fLt, fLe, fGt, fGe, fIs, fIsNot, fInD, fIx, fCut, fSeq, fRange1, fRange2, fEnum, fZip, fSetIx, fGet, fApp, fLenSet, fAug, sAug, tOf, tOfB, guardN, gset, gsets, sFrz, frz_dct, frz_lst, fEq_int, fNe_int, fEq_bl, fNe_bl, fEq_nil, fNe_nil, fEq_ints,
  TyC.name, DL.isNon, start0, List.length_cons, List.length_nil, List.map_cons, List.map_nil, List.cons_append, List.nil_append, List.getElem?_cons_zero, List.getElem?_cons_succ, List.getElem?_nil, List.set_cons_zero, List.set_cons_succ, List.set_nil, List.replicate, Nat.reduceSub, Nat.reduceAdd, mkL, mkD, dwipe, Bool.false_eq_true, if_true, if_false, ite_true, ite_false, true_and, and_true, Option.isSome_some, Option.isSome_none, Option.map_some, Option.map_none, Option.getD_some, Option.getD_none,
  tyD_non, tyD_bl, tyD_int, tyD_str, tyD_tup, tyD_lst, tyD_dct, truD_non, truD_bl, truD_int, truD_tup, truD_lst, truD_dct, asL_non, asD_non, keyD_non, asL_bl, asD_bl, keyD_bl, asL_int, asD_int, keyD_int, asL_str, asD_str, keyD_str, asL_tup, asD_tup, keyD_tup, asL_lst, asD_lst, keyD_lst, asL_dct, asD_dct, keyD_dct, asL_scr, asD_scr, keyD_scr, asL_sup, asD_sup, asL_supD, isLs_sup, tyD_supL, tyD_supD, sup_same, sup_sup, ixN_1_0, ixN_2_0, ixN_2_1, ixN_3_0, ixN_3_1, ixN_3_2, ixN_4_0, ixN_4_1, ixN_4_2, ixN_4_3, ixN_5_0, ixN_5_1, ixN_5_2, ixN_5_3, ixN_5_4, ixN_6_0, ixN_6_1, ixN_6_2, ixN_6_3, ixN_6_4, ixN_6_5, ixN_7_0, ixN_7_1, ixN_7_2, ixN_7_3, ixN_7_4, ixN_7_5, ixN_7_6, ixN_8_0, ixN_8_1, ixN_8_2, ixN_8_3, ixN_8_4, ixN_8_5, ixN_8_6, ixN_8_7, atI_0, atI_1, atI_2, atI_3, atI_4, atI_5, atI_6, atI_7, atI_8, isi_NoneType_bool, isi_NoneType_int, isi_NoneType_str, isi_NoneType_tuple, isi_NoneType_list, isi_NoneType_dict, isi_bool_bool, isi_bool_int, isi_bool_str, isi_bool_tuple, isi_bool_list, isi_bool_dict, isi_int_bool, isi_int_int, isi_int_str, isi_int_tuple, isi_int_list, isi_int_dict, isi_str_bool, isi_str_int, isi_str_str, isi_str_tuple, isi_str_list, isi_str_dict, isi_tuple_bool, isi_tuple_int, isi_tuple_str, isi_tuple_tuple, isi_tuple_list, isi_tuple_dict, isi_list_bool, isi_list_int, isi_list_str, isi_list_tuple, isi_list_list, isi_list_dict, isi_dict_bool, isi_dict_int, isi_dict_str, isi_dict_tuple, isi_dict_list, isi_dict_dict]
  intro p hp
  have npb : b ≠ p := by rintro rfl; rw [hp] at hb; cases hb
  have hsz : (64 : Nat) < sizeLine := by decide
  refine forL_ind (fun xs sd S' => ∃ ks acc o4 bx' j, xs = ks.map D.int ∧ sd = [some (.ref b), some (.lst (ns.map D.int)), some (.int sz), some (.ref p), o4] ∧ S' p = some (.dct (kvD acc)) ∧ S' b = some (Bx.o bx') ∧ (∀ a, a ≠ p → a ≠ b → S' a = S a) ∧ bx'.ok (k + j) ∧ j + 2 * ks.length ≤ 10 ∧
    (keys acc).Nodup ∧ (∀ x ∈ keys acc, x ∈ ns) ∧ (∀ x, (get acc x).natAbs ≤ cB) ∧ (∀ x ∈ ks, x ∈ ns)) ?_ ?_ _ _ _ ⟨ns, [], none, bx, 0, rfl, rfl, sup_same, (by rw [sup_ne npb]; exact hb), (fun a h1 _ => sup_ne h1), hk, (by have := hns.2.2.1; omega), List.nodup_nil, (fun x hx => by cases hx), (fun x => by rw [get_nil]; exact Nat.zero_le _), fun _ h => h⟩
  · rintro x xs sd S' ⟨ks, acc, o4, bx', j, e, rfl, g1, g2, g3, g4, g5, g6, g7, g8, g9⟩
    cases ks with
    | nil => cases e
    | cons y ks =>
      cases e
      refine ⟨trivial, _, rfl, fun K hK => ?_⟩
      simp only [denSs, denS, den, dens, denO, denT, denI, DV.of, DV.ofB, sSeq, sRet, sRetN, sNext, sIf, sSet, sSetG, sPar, sPar3, sSetIx, sDrop, sFor, sForKeys, sBreak, sCont, dAnd, dOr, dNot, dAndT, dOrT, dNotT, dUn, dOp, dIte, dVar, dC, dTup, dLst, dNil, dCons, dCall, dCut, dPart, dNoPart, dGet1, dGet2, dApp,
  dSeq1, dRange1, dRange2, dEnum, dZip, dLc, dDc, dChain, fIsi, fBlt, fLen, fAbs, fInt1, fMax, fMin, fL1, fTuple, fList, fSorted, fDict, fBin, fCmp, fNeg, fAdd, fSub, fMul, fMod, fDiv, fPow, fInt, fInt0, fLt, fLe, fGt, fGe, fIs, fIsNot, fInD, fIx, fCut, fSeq, fRange1, fRange2, fEnum, fZip, fSetIx, fGet, fApp, fLenSet, fAug, sAug, tOf, tOfB, guardN, gset, gsets, sFrz, frz_dct, frz_lst, fEq_int, fNe_int, fEq_bl, fNe_bl, fEq_nil, fNe_nil, fEq_ints,
  TyC.name, DL.isNon, start0, List.length_cons, List.length_nil, List.map_cons, List.map_nil, List.cons_append, List.nil_append, List.getElem?_cons_zero, List.getElem?_cons_succ, List.getElem?_nil, List.set_cons_zero, List.set_cons_succ, List.set_nil, List.replicate, Nat.reduceSub, Nat.reduceAdd, mkL, mkD, dwipe, Bool.false_eq_true, if_true, if_false, ite_true, ite_false, true_and, and_true, Option.isSome_some, Option.isSome_none, Option.map_some, Option.map_none, Option.getD_some, Option.getD_none,
  tyD_non, tyD_bl, tyD_int, tyD_str, tyD_tup, tyD_lst, tyD_dct, truD_non, truD_bl, truD_int, truD_tup, truD_lst, truD_dct, asL_non, asD_non, keyD_non, asL_bl, asD_bl, keyD_bl, asL_int, asD_int, keyD_int, asL_str, asD_str, keyD_str, asL_tup, asD_tup, keyD_tup, asL_lst, asD_lst, keyD_lst, asL_dct, asD_dct, keyD_dct, asL_scr, asD_scr, keyD_scr, asL_sup, asD_sup, asL_supD, isLs_sup, tyD_supL, tyD_supD, sup_same, sup_sup, ixN_1_0, ixN_2_0, ixN_2_1, ixN_3_0, ixN_3_1, ixN_3_2, ixN_4_0, ixN_4_1, ixN_4_2, ixN_4_3, ixN_5_0, ixN_5_1, ixN_5_2, ixN_5_3, ixN_5_4, ixN_6_0, ixN_6_1, ixN_6_2, ixN_6_3, ixN_6_4, ixN_6_5, ixN_7_0, ixN_7_1, ixN_7_2, ixN_7_3, ixN_7_4, ixN_7_5, ixN_7_6, ixN_8_0, ixN_8_1, ixN_8_2, ixN_8_3, ixN_8_4, ixN_8_5, ixN_8_6, ixN_8_7, atI_0, atI_1, atI_2, atI_3, atI_4, atI_5, atI_6, atI_7, atI_8, isi_NoneType_bool, isi_NoneType_int, isi_NoneType_str, isi_NoneType_tuple, isi_NoneType_list, isi_NoneType_dict, isi_bool_bool, isi_bool_int, isi_bool_str, isi_bool_tuple, isi_bool_list, isi_bool_dict, isi_int_bool, isi_int_int, isi_int_str, isi_int_tuple, isi_int_list, isi_int_dict, isi_str_bool, isi_str_int, isi_str_str, isi_str_tuple, isi_str_list, isi_str_dict, isi_tuple_bool, isi_tuple_int, isi_tuple_str, isi_tuple_tuple, isi_tuple_list, isi_tuple_dict, isi_list_bool, isi_list_int, isi_list_str, isi_list_tuple, isi_list_list, isi_list_dict, isi_dict_bool, isi_dict_int, isi_dict_str, isi_dict_tuple, isi_dict_list, isi_dict_dict, h13]
      rw [List.length_cons] at g5
      refine ⟨b, 2, k + j, bx', rfl, by decide, by decide, g2, g4, by omega, fun r bx2 r0 r1 hb2 => ?_⟩
      simp only [denSs, denS, den, dens, denO, denT, denI, DV.of, DV.ofB, sSeq, sRet, sRetN, sNext, sIf, sSet, sSetG, sPar, sPar3, sSetIx, sDrop, sFor, sForKeys, sBreak, sCont, dAnd, dOr, dNot, dAndT, dOrT, dNotT, dUn, dOp, dIte, dVar, dC, dTup, dLst, dNil, dCons, dCall, dCut, dPart, dNoPart, dGet1, dGet2, dApp,
  dSeq1, dRange1, dRange2, dEnum, dZip, dLc, dDc, dChain, fIsi, fBlt, fLen, fAbs, fInt1, fMax, fMin, fL1, fTuple, fList, fSorted, fDict, fBin, fCmp, fNeg, fAdd, fSub, fMul, fMod, fDiv, fPow, fInt, fInt0, fLt, fLe, fGt, fGe, fIs, fIsNot, fInD, fIx, fCut, fSeq, fRange1, fRange2, fEnum, fZip, fSetIx, fGet, fApp, fLenSet, fAug, sAug, tOf, tOfB, guardN, gset, gsets, sFrz, frz_dct, frz_lst, fEq_int, fNe_int, fEq_bl, fNe_bl, fEq_nil, fNe_nil, fEq_ints,
  TyC.name, DL.isNon, start0, List.length_cons, List.length_nil, List.map_cons, List.map_nil, List.cons_append, List.nil_append, List.getElem?_cons_zero, List.getElem?_cons_succ, List.getElem?_nil, List.set_cons_zero, List.set_cons_succ, List.set_nil, List.replicate, Nat.reduceSub, Nat.reduceAdd, mkL, mkD, dwipe, Bool.false_eq_true, if_true, if_false, ite_true, ite_false, true_and, and_true, Option.isSome_some, Option.isSome_none, Option.map_some, Option.map_none, Option.getD_some, Option.getD_none,
  tyD_non, tyD_bl, tyD_int, tyD_str, tyD_tup, tyD_lst, tyD_dct, truD_non, truD_bl, truD_int, truD_tup, truD_lst, truD_dct, asL_non, asD_non, keyD_non, asL_bl, asD_bl, keyD_bl, asL_int, asD_int, keyD_int, asL_str, asD_str, keyD_str, asL_tup, asD_tup, keyD_tup, asL_lst, asD_lst, keyD_lst, asL_dct, asD_dct, keyD_dct, asL_scr, asD_scr, keyD_scr, asL_sup, asD_sup, asL_supD, isLs_sup, tyD_supL, tyD_supD, sup_same, sup_sup, ixN_1_0, ixN_2_0, ixN_2_1, ixN_3_0, ixN_3_1, ixN_3_2, ixN_4_0, ixN_4_1, ixN_4_2, ixN_4_3, ixN_5_0, ixN_5_1, ixN_5_2, ixN_5_3, ixN_5_4, ixN_6_0, ixN_6_1, ixN_6_2, ixN_6_3, ixN_6_4, ixN_6_5, ixN_7_0, ixN_7_1, ixN_7_2, ixN_7_3, ixN_7_4, ixN_7_5, ixN_7_6, ixN_8_0, ixN_8_1, ixN_8_2, ixN_8_3, ixN_8_4, ixN_8_5, ixN_8_6, ixN_8_7, atI_0, atI_1, atI_2, atI_3, atI_4, atI_5, atI_6, atI_7, atI_8, isi_NoneType_bool, isi_NoneType_int, isi_NoneType_str, isi_NoneType_tuple, isi_NoneType_list, isi_NoneType_dict, isi_bool_bool, isi_bool_int, isi_bool_str, isi_bool_tuple, isi_bool_list, isi_bool_dict, isi_int_bool, isi_int_int, isi_int_str, isi_int_tuple, isi_int_list, isi_int_dict, isi_str_bool, isi_str_int, isi_str_str, isi_str_tuple, isi_str_list, isi_str_dict, isi_tuple_bool, isi_tuple_int, isi_tuple_str, isi_tuple_tuple, isi_tuple_list, isi_tuple_dict, isi_list_bool, isi_list_int, isi_list_str, isi_list_tuple, isi_list_list, isi_list_dict, isi_dict_bool, isi_dict_int, isi_dict_str, isi_dict_tuple, isi_dict_list, isi_dict_dict]
      split
      · rename_i hr
        refine ⟨by decide, b, 7, k + j + 1, bx2, rfl, by decide, by decide, sup_same, hb2, by omega, fun r2 bx3 r20 r21 hb3 => ?_⟩
        obtain ⟨v, hv, ev⟩ := atI_lit [1, -1, 2, -3, 1, 5, -2] r20 r21
        simp only [List.map_cons, List.map_nil] at ev
        have g1' : ∀ o, (sup S' b o) p = some (.dct (kvD acc)) := fun o => by rw [sup_ne (Ne.symm npb)]; exact g1
        simp only [denSs, denS, den, dens, denO, denT, denI, DV.of, DV.ofB, sSeq, sRet, sRetN, sNext, sIf, sSet, sSetG, sPar, sPar3, sSetIx, sDrop, sFor, sForKeys, sBreak, sCont, dAnd, dOr, dNot, dAndT, dOrT, dNotT, dUn, dOp, dIte, dVar, dC, dTup, dLst, dNil, dCons, dCall, dCut, dPart, dNoPart, dGet1, dGet2, dApp,
  dSeq1, dRange1, dRange2, dEnum, dZip, dLc, dDc, dChain, fIsi, fBlt, fLen, fAbs, fInt1, fMax, fMin, fL1, fTuple, fList, fSorted, fDict, fBin, fCmp, fNeg, fAdd, fSub, fMul, fMod, fDiv, fPow, fInt, fInt0, fLt, fLe, fGt, fGe, fIs, fIsNot, fInD, fIx, fCut, fSeq, fRange1, fRange2, fEnum, fZip, fSetIx, fGet, fApp, fLenSet, fAug, sAug, tOf, tOfB, guardN, gset, gsets, sFrz, frz_dct, frz_lst, fEq_int, fNe_int, fEq_bl, fNe_bl, fEq_nil, fNe_nil, fEq_ints,
  TyC.name, DL.isNon, start0, List.length_cons, List.length_nil, List.map_cons, List.map_nil, List.cons_append, List.nil_append, List.getElem?_cons_zero, List.getElem?_cons_succ, List.getElem?_nil, List.set_cons_zero, List.set_cons_succ, List.set_nil, List.replicate, Nat.reduceSub, Nat.reduceAdd, mkL, mkD, dwipe, Bool.false_eq_true, if_true, if_false, ite_true, ite_false, true_and, and_true, Option.isSome_some, Option.isSome_none, Option.map_some, Option.map_none, Option.getD_some, Option.getD_none,
  tyD_non, tyD_bl, tyD_int, tyD_str, tyD_tup, tyD_lst, tyD_dct, truD_non, truD_bl, truD_int, truD_tup, truD_lst, truD_dct, asL_non, asD_non, keyD_non, asL_bl, asD_bl, keyD_bl, asL_int, asD_int, keyD_int, asL_str, asD_str, keyD_str, asL_tup, asD_tup, keyD_tup, asL_lst, asD_lst, keyD_lst, asL_dct, asD_dct, keyD_dct, asL_scr, asD_scr, keyD_scr, asL_sup, asD_sup, asL_supD, isLs_sup, tyD_supL, tyD_supD, sup_same, sup_sup, ixN_1_0, ixN_2_0, ixN_2_1, ixN_3_0, ixN_3_1, ixN_3_2, ixN_4_0, ixN_4_1, ixN_4_2, ixN_4_3, ixN_5_0, ixN_5_1, ixN_5_2, ixN_5_3, ixN_5_4, ixN_6_0, ixN_6_1, ixN_6_2, ixN_6_3, ixN_6_4, ixN_6_5, ixN_7_0, ixN_7_1, ixN_7_2, ixN_7_3, ixN_7_4, ixN_7_5, ixN_7_6, ixN_8_0, ixN_8_1, ixN_8_2, ixN_8_3, ixN_8_4, ixN_8_5, ixN_8_6, ixN_8_7, atI_0, atI_1, atI_2, atI_3, atI_4, atI_5, atI_6, atI_7, atI_8, isi_NoneType_bool, isi_NoneType_int, isi_NoneType_str, isi_NoneType_tuple, isi_NoneType_list, isi_NoneType_dict, isi_bool_bool, isi_bool_int, isi_bool_str, isi_bool_tuple, isi_bool_list, isi_bool_dict, isi_int_bool, isi_int_int, isi_int_str, isi_int_tuple, isi_int_list, isi_int_dict, isi_str_bool, isi_str_int, isi_str_str, isi_str_tuple, isi_str_list, isi_str_dict, isi_tuple_bool, isi_tuple_int, isi_tuple_str, isi_tuple_tuple, isi_tuple_list, isi_tuple_dict, isi_list_bool, isi_list_int, isi_list_str, isi_list_tuple, isi_list_list, isi_list_dict, isi_dict_bool, isi_dict_int, isi_dict_str, isi_dict_tuple, isi_dict_list, isi_dict_dict, ev, g1', dput_kv]
        have hv5 : -5 ≤ v ∧ v ≤ 5 := by
          simp only [List.mem_cons, List.not_mem_nil, or_false] at hv; omega
        have hy : y ∈ ns := g9 y List.mem_cons_self
        have hlen : (kvD acc).length = acc.length := List.length_map _
        have hkl : (keys acc).length = acc.length := List.length_map _
        have := nodup_len g6 g7
        have := hns.2.2.1
        have hmul : (v * sz).natAbs ≤ cB := by
          have : (v * sz).natAbs ≤ 5 * 10000000000000 := natAbs_mul_le (by omega) (by omega)
          unfold cB; omega
        refine ⟨cmulW (.of (by omega) (by omega)) (.of (by omega) (by omega)), by omega, hK _ _ ⟨ks, put acc y (v * sz), _, bx3, j + 2, rfl, rfl, sup_same, by rw [sup_ne npb]; exact sup_same, fun a h1 h2 => by rw [sup_ne h1, sup_ne h2]; exact g3 a h1 h2,
          hb3, by omega, nd_put g6, fun x hx => ?_, fun x => ?_, fun x hx => g9 x (List.mem_cons_of_mem _ hx)⟩⟩
        · rcases mem_keys_put.mp hx with hx | rfl
          · exact g7 x hx
          · exact hy
        · rw [get_put]; split
          · exact hmul
          · exact g8 x
      · exact hK _ _ ⟨ks, acc, _, bx2, j + 1, rfl, rfl, by rw [sup_ne (Ne.symm npb)]; exact g1, sup_same, fun a h1 h2 => by rw [sup_ne h2]; exact g3 a h1 h2, hb2, by omega, g6, g7, g8, fun x hx => g9 x (List.mem_cons_of_mem _ hx)⟩
  · rintro sd S' ⟨ks, acc, o4, bx', j, e, rfl, g1, g2, g3, g4, g5, g6, g7, g8, g9⟩
    have e : ks = [] := by cases ks with | nil => rfl | cons _ _ => cases e
    subst e
    refine ⟨trivial, ?_⟩
    have hfz : frzD S' p = some (.dct (kvD acc)) := by unfold frzD; rw [g1]
    simp only [denSs, denS, den, dens, denO, denT, denI, DV.of, DV.ofB, sSeq, sRet, sRetN, sNext, sIf, sSet, sSetG, sPar, sPar3, sSetIx, sDrop, sFor, sForKeys, sBreak, sCont, dAnd, dOr, dNot, dAndT, dOrT, dNotT, dUn, dOp, dIte, dVar, dC, dTup, dLst, dNil, dCons, dCall, dCut, dPart, dNoPart, dGet1, dGet2, dApp,
  dSeq1, dRange1, dRange2, dEnum, dZip, dLc, dDc, dChain, fIsi, fBlt, fLen, fAbs, fInt1, fMax, fMin, fL1, fTuple, fList, fSorted, fDict, fBin, fCmp, fNeg, fAdd, fSub, fMul, fMod, fDiv, fPow, fInt, fInt0, fLt, fLe, fGt, fGe, fIs, fIsNot, fInD, fIx, fCut, fSeq, fRange1, fRange2, fEnum, fZip, fSetIx, fGet, fApp, fLenSet, fAug, sAug, tOf, tOfB, guardN, gset, gsets, sFrz, frz_dct, frz_lst, fEq_int, fNe_int, fEq_bl, fNe_bl, fEq_nil, fNe_nil, fEq_ints,
  TyC.name, DL.isNon, start0, List.length_cons, List.length_nil, List.map_cons, List.map_nil, List.cons_append, List.nil_append, List.getElem?_cons_zero, List.getElem?_cons_succ, List.getElem?_nil, List.set_cons_zero, List.set_cons_succ, List.set_nil, List.replicate, Nat.reduceSub, Nat.reduceAdd, mkL, mkD, dwipe, Bool.false_eq_true, if_true, if_false, ite_true, ite_false, true_and, and_true, Option.isSome_some, Option.isSome_none, Option.map_some, Option.map_none, Option.getD_some, Option.getD_none,
  tyD_non, tyD_bl, tyD_int, tyD_str, tyD_tup, tyD_lst, tyD_dct, truD_non, truD_bl, truD_int, truD_tup, truD_lst, truD_dct, asL_non, asD_non, keyD_non, asL_bl, asD_bl, keyD_bl, asL_int, asD_int, keyD_int, asL_str, asD_str, keyD_str, asL_tup, asD_tup, keyD_tup, asL_lst, asD_lst, keyD_lst, asL_dct, asD_dct, keyD_dct, asL_scr, asD_scr, keyD_scr, asL_sup, asD_sup, asL_supD, isLs_sup, tyD_supL, tyD_supD, sup_same, sup_sup, ixN_1_0, ixN_2_0, ixN_2_1, ixN_3_0, ixN_3_1, ixN_3_2, ixN_4_0, ixN_4_1, ixN_4_2, ixN_4_3, ixN_5_0, ixN_5_1, ixN_5_2, ixN_5_3, ixN_5_4, ixN_6_0, ixN_6_1, ixN_6_2, ixN_6_3, ixN_6_4, ixN_6_5, ixN_7_0, ixN_7_1, ixN_7_2, ixN_7_3, ixN_7_4, ixN_7_5, ixN_7_6, ixN_8_0, ixN_8_1, ixN_8_2, ixN_8_3, ixN_8_4, ixN_8_5, ixN_8_6, ixN_8_7, atI_0, atI_1, atI_2, atI_3, atI_4, atI_5, atI_6, atI_7, atI_8, isi_NoneType_bool, isi_NoneType_int, isi_NoneType_str, isi_NoneType_tuple, isi_NoneType_list, isi_NoneType_dict, isi_bool_bool, isi_bool_int, isi_bool_str, isi_bool_tuple, isi_bool_list, isi_bool_dict, isi_int_bool, isi_int_int, isi_int_str, isi_int_tuple, isi_int_list, isi_int_dict, isi_str_bool, isi_str_int, isi_str_str, isi_str_tuple, isi_str_list, isi_str_dict, isi_tuple_bool, isi_tuple_int, isi_tuple_str, isi_tuple_tuple, isi_tuple_list, isi_tuple_dict, isi_list_bool, isi_list_int, isi_list_str, isi_list_tuple, isi_list_list, isi_list_dict, isi_dict_bool, isi_dict_int, isi_dict_str, isi_dict_tuple, isi_dict_list, isi_dict_dict, h13, h16, hfz]
    have g2' : sdel S' p b = some (Bx.o bx') := by unfold sdel; rw [if_neg npb]; exact g2
    refine ⟨by decide, b, 7, k + j, bx', rfl, by decide, by decide, g2', g4, by omega, fun r bx2 r0 r1 hb2 => ?_⟩
    obtain ⟨v, hv, ev⟩ := atI_lit [0, 1, -1, 4, -7, 10, 3] r0 r1
    simp only [List.map_cons, List.map_nil] at ev
    simp only [denSs, denS, den, dens, denO, denT, denI, DV.of, DV.ofB, sSeq, sRet, sRetN, sNext, sIf, sSet, sSetG, sPar, sPar3, sSetIx, sDrop, sFor, sForKeys, sBreak, sCont, dAnd, dOr, dNot, dAndT, dOrT, dNotT, dUn, dOp, dIte, dVar, dC, dTup, dLst, dNil, dCons, dCall, dCut, dPart, dNoPart, dGet1, dGet2, dApp,
  dSeq1, dRange1, dRange2, dEnum, dZip, dLc, dDc, dChain, fIsi, fBlt, fLen, fAbs, fInt1, fMax, fMin, fL1, fTuple, fList, fSorted, fDict, fBin, fCmp, fNeg, fAdd, fSub, fMul, fMod, fDiv, fPow, fInt, fInt0, fLt, fLe, fGt, fGe, fIs, fIsNot, fInD, fIx, fCut, fSeq, fRange1, fRange2, fEnum, fZip, fSetIx, fGet, fApp, fLenSet, fAug, sAug, tOf, tOfB, guardN, gset, gsets, sFrz, frz_dct, frz_lst, fEq_int, fNe_int, fEq_bl, fNe_bl, fEq_nil, fNe_nil, fEq_ints,
  TyC.name, DL.isNon, start0, List.length_cons, List.length_nil, List.map_cons, List.map_nil, List.cons_append, List.nil_append, List.getElem?_cons_zero, List.getElem?_cons_succ, List.getElem?_nil, List.set_cons_zero, List.set_cons_succ, List.set_nil, List.replicate, Nat.reduceSub, Nat.reduceAdd, mkL, mkD, dwipe, Bool.false_eq_true, if_true, if_false, ite_true, ite_false, true_and, and_true, Option.isSome_some, Option.isSome_none, Option.map_some, Option.map_none, Option.getD_some, Option.getD_none,
  tyD_non, tyD_bl, tyD_int, tyD_str, tyD_tup, tyD_lst, tyD_dct, truD_non, truD_bl, truD_int, truD_tup, truD_lst, truD_dct, asL_non, asD_non, keyD_non, asL_bl, asD_bl, keyD_bl, asL_int, asD_int, keyD_int, asL_str, asD_str, keyD_str, asL_tup, asD_tup, keyD_tup, asL_lst, asD_lst, keyD_lst, asL_dct, asD_dct, keyD_dct, asL_scr, asD_scr, keyD_scr, asL_sup, asD_sup, asL_supD, isLs_sup, tyD_supL, tyD_supD, sup_same, sup_sup, ixN_1_0, ixN_2_0, ixN_2_1, ixN_3_0, ixN_3_1, ixN_3_2, ixN_4_0, ixN_4_1, ixN_4_2, ixN_4_3, ixN_5_0, ixN_5_1, ixN_5_2, ixN_5_3, ixN_5_4, ixN_6_0, ixN_6_1, ixN_6_2, ixN_6_3, ixN_6_4, ixN_6_5, ixN_7_0, ixN_7_1, ixN_7_2, ixN_7_3, ixN_7_4, ixN_7_5, ixN_7_6, ixN_8_0, ixN_8_1, ixN_8_2, ixN_8_3, ixN_8_4, ixN_8_5, ixN_8_6, ixN_8_7, atI_0, atI_1, atI_2, atI_3, atI_4, atI_5, atI_6, atI_7, atI_8, isi_NoneType_bool, isi_NoneType_int, isi_NoneType_str, isi_NoneType_tuple, isi_NoneType_list, isi_NoneType_dict, isi_bool_bool, isi_bool_int, isi_bool_str, isi_bool_tuple, isi_bool_list, isi_bool_dict, isi_int_bool, isi_int_int, isi_int_str, isi_int_tuple, isi_int_list, isi_int_dict, isi_str_bool, isi_str_int, isi_str_str, isi_str_tuple, isi_str_list, isi_str_dict, isi_tuple_bool, isi_tuple_int, isi_tuple_str, isi_tuple_tuple, isi_tuple_list, isi_tuple_dict, isi_list_bool, isi_list_int, isi_list_str, isi_list_tuple, isi_list_list, isi_list_dict, isi_dict_bool, isi_dict_int, isi_dict_str, isi_dict_tuple, isi_dict_list, isi_dict_dict, ev]
    have hv5 : -10 ≤ v ∧ v ≤ 10 := by
      simp only [List.mem_cons, List.not_mem_nil, or_false] at hv; omega
    have hkl : (keys acc).length = acc.length := List.length_map _
    have := nodup_len g6 g7
    have := hns.2.2.1
    have hmul : (v * sz).natAbs ≤ cB := by
      have : (v * sz).natAbs ≤ 10 * 10000000000000 := natAbs_mul_le (by omega) (by omega)
      unfold cB; omega
    rw [List.length_nil] at g5
    refine ⟨cmulW (.of (by omega) (by omega)) (.of (by omega) (by omega)), _, _, rfl, g6, by omega, ?_⟩
    refine rt_drop (S := sup S b bx2.o) (fun a o ha => ?_) (q _ bx2 ⟨mk_good g6 fun x hx => hns.2.2.2 x (g7 x hx), fun x hx => g7 x (keys_mk_sub hx), hmul, fun x => by rw [mk_get]; exact g8 x⟩ (hb2.mono (by omega)))
    by_cases e1 : a = b
    · subst e1
      rw [sup_same] at ha ⊢; exact ha
    · rw [sup_ne e1] at ha ⊢
      have e2 : a ≠ p := by rintro rfl; rw [hp] at ha; cases ha
      unfold sdel
      rw [if_neg e2, g3 a e2 e1]; exact ha
/-! ### values -/
def cV : Nat := 100000000000000000000
structure Vals6 (ns : List Int) (vl : List P2) : Prop where
  ks : keys vl = ns
  bd : ∀ k, (get vl k).natAbs ≤ cV
theorem get_bd {c : Nat} : ∀ {l : List P2}, (∀ p ∈ l, p.2.natAbs ≤ c) → ∀ k, (get l k).natAbs ≤ c
  | [], _, k => Nat.zero_le _
  | p :: l, h, k => by
    rw [get_cons]
    split
    · exact h p List.mem_cons_self
    · exact get_bd (fun q hq => h q (List.mem_cons_of_mem _ hq)) k
def spValues : DSp := fun ds S Q => ∃ b bx k ns, ds = [.ref b, .lst (ns.map D.int)] ∧ S b = some (Bx.o bx) ∧ bx.ok k ∧ k < 900000 ∧ Names ns ∧
  ∀ vl bx', Vals6 ns vl → Bx.ok bx' (k + 5) → Q (.dct (kvD vl)) (sup S b bx'.o)
theorem r_values {T : Tb} (h13 : T.fn 13 = some (2, spTake)) {ds : List D} {S : Store} {Q : DQ} (h : spValues ds S Q) : denSs T core__law_values (DD Q) (start0 N__law_values.length ds) S := by
  obtain ⟨b, bx, k, ns, rfl, hb, hk, hk2, hns, q⟩ := h
  simp only [core__law_values, N__law_values, DD, denSs, denS, den, dens, denO, denT, denI, DV.of, DV.ofB, sSeq, sRet, sRetN, sNext, sIf, sSet, sSetG, sPar, sPar3, sSetIx, sDrop, sFor, sForKeys, sBreak, sCont, dAnd, dOr, dNot, dAndT, dOrT, dNotT, dUn, dOp, dIte, dVar, dC, dTup, dLst, dNil, dCons, dCall, dCut, dPart, dNoPart, dGet1, dGet2, dApp,
  dSeq1, dRange1, dRange2, dEnum, dZip, dLc, dDc, dChain, fIsi, fBlt, fLen, fAbs, fInt1, fMax, fMin, fL1, fTuple, fList, fSorted, fDict, fBin, fCmp, fNeg, fAdd, fSub, fMul, fMod, fDiv, fPow, fInt, fInt0, fLt, fLe, fGt, fGe, fIs, fIsNot, fInD, fIx, fCut, fSeq, fRange1, fRange2, fEnum, fZip, fSetIx, fGet, fApp, fLenSet, fAug, sAug, tOf, tOfB, guardN, gset, gsets, sFrz, frz_dct, frz_lst, fEq_int, fNe_int, fEq_bl, fNe_bl, fEq_nil, fNe_nil, fEq_ints,
  TyC.name, DL.isNon, start0, List.length_cons, List.length_nil, List.map_cons, List.map_nil, List.cons_append, List.nil_append, List.getElem?_cons_zero, List.getElem?_cons_succ, List.getElem?_nil, List.set_cons_zero, List.set_cons_succ, List.set_nil, List.replicate, Nat.reduceSub, Nat.reduceAdd, mkL, mkD, dwipe, Bool.false_eq_true, if_true, if_false, ite_true, ite_false, true_and, and_true, Option.isSome_some, Option.isSome_none, Option.map_some, Option.map_none, Option.getD_some, Option.getD_none,
  tyD_non, tyD_bl, tyD_int, tyD_str, tyD_tup, tyD_lst, tyD_dct, truD_non, truD_bl, truD_int, truD_tup, truD_lst, truD_dct, asL_non, asD_non, keyD_non, asL_bl, asD_bl, keyD_bl, asL_int, asD_int, keyD_int, asL_str, asD_str, keyD_str, asL_tup, asD_tup, keyD_tup, asL_lst, asD_lst, keyD_lst, asL_dct, asD_dct, keyD_dct, asL_scr, asD_scr, keyD_scr, asL_sup, asD_sup, asL_supD, isLs_sup, tyD_supL, tyD_supD, sup_same, sup_sup, ixN_1_0, ixN_2_0, ixN_2_1, ixN_3_0, ixN_3_1, ixN_3_2, ixN_4_0, ixN_4_1, ixN_4_2, ixN_4_3, ixN_5_0, ixN_5_1, ixN_5_2, ixN_5_3, ixN_5_4, ixN_6_0, ixN_6_1, ixN_6_2, ixN_6_3, ixN_6_4, ixN_6_5, ixN_7_0, ixN_7_1, ixN_7_2, ixN_7_3, ixN_7_4, ixN_7_5, ixN_7_6, ixN_8_0, ixN_8_1, ixN_8_2, ixN_8_3, ixN_8_4, ixN_8_5, ixN_8_6, ixN_8_7, atI_0, atI_1, atI_2, atI_3, atI_4, atI_5, atI_6, atI_7, atI_8, isi_NoneType_bool, isi_NoneType_int, isi_NoneType_str, isi_NoneType_tuple, isi_NoneType_list, isi_NoneType_dict, isi_bool_bool, isi_bool_int, isi_bool_str, isi_bool_tuple, isi_bool_list, isi_bool_dict, isi_int_bool, isi_int_int, isi_int_str, isi_int_tuple, isi_int_list, isi_int_dict, isi_str_bool, isi_str_int, isi_str_str, isi_str_tuple, isi_str_list, isi_str_dict, isi_tuple_bool, isi_tuple_int, isi_tuple_str, isi_tuple_tuple, isi_tuple_list, isi_tuple_dict, isi_list_bool, isi_list_int, isi_list_str, isi_list_tuple, isi_list_list, isi_list_dict, isi_dict_bool, isi_dict_int, isi_dict_str, isi_dict_tuple, isi_dict_list, isi_dict_dict]
  refine lcL_ind (fun xs acc S' => ∃ ks vl bx' j, xs = ks.map D.int ∧ acc = vl.map pD ∧ S' = sup S b bx'.o ∧ bx'.ok (k + j) ∧ j + ks.length ≤ 5 ∧ keys vl ++ ks = ns ∧ ∀ p ∈ vl, p.2.natAbs ≤ cV) ?_ ?_ _ _ _ ⟨ns, [], bx, 0, rfl, rfl, ?_, hk, (by have := hns.2.2.1; omega), rfl, fun p hp => by cases hp⟩
  · rintro x xs acc S' ⟨ks, vl, bx', j, e, rfl, rfl, g4, g5, g6, g7⟩
    cases ks with
    | nil => cases e
    | cons y ks =>
      cases e
      refine ⟨trivial, _, rfl, fun K hK => ?_⟩
      simp only [denSs, denS, den, dens, denO, denT, denI, DV.of, DV.ofB, sSeq, sRet, sRetN, sNext, sIf, sSet, sSetG, sPar, sPar3, sSetIx, sDrop, sFor, sForKeys, sBreak, sCont, dAnd, dOr, dNot, dAndT, dOrT, dNotT, dUn, dOp, dIte, dVar, dC, dTup, dLst, dNil, dCons, dCall, dCut, dPart, dNoPart, dGet1, dGet2, dApp,
  dSeq1, dRange1, dRange2, dEnum, dZip, dLc, dDc, dChain, fIsi, fBlt, fLen, fAbs, fInt1, fMax, fMin, fL1, fTuple, fList, fSorted, fDict, fBin, fCmp, fNeg, fAdd, fSub, fMul, fMod, fDiv, fPow, fInt, fInt0, fLt, fLe, fGt, fGe, fIs, fIsNot, fInD, fIx, fCut, fSeq, fRange1, fRange2, fEnum, fZip, fSetIx, fGet, fApp, fLenSet, fAug, sAug, tOf, tOfB, guardN, gset, gsets, sFrz, frz_dct, frz_lst, fEq_int, fNe_int, fEq_bl, fNe_bl, fEq_nil, fNe_nil, fEq_ints,
  TyC.name, DL.isNon, start0, List.length_cons, List.length_nil, List.map_cons, List.map_nil, List.cons_append, List.nil_append, List.getElem?_cons_zero, List.getElem?_cons_succ, List.getElem?_nil, List.set_cons_zero, List.set_cons_succ, List.set_nil, List.replicate, Nat.reduceSub, Nat.reduceAdd, mkL, mkD, dwipe, Bool.false_eq_true, if_true, if_false, ite_true, ite_false, true_and, and_true, Option.isSome_some, Option.isSome_none, Option.map_some, Option.map_none, Option.getD_some, Option.getD_none,
  tyD_non, tyD_bl, tyD_int, tyD_str, tyD_tup, tyD_lst, tyD_dct, truD_non, truD_bl, truD_int, truD_tup, truD_lst, truD_dct, asL_non, asD_non, keyD_non, asL_bl, asD_bl, keyD_bl, asL_int, asD_int, keyD_int, asL_str, asD_str, keyD_str, asL_tup, asD_tup, keyD_tup, asL_lst, asD_lst, keyD_lst, asL_dct, asD_dct, keyD_dct, asL_scr, asD_scr, keyD_scr, asL_sup, asD_sup, asL_supD, isLs_sup, tyD_supL, tyD_supD, sup_same, sup_sup, ixN_1_0, ixN_2_0, ixN_2_1, ixN_3_0, ixN_3_1, ixN_3_2, ixN_4_0, ixN_4_1, ixN_4_2, ixN_4_3, ixN_5_0, ixN_5_1, ixN_5_2, ixN_5_3, ixN_5_4, ixN_6_0, ixN_6_1, ixN_6_2, ixN_6_3, ixN_6_4, ixN_6_5, ixN_7_0, ixN_7_1, ixN_7_2, ixN_7_3, ixN_7_4, ixN_7_5, ixN_7_6, ixN_8_0, ixN_8_1, ixN_8_2, ixN_8_3, ixN_8_4, ixN_8_5, ixN_8_6, ixN_8_7, atI_0, atI_1, atI_2, atI_3, atI_4, atI_5, atI_6, atI_7, atI_8, isi_NoneType_bool, isi_NoneType_int, isi_NoneType_str, isi_NoneType_tuple, isi_NoneType_list, isi_NoneType_dict, isi_bool_bool, isi_bool_int, isi_bool_str, isi_bool_tuple, isi_bool_list, isi_bool_dict, isi_int_bool, isi_int_int, isi_int_str, isi_int_tuple, isi_int_list, isi_int_dict, isi_str_bool, isi_str_int, isi_str_str, isi_str_tuple, isi_str_list, isi_str_dict, isi_tuple_bool, isi_tuple_int, isi_tuple_str, isi_tuple_tuple, isi_tuple_list, isi_tuple_dict, isi_list_bool, isi_list_int, isi_list_str, isi_list_tuple, isi_list_list, isi_list_dict, isi_dict_bool, isi_dict_int, isi_dict_str, isi_dict_tuple, isi_dict_list, isi_dict_dict, h13]
      rw [List.length_cons] at g5
      refine ⟨cpow (by decide) (by decide) (by decide) (by decide), cpow (by decide) (by decide) (by decide) (by decide), by decide, b, 6, k + j, bx', rfl, by decide, by decide, sup_same, g4, by omega, fun r bx2 r0 r1 hb2 => ?_⟩
      obtain ⟨v, hv, ev⟩ := atI_lit [0, 1, -3, 10 ^ Int.toNat 12, 7, -10 ^ Int.toNat 20] r0 r1
      simp only [List.map_cons, List.map_nil] at ev
      simp only [denSs, denS, den, dens, denO, denT, denI, DV.of, DV.ofB, sSeq, sRet, sRetN, sNext, sIf, sSet, sSetG, sPar, sPar3, sSetIx, sDrop, sFor, sForKeys, sBreak, sCont, dAnd, dOr, dNot, dAndT, dOrT, dNotT, dUn, dOp, dIte, dVar, dC, dTup, dLst, dNil, dCons, dCall, dCut, dPart, dNoPart, dGet1, dGet2, dApp,
  dSeq1, dRange1, dRange2, dEnum, dZip, dLc, dDc, dChain, fIsi, fBlt, fLen, fAbs, fInt1, fMax, fMin, fL1, fTuple, fList, fSorted, fDict, fBin, fCmp, fNeg, fAdd, fSub, fMul, fMod, fDiv, fPow, fInt, fInt0, fLt, fLe, fGt, fGe, fIs, fIsNot, fInD, fIx, fCut, fSeq, fRange1, fRange2, fEnum, fZip, fSetIx, fGet, fApp, fLenSet, fAug, sAug, tOf, tOfB, guardN, gset, gsets, sFrz, frz_dct, frz_lst, fEq_int, fNe_int, fEq_bl, fNe_bl, fEq_nil, fNe_nil, fEq_ints,
  TyC.name, DL.isNon, start0, List.length_cons, List.length_nil, List.map_cons, List.map_nil, List.cons_append, List.nil_append, List.getElem?_cons_zero, List.getElem?_cons_succ, List.getElem?_nil, List.set_cons_zero, List.set_cons_succ, List.set_nil, List.replicate, Nat.reduceSub, Nat.reduceAdd, mkL, mkD, dwipe, Bool.false_eq_true, if_true, if_false, ite_true, ite_false, true_and, and_true, Option.isSome_some, Option.isSome_none, Option.map_some, Option.map_none, Option.getD_some, Option.getD_none,
  tyD_non, tyD_bl, tyD_int, tyD_str, tyD_tup, tyD_lst, tyD_dct, truD_non, truD_bl, truD_int, truD_tup, truD_lst, truD_dct, asL_non, asD_non, keyD_non, asL_bl, asD_bl, keyD_bl, asL_int, asD_int, keyD_int, asL_str, asD_str, keyD_str, asL_tup, asD_tup, keyD_tup, asL_lst, asD_lst, keyD_lst, asL_dct, asD_dct, keyD_dct, asL_scr, asD_scr, keyD_scr, asL_sup, asD_sup, asL_supD, isLs_sup, tyD_supL, tyD_supD, sup_same, sup_sup, ixN_1_0, ixN_2_0, ixN_2_1, ixN_3_0, ixN_3_1, ixN_3_2, ixN_4_0, ixN_4_1, ixN_4_2, ixN_4_3, ixN_5_0, ixN_5_1, ixN_5_2, ixN_5_3, ixN_5_4, ixN_6_0, ixN_6_1, ixN_6_2, ixN_6_3, ixN_6_4, ixN_6_5, ixN_7_0, ixN_7_1, ixN_7_2, ixN_7_3, ixN_7_4, ixN_7_5, ixN_7_6, ixN_8_0, ixN_8_1, ixN_8_2, ixN_8_3, ixN_8_4, ixN_8_5, ixN_8_6, ixN_8_7, atI_0, atI_1, atI_2, atI_3, atI_4, atI_5, atI_6, atI_7, atI_8, isi_NoneType_bool, isi_NoneType_int, isi_NoneType_str, isi_NoneType_tuple, isi_NoneType_list, isi_NoneType_dict, isi_bool_bool, isi_bool_int, isi_bool_str, isi_bool_tuple, isi_bool_list, isi_bool_dict, isi_int_bool, isi_int_int, isi_int_str, isi_int_tuple, isi_int_list, isi_int_dict, isi_str_bool, isi_str_int, isi_str_str, isi_str_tuple, isi_str_list, isi_str_dict, isi_tuple_bool, isi_tuple_int, isi_tuple_str, isi_tuple_tuple, isi_tuple_list, isi_tuple_dict, isi_list_bool, isi_list_int, isi_list_str, isi_list_tuple, isi_list_list, isi_list_dict, isi_dict_bool, isi_dict_int, isi_dict_str, isi_dict_tuple, isi_dict_list, isi_dict_dict, ev]
      have hvB : v.natAbs ≤ cV := by
        simp only [List.mem_cons, List.not_mem_nil, or_false] at hv
        rcases hv with rfl | rfl | rfl | rfl | rfl | rfl <;> decide
      refine ⟨by decide, hK _ _ ⟨ks, vl ++ [(y, v)], bx2, j + 1, rfl, by rw [List.map_append]; rfl, rfl, hb2, by omega, ?_, fun p hp => ?_⟩⟩
      · unfold keys at g6 ⊢
        rw [List.map_append, List.append_assoc]; exact g6
      · rcases List.mem_append.mp hp with hp | hp
        · exact g7 p hp
        · rw [List.mem_singleton.mp hp]; exact hvB
  · rintro acc S' ⟨ks, vl, bx', j, e, rfl, rfl, g4, g5, g6, g7⟩
    have e : ks = [] := by cases ks with | nil => rfl | cons _ _ => cases e
    subst e
    refine ⟨trivial, ?_⟩
    rw [List.append_nil] at g6
    have nd : (keys vl).Nodup := by rw [g6]; exact hns.1
    simp only [denSs, denS, den, dens, denO, denT, denI, DV.of, DV.ofB, sSeq, sRet, sRetN, sNext, sIf, sSet, sSetG, sPar, sPar3, sSetIx, sDrop, sFor, sForKeys, sBreak, sCont, dAnd, dOr, dNot, dAndT, dOrT, dNotT, dUn, dOp, dIte, dVar, dC, dTup, dLst, dNil, dCons, dCall, dCut, dPart, dNoPart, dGet1, dGet2, dApp,
  dSeq1, dRange1, dRange2, dEnum, dZip, dLc, dDc, dChain, fIsi, fBlt, fLen, fAbs, fInt1, fMax, fMin, fL1, fTuple, fList, fSorted, fDict, fBin, fCmp, fNeg, fAdd, fSub, fMul, fMod, fDiv, fPow, fInt, fInt0, fLt, fLe, fGt, fGe, fIs, fIsNot, fInD, fIx, fCut, fSeq, fRange1, fRange2, fEnum, fZip, fSetIx, fGet, fApp, fLenSet, fAug, sAug, tOf, tOfB, guardN, gset, gsets, sFrz, frz_dct, frz_lst, fEq_int, fNe_int, fEq_bl, fNe_bl, fEq_nil, fNe_nil, fEq_ints,
  TyC.name, DL.isNon, start0, List.length_cons, List.length_nil, List.map_cons, List.map_nil, List.cons_append, List.nil_append, List.getElem?_cons_zero, List.getElem?_cons_succ, List.getElem?_nil, List.set_cons_zero, List.set_cons_succ, List.set_nil, List.replicate, Nat.reduceSub, Nat.reduceAdd, mkL, mkD, dwipe, Bool.false_eq_true, if_true, if_false, ite_true, ite_false, true_and, and_true, Option.isSome_some, Option.isSome_none, Option.map_some, Option.map_none, Option.getD_some, Option.getD_none,
  tyD_non, tyD_bl, tyD_int, tyD_str, tyD_tup, tyD_lst, tyD_dct, truD_non, truD_bl, truD_int, truD_tup, truD_lst, truD_dct, asL_non, asD_non, keyD_non, asL_bl, asD_bl, keyD_bl, asL_int, asD_int, keyD_int, asL_str, asD_str, keyD_str, asL_tup, asD_tup, keyD_tup, asL_lst, asD_lst, keyD_lst, asL_dct, asD_dct, keyD_dct, asL_scr, asD_scr, keyD_scr, asL_sup, asD_sup, asL_supD, isLs_sup, tyD_supL, tyD_supD, sup_same, sup_sup, ixN_1_0, ixN_2_0, ixN_2_1, ixN_3_0, ixN_3_1, ixN_3_2, ixN_4_0, ixN_4_1, ixN_4_2, ixN_4_3, ixN_5_0, ixN_5_1, ixN_5_2, ixN_5_3, ixN_5_4, ixN_6_0, ixN_6_1, ixN_6_2, ixN_6_3, ixN_6_4, ixN_6_5, ixN_7_0, ixN_7_1, ixN_7_2, ixN_7_3, ixN_7_4, ixN_7_5, ixN_7_6, ixN_8_0, ixN_8_1, ixN_8_2, ixN_8_3, ixN_8_4, ixN_8_5, ixN_8_6, ixN_8_7, atI_0, atI_1, atI_2, atI_3, atI_4, atI_5, atI_6, atI_7, atI_8, isi_NoneType_bool, isi_NoneType_int, isi_NoneType_str, isi_NoneType_tuple, isi_NoneType_list, isi_NoneType_dict, isi_bool_bool, isi_bool_int, isi_bool_str, isi_bool_tuple, isi_bool_list, isi_bool_dict, isi_int_bool, isi_int_int, isi_int_str, isi_int_tuple, isi_int_list, isi_int_dict, isi_str_bool, isi_str_int, isi_str_str, isi_str_tuple, isi_str_list, isi_str_dict, isi_tuple_bool, isi_tuple_int, isi_tuple_str, isi_tuple_tuple, isi_tuple_list, isi_tuple_dict, isi_list_bool, isi_list_int, isi_list_str, isi_list_tuple, isi_list_list, isi_list_dict, isi_dict_bool, isi_dict_int, isi_dict_str, isi_dict_tuple, isi_dict_list, isi_dict_dict, asPairs_kv, merge_nil nd]
    rw [List.length_nil] at g5
    exact .of (q vl bx' ⟨g6, get_bd g7⟩ (g4.mono (by omega)))
  · funext a
    unfold sup
    split
    · rename_i e; rw [e]; exact hb
    · rfl
/-! ### odd things -/
theorem atI_all {xs : List D} {r : Int} {K : D → Prop} (h0 : 0 ≤ r) (h1 : r < xs.length) (h : ∀ d ∈ xs, K d) : match atI xs r with | some d => K d | none => False := by
  rw [atI_pos h0 h1]
  exact h _ (List.getElem_mem _)
def spOdd : DSp := fun ds S Q => ∃ b bx k ns s, ds = [.ref b, Sm.d s] ∧ S b = some (Bx.o bx) ∧ bx.ok k ∧ k < 900000 ∧ Names ns ∧ Drawn ns s ∧
  ∀ d bx', pd d = true → (∀ x ps, d = .tup [x, .tup ps] → ps.length ≤ 1000) → Bx.ok bx' (k + 1) → Q d (sup S b bx'.o)
theorem pds_pD : ∀ l : List P2, pds (l.map pD) = true
  | [] => rfl
  | p :: l => pds_pD l
theorem pds_app : ∀ (l m : List D), pds (l ++ m) = (pds l && pds m)
  | [], m => rfl
  | d :: l, m => by
    show (pd d && pds (l ++ m)) = ((pd d && pds l) && pds m)
    rw [pds_app l m, Bool.and_assoc]
theorem r_odd {T : Tb} (h13 : T.fn 13 = some (2, spTake)) {ds : List D} {S : Store} {Q : DQ} (h : spOdd ds S Q) : denSs T core__law_odd (DD Q) (start0 N__law_odd.length ds) S := by
  obtain ⟨b, bx, k, ns, s, rfl, hb, hk, hk2, hns, hs, q⟩ := h
  have hlen : s.fs.length ≤ 5 := by
    have h1 := nodup_len hs.g.nd hs.sub
    have h2 := hns.2.2.1
    have h3 : (keys s.fs).length = s.fs.length := List.length_map _
    omega
  have hsz : (1000 : Nat) ≤ sizeLine := by decide
  have hz : ∀ n : Nat, n ≤ 10 → (s.fs.map pD).length + n ≤ sizeLine := fun n hn => by rw [List.length_map]; omega
  have fin : ∀ L : List D, 0 < L.length → L.length < 1000 → (∀ d ∈ L, pd d = true ∧ ∀ x ps, d = .tup [x, .tup ps] → ps.length ≤ 1000) →
      denSs T (.cons (.ret (.ix (.slot 4) (.call 13 (.cons (.slot 0) (.cons (.blt false .len (.cons (.slot 4) .nil)) .nil))))) .nil) (DD Q) [some (.ref b), some s.d, some (.int s.c), some (.tup (s.fs.map pD)), some (.lst L)] S := by
    intro L l1 l2 hL
    simp only [DD, denSs, denS, den, dens, denO, denT, denI, DV.of, DV.ofB, sSeq, sRet, sRetN, sNext, sIf, sSet, sSetG, sPar, sPar3, sSetIx, sDrop, sFor, sForKeys, sBreak, sCont, dAnd, dOr, dNot, dAndT, dOrT, dNotT, dUn, dOp, dIte, dVar, dC, dTup, dLst, dNil, dCons, dCall, dCut, dPart, dNoPart, dGet1, dGet2, dApp,
  dSeq1, dRange1, dRange2, dEnum, dZip, dLc, dDc, dChain, fIsi, fBlt, fLen, fAbs, fInt1, fMax, fMin, fL1, fTuple, fList, fSorted, fDict, fBin, fCmp, fNeg, fAdd, fSub, fMul, fMod, fDiv, fPow, fInt, fInt0, fLt, fLe, fGt, fGe, fIs, fIsNot, fInD, fIx, fCut, fSeq, fRange1, fRange2, fEnum, fZip, fSetIx, fGet, fApp, fLenSet, fAug, sAug, tOf, tOfB, guardN, gset, gsets, sFrz, frz_dct, frz_lst, fEq_int, fNe_int, fEq_bl, fNe_bl, fEq_nil, fNe_nil, fEq_ints,
  TyC.name, DL.isNon, start0, List.length_cons, List.length_nil, List.map_cons, List.map_nil, List.cons_append, List.nil_append, List.getElem?_cons_zero, List.getElem?_cons_succ, List.getElem?_nil, List.set_cons_zero, List.set_cons_succ, List.set_nil, List.replicate, Nat.reduceSub, Nat.reduceAdd, mkL, mkD, dwipe, Bool.false_eq_true, if_true, if_false, ite_true, ite_false, true_and, and_true, Option.isSome_some, Option.isSome_none, Option.map_some, Option.map_none, Option.getD_some, Option.getD_none,
  tyD_non, tyD_bl, tyD_int, tyD_str, tyD_tup, tyD_lst, tyD_dct, truD_non, truD_bl, truD_int, truD_tup, truD_lst, truD_dct, asL_non, asD_non, keyD_non, asL_bl, asD_bl, keyD_bl, asL_int, asD_int, keyD_int, asL_str, asD_str, keyD_str, asL_tup, asD_tup, keyD_tup, asL_lst, asD_lst, keyD_lst, asL_dct, asD_dct, keyD_dct, asL_scr, asD_scr, keyD_scr, asL_sup, asD_sup, asL_supD, isLs_sup, tyD_supL, tyD_supD, sup_same, sup_sup, ixN_1_0, ixN_2_0, ixN_2_1, ixN_3_0, ixN_3_1, ixN_3_2, ixN_4_0, ixN_4_1, ixN_4_2, ixN_4_3, ixN_5_0, ixN_5_1, ixN_5_2, ixN_5_3, ixN_5_4, ixN_6_0, ixN_6_1, ixN_6_2, ixN_6_3, ixN_6_4, ixN_6_5, ixN_7_0, ixN_7_1, ixN_7_2, ixN_7_3, ixN_7_4, ixN_7_5, ixN_7_6, ixN_8_0, ixN_8_1, ixN_8_2, ixN_8_3, ixN_8_4, ixN_8_5, ixN_8_6, ixN_8_7, atI_0, atI_1, atI_2, atI_3, atI_4, atI_5, atI_6, atI_7, atI_8, isi_NoneType_bool, isi_NoneType_int, isi_NoneType_str, isi_NoneType_tuple, isi_NoneType_list, isi_NoneType_dict, isi_bool_bool, isi_bool_int, isi_bool_str, isi_bool_tuple, isi_bool_list, isi_bool_dict, isi_int_bool, isi_int_int, isi_int_str, isi_int_tuple, isi_int_list, isi_int_dict, isi_str_bool, isi_str_int, isi_str_str, isi_str_tuple, isi_str_list, isi_str_dict, isi_tuple_bool, isi_tuple_int, isi_tuple_str, isi_tuple_tuple, isi_tuple_list, isi_tuple_dict, isi_list_bool, isi_list_int, isi_list_str, isi_list_tuple, isi_list_list, isi_list_dict, isi_dict_bool, isi_dict_int, isi_dict_str, isi_dict_tuple, isi_dict_list, isi_dict_dict, h13]
    refine ⟨b, L.length, k, bx, rfl, by omega, by omega, hb, hk, by omega, fun r bx2 r0 r1 hb2 => ?_⟩
    exact atI_all (K := fun d => rtQ Q d (sup S b bx2.o)) r0 r1 fun d hd => .of (q d bx2 (hL d hd).1 (hL d hd).2 hb2)
  have h4 : ∀ L : List D, ([some (.ref b), some s.d, some (.int s.c), some (.tup (s.fs.map pD)), some (.lst L)] : Slots)[4]? = some (some (.lst L)) := fun L => rfl
  have h3 : ∀ L : List D, ([some (.ref b), some s.d, some (.int s.c), some (.tup (s.fs.map pD)), some (.lst L)] : Slots)[3]? = some (some (.tup (s.fs.map pD))) := fun L => rfl
  have h2 : ∀ L : List D, ([some (.ref b), some s.d, some (.int s.c), some (.tup (s.fs.map pD)), some (.lst L)] : Slots)[2]? = some (some (.int s.c)) := fun L => rfl
  show denSs T _ (DD Q) [some (.ref b), some s.d, some (.int s.c), some (.tup (s.fs.map pD)), none] S
  have e2 : ([some (.ref b), some s.d, some (.int s.c), some (.tup (s.fs.map pD)), none] : Slots)[2]? = some (some (.int s.c)) := rfl
  have e3 : ([some (.ref b), some s.d, some (.int s.c), some (.tup (s.fs.map pD)), none] : Slots)[3]? = some (some (.tup (s.fs.map pD))) := rfl
  refine vs_set (ve_lst (vs_cons (ve_tup (vs_cons (ve_slot e2) (vs_cons (ve_list (ve_slot e3)) vs_nil)) rfl) (vs_cons (ve_lst (vs_cons (ve_slot e2) (vs_cons (ve_slot e3) vs_nil)) rfl) (vs_cons (ve_tup (vs_cons (ve_slot e2) vs_nil) rfl)
    (vs_cons (ve_tup (vs_cons (ve_slot e2) (vs_cons (ve_slot e3) (vs_cons ve_int vs_nil))) rfl) (vs_cons (ve_tup (vs_cons ve_bl (vs_cons (ve_slot e3) vs_nil)) rfl) (vs_cons (ve_tup (vs_cons ve_non (vs_cons (ve_slot e3) vs_nil)) rfl) (vs_cons (ve_tup (vs_cons ve_str (vs_cons (ve_slot e3) vs_nil)) rfl)
    (vs_cons (ve_tup (vs_cons (ve_slot e2) (vs_cons (ve_addT (ve_slot e3) (ve_tup (vs_cons (ve_tup (vs_cons ve_int (vs_cons ve_int vs_nil)) rfl) vs_nil) rfl) (hz 1 (by decide))) vs_nil)) rfl)
    (vs_cons (ve_tup (vs_cons (ve_slot e2) (vs_cons (ve_addT (ve_slot e3) (ve_tup (vs_cons (ve_tup (vs_cons ve_int (vs_cons ve_bl vs_nil)) rfl) vs_nil) rfl) (hz 1 (by decide))) vs_nil)) rfl) vs_nil))))))))) rfl) ?_
  refine (show denSs T _ (DD Q) [some (.ref b), some s.d, some (.int s.c), some (.tup (s.fs.map pD)), some (.lst _)] S from ?_)
  refine vs_set (ve_addL (ve_slot (h4 _)) (ve_lst (vs_cons (ve_tup (vs_cons (ve_slot (h2 _)) (vs_cons (ve_tup (vs_cons (ve_tup (vs_cons ve_neg (vs_cons ve_int vs_nil)) rfl) vs_nil) rfl) vs_nil)) rfl) (vs_cons (ve_tup (vs_cons (ve_slot (h2 _)) (vs_cons (ve_tup (vs_cons (ve_tup (vs_cons ve_int (vs_cons ve_int vs_nil)) rfl) (vs_cons (ve_tup (vs_cons ve_int (vs_cons ve_int vs_nil)) rfl) vs_nil)) rfl) vs_nil)) rfl) (vs_cons (ve_tup (vs_cons (ve_slot (h2 _)) (vs_cons (ve_tup (vs_cons (ve_tup (vs_cons ve_int (vs_cons ve_int vs_nil)) rfl) (vs_cons (ve_tup (vs_cons ve_int (vs_cons ve_int vs_nil)) rfl) vs_nil)) rfl) vs_nil)) rfl) (vs_cons (ve_tup (vs_cons (ve_slot (h2 _)) (vs_cons (ve_tup (vs_cons (ve_tup (vs_cons ve_bl (vs_cons ve_int vs_nil)) rfl) vs_nil) rfl) vs_nil)) rfl) (vs_cons (ve_tup (vs_cons (ve_slot (h2 _)) (vs_cons (ve_tup (vs_cons (ve_lst (vs_cons ve_int (vs_cons ve_int vs_nil)) rfl) vs_nil) rfl) vs_nil)) rfl) (vs_cons (ve_tup (vs_cons (ve_slot (h2 _)) (vs_cons (ve_tup (vs_cons (ve_tup (vs_cons ve_int vs_nil) rfl) vs_nil) rfl) vs_nil)) rfl) (vs_cons (ve_tup (vs_cons (ve_slot (h2 _)) (vs_cons (ve_tup (vs_cons (ve_tup (vs_cons ve_int (vs_cons ve_int (vs_cons ve_int vs_nil))) rfl) vs_nil) rfl) vs_nil)) rfl) vs_nil))))))) rfl) (show 16 ≤ sizeLine by decide)) ?_
  refine (show denSs T _ (DD Q) [some (.ref b), some s.d, some (.int s.c), some (.tup (s.fs.map pD)), some (.lst _)] S from ?_)
  refine vs_set (ve_addL (ve_slot (h4 _)) (ve_lst (vs_cons (ve_tup (vs_cons (ve_slot (h2 _)) (vs_cons (ve_tup (vs_cons (ve_tup (vs_cons ve_str (vs_cons ve_int vs_nil)) rfl) vs_nil) rfl) vs_nil)) rfl) (vs_cons (ve_tup (vs_cons (ve_slot (h2 _)) (vs_cons (ve_tup (vs_cons (ve_tup (vs_cons ve_int (vs_cons ve_non vs_nil)) rfl) vs_nil) rfl) vs_nil)) rfl) (vs_cons (ve_tup (vs_cons (ve_slot (h2 _)) (vs_cons ve_non vs_nil)) rfl) (vs_cons ve_non (vs_cons ve_int (vs_cons ve_str (vs_cons ve_dict0 (vs_cons (ve_tup vs_nil rfl) (vs_cons (ve_lst vs_nil rfl) (vs_cons ve_bl (vs_cons (ve_slot (h3 _)) vs_nil))))))))))) rfl) (show 27 ≤ sizeLine by decide)) ?_
  refine fin _ ?_ ?_ fun d hd => ?_
  · show 0 < 27; decide
  · show 27 < 1000; decide
  · simp only [List.mem_append, List.mem_cons, List.not_mem_nil, or_false] at hd
    have hp := pds_pD s.fs
    rcases hd with ((rfl | rfl | rfl | rfl | rfl | rfl | rfl | rfl | rfl) | (rfl | rfl | rfl | rfl | rfl | rfl | rfl)) | (rfl | rfl | rfl | rfl | rfl | rfl | rfl | rfl | rfl | rfl | rfl) <;>
      refine ⟨by simp [pd, pds, hp, pds_app], fun x ps e => ?_⟩ <;> first | (cases e; done) | (cases e; simp <;> omega) | skip
    injection e with e
    have e2 := congrArg (fun l : List D => l[1]?) e
    have e2 : (s.fs.map pD)[1]? = some (.tup ps) := e2
    rw [List.getElem?_map] at e2
    cases e3 : s.fs[1]? with
    | none => rw [e3] at e2; cases e2
    | some p => rw [e3] at e2; cases e2; show 2 ≤ 1000; decide
end K00
set_option Elab.async false
set_option linter.all false
set_option maxRecDepth 100000
set_option maxHeartbeats 1000000
namespace K00
open PySem L2 DL
def spSumsRight : DSp := fun ds S Q => ∃ (b : Addr) (bx : Bx) (k : Nat) (ns : List Int) (sz : Int) (ss : List Sm), ds = [.ref b, .lst (ss.map Sm.d), .lst (ns.map D.int), .int sz] ∧ S b = some (Bx.o bx) ∧ bx.ok k ∧ k < 800000 ∧ Names ns ∧ 0 ≤ sz ∧ sz ≤ 10000000000000 ∧ 2 ≤ ss.length ∧ ss.length ≤ 10 ∧ (∀ s ∈ ss, Drawn ns s) ∧
  ∀ bx', Bx.ok bx' (k + 6) → Q (.bl true) (sup S b bx'.o)
structure FnsA (T : Tb) : Prop where
  f2 : T.fn 2 = some (1, spSum)
  f5 : T.fn 5 = some (2, spAdded)
  f6 : T.fn 6 = some (2, spTimes)
  f7 : T.fn 7 = some (2, spWithout)
  f8 : T.fn 8 = some (2, spPutIn)
  f9 : T.fn 9 = some (2, spWorth)
  f13 : T.fn 13 = some (2, spTake)
  f15 : T.fn 15 = some (2, spSame 8)
  f17 : T.fn 17 = some (3, spPlus)
  f18 : T.fn 18 = some (2, spPutIn)
  f19 : T.fn 19 = some (2, spWorth)
  kAdded : T.kw 5 = [([("other" : Str), "one"], [1, 0])]
  kTimes : T.kw 6 = [([("one" : Str), "factor"], [1, 0])]
  kWorth : T.kw 9 = [([("values" : Str), "one"], [1, 0])]
  kPut : T.kw 8 = [([("meanings" : Str), "one"], [1, 0])]
/-- small numbers of a sum -/
structure Sm.sml (s : Sm) : Prop where
  c : Sml s.c
  f : ∀ p ∈ s.fs, Sml p.2
theorem Sm.bd.sml {s : Sm} {b k : Nat} (h : s.bd b) (g : s.good) (hb : b < 2 ^ k) (hk : k ≤ kilo) : s.sml := ⟨.bits h.1 hb hk, fun p hp => .bits (h.mem g hp) hb hk⟩
def Five (ns : List Int) : Prop := ns.length < 60
theorem get_bd2 {c : Nat} {l : List P2} (h : ∀ k, (get l k).natAbs ≤ c) : True := trivial
section
variable {T : Tb} {sd : Slots} {S : Store} {a b c : CE} {s t : Sm} {m : Int} {ns : List Int}
theorem ve_added (A : FnsA T) (ha : Ve T sd S a s.d) (hb : Ve T sd S b t.d) (gs : s.good) (gt : t.good) (hl : ns.length < 60) (ss : s.sub ns) (st : t.sub ns) : Ve T sd S (.call 5 (.cons a (.cons b .nil))) (plus s t 1).d :=
  ve_call A.f5 (vs_cons ha (vs_cons hb vs_nil)) rfl fun Q q => ⟨s, t, ns, rfl, gs, gt, hl, ss, st, q⟩
theorem ve_addedK (A : FnsA T) (ha : Ve T sd S a s.d) (hb : Ve T sd S b t.d) (gs : s.good) (gt : t.good) (hl : ns.length < 60) (ss : s.sub ns) (st : t.sub ns) : Ve T sd S (.callk 5 ["other", "one"] [1, 0] (.cons b (.cons a .nil))) (plus s t 1).d :=
  ve_callk A.f5 (by rw [A.kAdded]; decide +kernel) (vs_cons hb (vs_cons ha vs_nil)) rfl rfl fun Q q => ⟨s, t, ns, rfl, gs, gt, hl, ss, st, q⟩
theorem ve_without (A : FnsA T) (ha : Ve T sd S a s.d) (hb : Ve T sd S b t.d) (gs : s.good) (gt : t.good) (hl : ns.length < 60) (ss : s.sub ns) (st : t.sub ns) (ht : t.sml) : Ve T sd S (.call 7 (.cons a (.cons b .nil))) (plus s t (-1)).d :=
  ve_call A.f7 (vs_cons ha (vs_cons hb vs_nil)) rfl fun Q q => ⟨s, t, ns, rfl, gs, gt, hl, ss, st, ht.c, ht.f, q⟩
theorem ve_times (A : FnsA T) (ha : Ve T sd S a (.int m)) (hb : Ve T sd S b t.d) (gt : t.good) (hl : ns.length < 60) (st : t.sub ns) (hm : Sml m) (ht : t.sml) : Ve T sd S (.call 6 (.cons a (.cons b .nil))) (tms m t).d :=
  ve_call A.f6 (vs_cons ha (vs_cons hb vs_nil)) rfl fun Q q => ⟨t, m, ns, rfl, gt, hl, st, hm, ht.c, ht.f, q⟩
theorem ve_timesK (A : FnsA T) (ha : Ve T sd S a (.int m)) (hb : Ve T sd S b t.d) (gt : t.good) (hl : ns.length < 60) (st : t.sub ns) (hm : Sml m) (ht : t.sml) : Ve T sd S (.callk 6 ["one", "factor"] [1, 0] (.cons b (.cons a .nil))) (tms m t).d :=
  ve_callk A.f6 (by rw [A.kTimes]; decide +kernel) (vs_cons hb (vs_cons ha vs_nil)) rfl rfl fun Q q => ⟨t, m, ns, rfl, gt, hl, st, hm, ht.c, ht.f, q⟩
theorem ve_plus (A : FnsA T) (ha : Ve T sd S a s.d) (hb : Ve T sd S b t.d) (hc : Ve T sd S c (.int m)) (gs : s.good) (gt : t.good) (hl : ns.length < 60) (ss : s.sub ns) (st : t.sub ns) (hm : Sml m) (ht : t.sml) : Ve T sd S (.call 17 (.cons a (.cons b (.cons c .nil)))) (plus s t m).d :=
  ve_call A.f17 (vs_cons ha (vs_cons hb (vs_cons hc vs_nil))) rfl fun Q q => ⟨s, t, m, ns, rfl, gs, gt, hl, ss, st, hm, ht.c, ht.f, q⟩
structure ValOk (ns : List Int) (vl : List P2) : Prop where
  ks : ∀ k ∈ ns, k ∈ keys vl
  sm : ∀ k ∈ keys vl, Sml (get vl k)
theorem ve_worth (A : FnsA T) {vl : List P2} (ha : Ve T sd S a s.d) (hb : Ve T sd S b (.dct (kvD vl))) (ss : s.sub ns) (ht : s.sml) (hv : ValOk ns vl) : Ve T sd S (.call 9 (.cons a (.cons b .nil))) (.int (s.w (get vl))) :=
  ve_call A.f9 (vs_cons ha (vs_cons hb vs_nil)) rfl fun Q q => ⟨s, vl, rfl, fun k hk => hv.ks k (ss k hk), ht.f, hv.sm, q⟩
theorem ve_worthK (A : FnsA T) {vl : List P2} (ha : Ve T sd S a s.d) (hb : Ve T sd S b (.dct (kvD vl))) (ss : s.sub ns) (ht : s.sml) (hv : ValOk ns vl) : Ve T sd S (.callk 9 ["values", "one"] [1, 0] (.cons b (.cons a .nil))) (.int (s.w (get vl))) :=
  ve_callk A.f9 (by rw [A.kWorth]; decide +kernel) (vs_cons hb (vs_cons ha vs_nil)) rfl rfl fun Q q => ⟨s, vl, rfl, fun k hk => hv.ks k (ss k hk), ht.f, hv.sm, q⟩
theorem ve_lworth (A : FnsA T) {vl : List P2} (ha : Ve T sd S a s.d) (hb : Ve T sd S b (.dct (kvD vl))) (ss : s.sub ns) (ht : s.sml) (hv : ValOk ns vl) : Ve T sd S (.call 19 (.cons a (.cons b .nil))) (.int (s.w (get vl))) :=
  ve_call A.f19 (vs_cons ha (vs_cons hb vs_nil)) rfl fun Q q => ⟨s, vl, rfl, fun k hk => hv.ks k (ss k hk), ht.f, hv.sm, q⟩
end
/-! ### the tree of a sum -/
def pT (p : P2) : Tre := .tup [.int p.1, .int p.2]
def Sm.t (s : Sm) : Tre := .tup [.int s.c, .tup (s.fs.map pT)]
theorem stn_list {S : Store} {n : Nat} {xs : List D} {ts : List Tre} : (∀ p ∈ xs.zip ts, Stn S n p.1 p.2) → ∀ (i : Nat) (x : D) (t : Tre), xs[i]? = some x → ts[i]? = some t → Stn S n x t := fun h i x t h1 h2 =>
  h (x, t) (List.mem_of_getElem? (i := i) (List.getElem?_zip_eq_some.mpr ⟨h1, h2⟩))
theorem stn_int2 {S : Store} {n : Nat} {a b : D} {s t : Tre} (h1 : Stn S n a s) (h2 : Stn S n b t) : Stn S (n + 1) (.tup [a, b]) (.tup [s, t]) := .tup rfl (by show 2 ≤ 1000; decide) (stn_list fun p hp => by
  rcases List.mem_cons.mp hp with rfl | hp
  · exact h1
  · rcases List.mem_cons.mp hp with rfl | hp
    · exact h2
    · cases hp)
theorem stn_sum {S : Store} {n : Nat} {s : Sm} (h : s.fs.length ≤ 1000) : Stn S (n + 3) s.d s.t := by
  refine stn_int2 (.int _ _) (.tup (by rw [List.length_map, List.length_map]) (by rw [List.length_map]; exact h) fun i x t h1 h2 => ?_)
  rw [List.getElem?_map] at h1 h2
  cases e : s.fs[i]? with
  | none => rw [e] at h1; cases h1
  | some p => rw [e] at h1 h2; cases h1; cases h2; exact stn_int2 (.int _ _) (.int _ _)
theorem stn_lst {S : Store} {n : Nat} {xs : List D} {ts : List Tre} (hl : xs.length = ts.length) (hz : Nat.ble xs.length 1000 = true) (h : ∀ p ∈ xs.zip ts, Stn S n p.1 p.2) : Stn S (n + 1) (.lst xs) (.lst ts) := .lst rfl hl (Nat.le_of_ble_eq_true hz) (stn_list h)
theorem fs_len {s : Sm} {ns : List Int} (g : s.good) (hs : s.sub ns) (hl : ns.length ≤ 60) : s.fs.length ≤ 1000 := by
  have := nodup_len g.nd hs
  have h3 : (keys s.fs).length = s.fs.length := List.length_map _
  omega
theorem isSum_good {s : Sm} (g : s.good) : isSum s.d = true := by
  have e : asPs (s.fs.map pD) = some s.fs := by
    have := g.nz
    generalize s.fs = l at this
    induction l with
    | nil => rfl
    | cons p l ih =>
      show (match asP (pD p), asPs (l.map pD) with | some p, some ps => some (p :: ps) | _, _ => none) = _
      have hp := this p List.mem_cons_self
      have e1 : asP (pD p) = some p := by show (if -1 ≤ p.1 ∧ p.2 ≠ 0 then some (p.1, p.2) else none) = _; rw [if_pos hp]
      rw [e1, ih fun q hq => this q (List.mem_cons_of_mem _ hq)]
  show (match asPs (s.fs.map pD) with | some ps => rise (ps.map (·.1)) | none => false) = true
  rw [e]
  exact rise_pw.mpr g.up
theorem pd_sum (s : Sm) : pd s.d = true := by
  show (true && (pds (s.fs.map pD) && true)) = true
  rw [pds_pD]; rfl
theorem sz_sum {s : Sm} (h : s.fs.length ≤ 1000) : ∀ x ps, s.d = .tup [x, .tup ps] → ps.length ≤ 1000 := fun x ps e => by
  unfold Sm.d at e
  injection e with e
  injection e with _ e
  injection e with e _
  injection e with e
  rw [← e, List.length_map]; exact h
theorem wsum_bd {v : Int → Int} {b c : Nat} : ∀ {l : List P2}, (∀ p ∈ l, p.2.natAbs ≤ b) → (∀ k, (v k).natAbs ≤ c) → (wsum l v).natAbs ≤ l.length * (b * c)
  | [], _, _ => Nat.zero_le _
  | p :: l, h, hv => by
    rw [wsum_cons, List.length_cons]
    have h1 := natAbs_mul_le (h p List.mem_cons_self) (hv p.1)
    have h2 := wsum_bd (fun q hq => h q (List.mem_cons_of_mem _ hq)) hv
    rw [Nat.add_mul, Nat.one_mul]; omega
theorem w_bd {s : Sm} {v : Int → Int} {b c : Nat} (g : s.good) (h : s.bd b) (hv : ∀ k, (v k).natAbs ≤ c) : (s.w v).natAbs ≤ b + s.fs.length * (b * c) :=
  natAbs_add_le' h.1 (wsum_bd (fun p hp => h.mem g hp) hv)
theorem r_sums_right {T : Tb} (A : FnsA T) (fV : T.fn 25 = some (2, spValues)) {ds : List D} {S : Store} {Q : DQ} (h : spSumsRight ds S Q) : denSs T core__law_sums_right (DD Q) (start0 N__law_sums_right.length ds) S := by
  obtain ⟨b, bx, k, ns, sz, ss, rfl, hb, hk, hk2, hns, hs0, hs1, l1, l2, hss, q⟩ := h
  obtain ⟨s1, s2, sr, rfl⟩ : ∃ s1 s2 sr, ss = s1 :: s2 :: sr := by
    match ss, l1 with
    | [_], h => simp at h
    | a :: b :: r, _ => exact ⟨a, b, r, rfl⟩
  have d1 := hss s1 (by simp)
  have d2 := hss s2 (by simp)
  have n60 : ns.length < 60 := by have := hns.2.2.1; omega
  have n60' : ns.length ≤ 60 := Nat.le_of_lt n60
  have m1 : s1.sml := d1.bd.sml d1.g (k := 60) (by decide) (by decide)
  have m2 : s2.sml := d2.bd.sml d2.g (k := 60) (by decide) (by decide)
  unfold core__law_sums_right
  show denSs T _ (DD Q) [some (.ref b), some (.lst ((s1 :: s2 :: sr).map Sm.d)), some (.lst (ns.map D.int)), some (.int sz), none, none, none, none, none, none, none, none] S
  refine vs_par3 ?_
  have e1 : Ve T [some (.ref b), some (.lst ((s1 :: s2 :: sr).map Sm.d)), some (.lst (ns.map D.int)), some (.int sz), none, none, none, none, none, none, none, none] S (.ix (.slot 1) (.int 0)) s1.d := ve_ixL (ve_slot rfl) atI_0
  have e2 : Ve T [some (.ref b), some (.lst ((s1 :: s2 :: sr).map Sm.d)), some (.lst (ns.map D.int)), some (.int sz), none, none, none, none, none, none, none, none] S (.ix (.slot 1) (.int 1)) s2.d := ve_ixL (ve_slot rfl) atI_1
  refine e1 _ (e2 _ ?_)
  have e3 : ∀ K : DQ, (∀ (f : Int) bx2, f.natAbs ≤ 60000000000000 → Bx.ok bx2 (k + 1) → K (.int f) (sup S b bx2.o)) → (den T (.op false .Mult (.ix (.lst false (.cons (.int 0) (.cons (.int 1) (.cons (.neg (.int 1)) (.cons (.int 4) (.cons (.neg (.int 6)) .nil)))))) (.call 13 (.cons (.slot 0) (.cons (.int 5) .nil)))) (.slot 3))).v
      [some (.ref b), some (.lst ((s1 :: s2 :: sr).map Sm.d)), some (.lst (ns.map D.int)), some (.int sz), none, none, none, none, none, none, none, none] S K := by
    intro K hK
    simp only [denSs, denS, den, dens, denO, denT, denI, DV.of, DV.ofB, sSeq, sRet, sRetN, sNext, sIf, sSet, sSetG, sPar, sPar3, sSetIx, sDrop, sFor, sForKeys, sBreak, sCont, dAnd, dOr, dNot, dAndT, dOrT, dNotT, dUn, dOp, dIte, dVar, dC, dTup, dLst, dNil, dCons, dCall, dCut, dPart, dNoPart, dGet1, dGet2, dApp,
  dSeq1, dRange1, dRange2, dEnum, dZip, dLc, dDc, dChain, fIsi, fBlt, fLen, fAbs, fInt1, fMax, fMin, fL1, fTuple, fList, fSorted, fDict, fBin, fCmp, fNeg, fAdd, fSub, fMul, fMod, fDiv, fPow, fInt, fInt0, fLt, fLe, fGt, fGe, fIs, fIsNot, fInD, fIx, fCut, fSeq, fRange1, fRange2, fEnum, fZip, fSetIx, fGet, fApp, fLenSet, fAug, sAug, tOf, tOfB, guardN, gset, gsets, sFrz, frz_dct, frz_lst, fEq_int, fNe_int, fEq_bl, fNe_bl, fEq_nil, fNe_nil, fEq_ints,
  TyC.name, DL.isNon, start0, List.length_cons, List.length_nil, List.map_cons, List.map_nil, List.cons_append, List.nil_append, List.getElem?_cons_zero, List.getElem?_cons_succ, List.getElem?_nil, List.set_cons_zero, List.set_cons_succ, List.set_nil, List.replicate, Nat.reduceSub, Nat.reduceAdd, mkL, mkD, dwipe, Bool.false_eq_true, if_true, if_false, ite_true, ite_false, true_and, and_true, Option.isSome_some, Option.isSome_none, Option.map_some, Option.map_none, Option.getD_some, Option.getD_none,
  tyD_non, tyD_bl, tyD_int, tyD_str, tyD_tup, tyD_lst, tyD_dct, truD_non, truD_bl, truD_int, truD_tup, truD_lst, truD_dct, asL_non, asD_non, keyD_non, asL_bl, asD_bl, keyD_bl, asL_int, asD_int, keyD_int, asL_str, asD_str, keyD_str, asL_tup, asD_tup, keyD_tup, asL_lst, asD_lst, keyD_lst, asL_dct, asD_dct, keyD_dct, asL_scr, asD_scr, keyD_scr, asL_sup, asD_sup, asL_supD, isLs_sup, tyD_supL, tyD_supD, sup_same, sup_sup, ixN_1_0, ixN_2_0, ixN_2_1, ixN_3_0, ixN_3_1, ixN_3_2, ixN_4_0, ixN_4_1, ixN_4_2, ixN_4_3, ixN_5_0, ixN_5_1, ixN_5_2, ixN_5_3, ixN_5_4, ixN_6_0, ixN_6_1, ixN_6_2, ixN_6_3, ixN_6_4, ixN_6_5, ixN_7_0, ixN_7_1, ixN_7_2, ixN_7_3, ixN_7_4, ixN_7_5, ixN_7_6, ixN_8_0, ixN_8_1, ixN_8_2, ixN_8_3, ixN_8_4, ixN_8_5, ixN_8_6, ixN_8_7, atI_0, atI_1, atI_2, atI_3, atI_4, atI_5, atI_6, atI_7, atI_8, isi_NoneType_bool, isi_NoneType_int, isi_NoneType_str, isi_NoneType_tuple, isi_NoneType_list, isi_NoneType_dict, isi_bool_bool, isi_bool_int, isi_bool_str, isi_bool_tuple, isi_bool_list, isi_bool_dict, isi_int_bool, isi_int_int, isi_int_str, isi_int_tuple, isi_int_list, isi_int_dict, isi_str_bool, isi_str_int, isi_str_str, isi_str_tuple, isi_str_list, isi_str_dict, isi_tuple_bool, isi_tuple_int, isi_tuple_str, isi_tuple_tuple, isi_tuple_list, isi_tuple_dict, isi_list_bool, isi_list_int, isi_list_str, isi_list_tuple, isi_list_list, isi_list_dict, isi_dict_bool, isi_dict_int, isi_dict_str, isi_dict_tuple, isi_dict_list, isi_dict_dict, A.f13]
    refine ⟨by decide, b, 5, k, bx, rfl, by decide, by decide, hb, hk, by omega, fun r bx2 r0 r1 hb2 => ?_⟩
    obtain ⟨v, hv, ev⟩ := atI_lit [0, 1, -1, 4, -6] r0 r1
    simp only [List.map_cons, List.map_nil] at ev
    have hv5 : v.natAbs ≤ 6 := by
      simp only [List.mem_cons, List.not_mem_nil, or_false] at hv; omega
    simp only [denSs, denS, den, dens, denO, denT, denI, DV.of, DV.ofB, sSeq, sRet, sRetN, sNext, sIf, sSet, sSetG, sPar, sPar3, sSetIx, sDrop, sFor, sForKeys, sBreak, sCont, dAnd, dOr, dNot, dAndT, dOrT, dNotT, dUn, dOp, dIte, dVar, dC, dTup, dLst, dNil, dCons, dCall, dCut, dPart, dNoPart, dGet1, dGet2, dApp,
  dSeq1, dRange1, dRange2, dEnum, dZip, dLc, dDc, dChain, fIsi, fBlt, fLen, fAbs, fInt1, fMax, fMin, fL1, fTuple, fList, fSorted, fDict, fBin, fCmp, fNeg, fAdd, fSub, fMul, fMod, fDiv, fPow, fInt, fInt0, fLt, fLe, fGt, fGe, fIs, fIsNot, fInD, fIx, fCut, fSeq, fRange1, fRange2, fEnum, fZip, fSetIx, fGet, fApp, fLenSet, fAug, sAug, tOf, tOfB, guardN, gset, gsets, sFrz, frz_dct, frz_lst, fEq_int, fNe_int, fEq_bl, fNe_bl, fEq_nil, fNe_nil, fEq_ints,
  TyC.name, DL.isNon, start0, List.length_cons, List.length_nil, List.map_cons, List.map_nil, List.cons_append, List.nil_append, List.getElem?_cons_zero, List.getElem?_cons_succ, List.getElem?_nil, List.set_cons_zero, List.set_cons_succ, List.set_nil, List.replicate, Nat.reduceSub, Nat.reduceAdd, mkL, mkD, dwipe, Bool.false_eq_true, if_true, if_false, ite_true, ite_false, true_and, and_true, Option.isSome_some, Option.isSome_none, Option.map_some, Option.map_none, Option.getD_some, Option.getD_none,
  tyD_non, tyD_bl, tyD_int, tyD_str, tyD_tup, tyD_lst, tyD_dct, truD_non, truD_bl, truD_int, truD_tup, truD_lst, truD_dct, asL_non, asD_non, keyD_non, asL_bl, asD_bl, keyD_bl, asL_int, asD_int, keyD_int, asL_str, asD_str, keyD_str, asL_tup, asD_tup, keyD_tup, asL_lst, asD_lst, keyD_lst, asL_dct, asD_dct, keyD_dct, asL_scr, asD_scr, keyD_scr, asL_sup, asD_sup, asL_supD, isLs_sup, tyD_supL, tyD_supD, sup_same, sup_sup, ixN_1_0, ixN_2_0, ixN_2_1, ixN_3_0, ixN_3_1, ixN_3_2, ixN_4_0, ixN_4_1, ixN_4_2, ixN_4_3, ixN_5_0, ixN_5_1, ixN_5_2, ixN_5_3, ixN_5_4, ixN_6_0, ixN_6_1, ixN_6_2, ixN_6_3, ixN_6_4, ixN_6_5, ixN_7_0, ixN_7_1, ixN_7_2, ixN_7_3, ixN_7_4, ixN_7_5, ixN_7_6, ixN_8_0, ixN_8_1, ixN_8_2, ixN_8_3, ixN_8_4, ixN_8_5, ixN_8_6, ixN_8_7, atI_0, atI_1, atI_2, atI_3, atI_4, atI_5, atI_6, atI_7, atI_8, isi_NoneType_bool, isi_NoneType_int, isi_NoneType_str, isi_NoneType_tuple, isi_NoneType_list, isi_NoneType_dict, isi_bool_bool, isi_bool_int, isi_bool_str, isi_bool_tuple, isi_bool_list, isi_bool_dict, isi_int_bool, isi_int_int, isi_int_str, isi_int_tuple, isi_int_list, isi_int_dict, isi_str_bool, isi_str_int, isi_str_str, isi_str_tuple, isi_str_list, isi_str_dict, isi_tuple_bool, isi_tuple_int, isi_tuple_str, isi_tuple_tuple, isi_tuple_list, isi_tuple_dict, isi_list_bool, isi_list_int, isi_list_str, isi_list_tuple, isi_list_list, isi_list_dict, isi_dict_bool, isi_dict_int, isi_dict_str, isi_dict_tuple, isi_dict_list, isi_dict_dict, ev]
    refine ⟨cmulW (.of (by omega) (by omega)) (.of (by omega) (by omega)), hK _ _ ?_ hb2⟩
    have : (v * sz).natAbs ≤ 6 * 10000000000000 := natAbs_mul_le hv5 (by omega)
    omega
  refine e3 _ fun f bx2 hf hb2 => ?_
  have hfs : Sml f := .of (by omega) (by omega)
  refine vs_setE (call_run fV (vs_cons (ve_slot rfl) (vs_cons (ve_slot rfl) vs_nil)) rfl ?_)
  refine ⟨b, bx2, k + 1, ns, rfl, sup_same, hb2, by omega, hns, fun vl bx3 hvl hb3 => ?_⟩
  rw [sup_sup]
  have hv : ValOk ns vl := ⟨fun k hk => by rw [hvl.ks]; exact hk, fun k _ => .bits (hvl.bd k) (k := 70) (by decide) (by decide)⟩
  generalize hS1 : sup S b bx3.o = S1
  have q1 : Q (.bl true) S1 := by rw [← hS1]; exact q bx3 (hb3.mono (by omega))
  show denSs T _ (DD Q) [some (.ref b), some (.lst ((s1 :: s2 :: sr).map Sm.d)), some (.lst (ns.map D.int)), some (.int sz), some s1.d, some s2.d, some (.int f), some (.dct (kvD vl)), none, none, none, none] S1
  have zg := zero_good
  have zs : Sm.sub ⟨0, []⟩ ns := nil_sub 0 ns
  refine vs_set (ve_lst (vs_cons (ve_added A (ve_slot rfl) (ve_slot rfl) d1.g d2.g n60 d1.sub d2.sub) (vs_cons (ve_without A (ve_slot rfl) (ve_slot rfl) d1.g d2.g n60 d1.sub d2.sub m2) (vs_cons (ve_times A (ve_slot rfl) (ve_slot rfl) d1.g n60 d1.sub hfs m1)
    (vs_cons (ve_addedK A (ve_slot rfl) (ve_slot rfl) d1.g d2.g n60 d1.sub d2.sub) (vs_cons (ve_timesK A (ve_slot rfl) (ve_slot rfl) d2.g n60 d2.sub hfs m2) vs_nil))))) rfl) ?_
  have zz : ∀ sd, Ve T sd S1 (.tup (.cons (.int 0) (.cons (.tup .nil) .nil))) (Sm.d ⟨0, []⟩) := fun sd => ve_tup (vs_cons ve_int (vs_cons (ve_tup vs_nil rfl) vs_nil)) rfl
  refine vs_set (ve_lst (vs_cons (ve_plus A (ve_slot rfl) (ve_slot rfl) ve_int d1.g d2.g n60 d1.sub d2.sub (.of (by decide) (by decide)) m2) (vs_cons (ve_plus A (ve_slot rfl) (ve_slot rfl) ve_neg d1.g d2.g n60 d1.sub d2.sub (.of (by decide) (by decide)) m2)
    (vs_cons (ve_plus A (zz _) (ve_slot rfl) (ve_slot rfl) zg d1.g n60 zs d1.sub hfs m1) (vs_cons (ve_plus A (ve_slot rfl) (ve_slot rfl) ve_int d1.g d2.g n60 d1.sub d2.sub (.of (by decide) (by decide)) m2) (vs_cons (ve_plus A (zz _) (ve_slot rfl) (ve_slot rfl) zg d2.g n60 zs d2.sub hfs m2) vs_nil))))) rfl) ?_
  rw [← tms_eq d1.g, ← tms_eq d2.g]
  have p1 : (plus s1 s2 1).good := plus_good d1.g d2.g
  have p2 : (plus s1 s2 (-1)).good := plus_good d1.g d2.g
  have p3 : (tms f s1).good := tms_good d1.g
  have p4 : (tms f s2).good := tms_good d2.g
  have u1 : (plus s1 s2 1).sub ns := plus_sub d1.sub d2.sub
  have u2 : (plus s1 s2 (-1)).sub ns := plus_sub d1.sub d2.sub
  have u3 : (tms f s1).sub ns := tms_sub d1.sub
  have u4 : (tms f s2).sub ns := tms_sub d2.sub
  have g1 : (plus s1 s2 1).sml := (plus_bd (z := 1) d2.g d1.bd d2.bd (by decide)).sml p1 (k := 60) (by decide) (by decide)
  have g2 : (plus s1 s2 (-1)).sml := (plus_bd (z := 1) d2.g d1.bd d2.bd (by decide)).sml p2 (k := 60) (by decide) (by decide)
  have g3 : (tms f s1).sml := (tms_bd d1.bd hf).sml p3 (k := 110) (by decide) (by decide)
  have sm : ∀ s : Sm, s.good → s.sub ns → ∀ n, Stn S1 (n + 3) s.d s.t := fun s g h n => stn_sum (fs_len g h n60')
  refine vs_ifsF (fun K hK => ?_) ?_
  · have five : ∀ x ∈ [(plus s1 s2 1).d, (plus s1 s2 (-1)).d, (tms f s1).d, (plus s1 s2 1).d, (tms f s2).d], ∃ s : Sm, x = s.d ∧ s.good ∧ s.sub ns := by
      intro x hx
      simp only [List.mem_cons, List.not_mem_nil, or_false] at hx
      rcases hx with rfl | rfl | rfl | rfl | rfl
      · exact ⟨_, rfl, p1, u1⟩
      · exact ⟨_, rfl, p2, u2⟩
      · exact ⟨_, rfl, p3, u3⟩
      · exact ⟨_, rfl, p1, u1⟩
      · exact ⟨_, rfl, p4, u4⟩
    simp only [denSs, denS, den, dens, denO, denT, denI, DV.of, DV.ofB, sSeq, sRet, sRetN, sNext, sIf, sSet, sSetG, sPar, sPar3, sSetIx, sDrop, sFor, sForKeys, sBreak, sCont, dAnd, dOr, dNot, dAndT, dOrT, dNotT, dUn, dOp, dIte, dVar, dC, dTup, dLst, dNil, dCons, dCall, dCut, dPart, dNoPart, dGet1, dGet2, dApp,
  dSeq1, dRange1, dRange2, dEnum, dZip, dLc, dDc, dChain, fIsi, fBlt, fLen, fAbs, fInt1, fMax, fMin, fL1, fTuple, fList, fSorted, fDict, fBin, fCmp, fNeg, fAdd, fSub, fMul, fMod, fDiv, fPow, fInt, fInt0, fLt, fLe, fGt, fGe, fIs, fIsNot, fInD, fIx, fCut, fSeq, fRange1, fRange2, fEnum, fZip, fSetIx, fGet, fApp, fLenSet, fAug, sAug, tOf, tOfB, guardN, gset, gsets, sFrz, frz_dct, frz_lst, fEq_int, fNe_int, fEq_bl, fNe_bl, fEq_nil, fNe_nil, fEq_ints,
  TyC.name, DL.isNon, start0, List.length_cons, List.length_nil, List.map_cons, List.map_nil, List.cons_append, List.nil_append, List.getElem?_cons_zero, List.getElem?_cons_succ, List.getElem?_nil, List.set_cons_zero, List.set_cons_succ, List.set_nil, List.replicate, Nat.reduceSub, Nat.reduceAdd, mkL, mkD, dwipe, Bool.false_eq_true, if_true, if_false, ite_true, ite_false, true_and, and_true, Option.isSome_some, Option.isSome_none, Option.map_some, Option.map_none, Option.getD_some, Option.getD_none,
  tyD_non, tyD_bl, tyD_int, tyD_str, tyD_tup, tyD_lst, tyD_dct, truD_non, truD_bl, truD_int, truD_tup, truD_lst, truD_dct, asL_non, asD_non, keyD_non, asL_bl, asD_bl, keyD_bl, asL_int, asD_int, keyD_int, asL_str, asD_str, keyD_str, asL_tup, asD_tup, keyD_tup, asL_lst, asD_lst, keyD_lst, asL_dct, asD_dct, keyD_dct, asL_scr, asD_scr, keyD_scr, asL_sup, asD_sup, asL_supD, isLs_sup, tyD_supL, tyD_supD, sup_same, sup_sup, ixN_1_0, ixN_2_0, ixN_2_1, ixN_3_0, ixN_3_1, ixN_3_2, ixN_4_0, ixN_4_1, ixN_4_2, ixN_4_3, ixN_5_0, ixN_5_1, ixN_5_2, ixN_5_3, ixN_5_4, ixN_6_0, ixN_6_1, ixN_6_2, ixN_6_3, ixN_6_4, ixN_6_5, ixN_7_0, ixN_7_1, ixN_7_2, ixN_7_3, ixN_7_4, ixN_7_5, ixN_7_6, ixN_8_0, ixN_8_1, ixN_8_2, ixN_8_3, ixN_8_4, ixN_8_5, ixN_8_6, ixN_8_7, atI_0, atI_1, atI_2, atI_3, atI_4, atI_5, atI_6, atI_7, atI_8, isi_NoneType_bool, isi_NoneType_int, isi_NoneType_str, isi_NoneType_tuple, isi_NoneType_list, isi_NoneType_dict, isi_bool_bool, isi_bool_int, isi_bool_str, isi_bool_tuple, isi_bool_list, isi_bool_dict, isi_int_bool, isi_int_int, isi_int_str, isi_int_tuple, isi_int_list, isi_int_dict, isi_str_bool, isi_str_int, isi_str_str, isi_str_tuple, isi_str_list, isi_str_dict, isi_tuple_bool, isi_tuple_int, isi_tuple_str, isi_tuple_tuple, isi_tuple_list, isi_tuple_dict, isi_list_bool, isi_list_int, isi_list_str, isi_list_tuple, isi_list_list, isi_list_dict, isi_dict_bool, isi_dict_int, isi_dict_str, isi_dict_tuple, isi_dict_list, isi_dict_dict, A.f15, A.f2]
    refine ⟨_, _, .lst [(plus s1 s2 1).t, (plus s1 s2 (-1)).t, (tms f s1).t, (plus s1 s2 1).t, (tms f s2).t], rfl, stn_lst rfl rfl ?_, stn_lst rfl rfl ?_, ?_⟩
    · intro p hp
      simp only [List.zip_cons_cons, List.zip_nil_right, List.mem_cons, List.not_mem_nil, or_false] at hp
      rcases hp with rfl | rfl | rfl | rfl | rfl
      · exact sm _ p1 u1 4
      · exact sm _ p2 u2 4
      · exact sm _ p3 u3 4
      · exact sm _ p1 u1 4
      · exact sm _ p4 u4 4
    · intro p hp
      simp only [List.zip_cons_cons, List.zip_nil_right, List.mem_cons, List.not_mem_nil, or_false] at hp
      rcases hp with rfl | rfl | rfl | rfl | rfl
      · exact sm _ p1 u1 4
      · exact sm _ p2 u2 4
      · exact sm _ p3 u3 4
      · exact sm _ p1 u1 4
      · exact sm _ p4 u4 4
    simp only [denSs, denS, den, dens, denO, denT, denI, DV.of, DV.ofB, sSeq, sRet, sRetN, sNext, sIf, sSet, sSetG, sPar, sPar3, sSetIx, sDrop, sFor, sForKeys, sBreak, sCont, dAnd, dOr, dNot, dAndT, dOrT, dNotT, dUn, dOp, dIte, dVar, dC, dTup, dLst, dNil, dCons, dCall, dCut, dPart, dNoPart, dGet1, dGet2, dApp,
  dSeq1, dRange1, dRange2, dEnum, dZip, dLc, dDc, dChain, fIsi, fBlt, fLen, fAbs, fInt1, fMax, fMin, fL1, fTuple, fList, fSorted, fDict, fBin, fCmp, fNeg, fAdd, fSub, fMul, fMod, fDiv, fPow, fInt, fInt0, fLt, fLe, fGt, fGe, fIs, fIsNot, fInD, fIx, fCut, fSeq, fRange1, fRange2, fEnum, fZip, fSetIx, fGet, fApp, fLenSet, fAug, sAug, tOf, tOfB, guardN, gset, gsets, sFrz, frz_dct, frz_lst, fEq_int, fNe_int, fEq_bl, fNe_bl, fEq_nil, fNe_nil, fEq_ints,
  TyC.name, DL.isNon, start0, List.length_cons, List.length_nil, List.map_cons, List.map_nil, List.cons_append, List.nil_append, List.getElem?_cons_zero, List.getElem?_cons_succ, List.getElem?_nil, List.set_cons_zero, List.set_cons_succ, List.set_nil, List.replicate, Nat.reduceSub, Nat.reduceAdd, mkL, mkD, dwipe, Bool.false_eq_true, if_true, if_false, ite_true, ite_false, true_and, and_true, Option.isSome_some, Option.isSome_none, Option.map_some, Option.map_none, Option.getD_some, Option.getD_none,
  tyD_non, tyD_bl, tyD_int, tyD_str, tyD_tup, tyD_lst, tyD_dct, truD_non, truD_bl, truD_int, truD_tup, truD_lst, truD_dct, asL_non, asD_non, keyD_non, asL_bl, asD_bl, keyD_bl, asL_int, asD_int, keyD_int, asL_str, asD_str, keyD_str, asL_tup, asD_tup, keyD_tup, asL_lst, asD_lst, keyD_lst, asL_dct, asD_dct, keyD_dct, asL_scr, asD_scr, keyD_scr, asL_sup, asD_sup, asL_supD, isLs_sup, tyD_supL, tyD_supD, sup_same, sup_sup, ixN_1_0, ixN_2_0, ixN_2_1, ixN_3_0, ixN_3_1, ixN_3_2, ixN_4_0, ixN_4_1, ixN_4_2, ixN_4_3, ixN_5_0, ixN_5_1, ixN_5_2, ixN_5_3, ixN_5_4, ixN_6_0, ixN_6_1, ixN_6_2, ixN_6_3, ixN_6_4, ixN_6_5, ixN_7_0, ixN_7_1, ixN_7_2, ixN_7_3, ixN_7_4, ixN_7_5, ixN_7_6, ixN_8_0, ixN_8_1, ixN_8_2, ixN_8_3, ixN_8_4, ixN_8_5, ixN_8_6, ixN_8_7, atI_0, atI_1, atI_2, atI_3, atI_4, atI_5, atI_6, atI_7, atI_8, isi_NoneType_bool, isi_NoneType_int, isi_NoneType_str, isi_NoneType_tuple, isi_NoneType_list, isi_NoneType_dict, isi_bool_bool, isi_bool_int, isi_bool_str, isi_bool_tuple, isi_bool_list, isi_bool_dict, isi_int_bool, isi_int_int, isi_int_str, isi_int_tuple, isi_int_list, isi_int_dict, isi_str_bool, isi_str_int, isi_str_str, isi_str_tuple, isi_str_list, isi_str_dict, isi_tuple_bool, isi_tuple_int, isi_tuple_str, isi_tuple_tuple, isi_tuple_list, isi_tuple_dict, isi_list_bool, isi_list_int, isi_list_str, isi_list_tuple, isi_list_list, isi_list_dict, isi_dict_bool, isi_dict_int, isi_dict_str, isi_dict_tuple, isi_dict_list, isi_dict_dict, Bool.not_true]
    refine lcL_pure (p := fun _ => false) (f := fun d => d) trivial _ _ (fun x hx => ?_) ?_
    · obtain ⟨s, rfl, sg, ssub⟩ := five x hx
      refine ⟨_, rfl, fun Q' q' => ?_, fun z => (by cases z)⟩
      refine (show guardN 1 spSum [s.d] S1 (fun r S2 => fIsNot r (.bl true) S2 (fun z S3 => match z with | .bl k => Q' k S3 | _ => False)) from ⟨rfl, s.d, rfl, pd_sum s, sz_sum (fs_len sg ssub n60'), ?_⟩)
      rw [isSum_good sg]
      exact q'
    · have e : ([(plus s1 s2 1).d, (plus s1 s2 (-1)).d, (tms f s1).d, (plus s1 s2 1).d, (tms f s2).d] : List D).filter (fun _ => false) = [] := by
        rw [List.filter_eq_nil_iff]; intro a _ z; cases z
      rw [e]
      refine ⟨by decide, ?_⟩
      rw [List.map_nil, List.append_nil, fNe_nil]
      exact hK
  · have vb : ∀ k, (get vl k).natAbs ≤ cV := hvl.bd
    have w1 : Sml (s1.w (get vl)) := by
      have h1 := w_bd d1.g d1.bd vb
      have h2 := nodup_len d1.g.nd d1.sub
      have h3 : (keys s1.fs).length = s1.fs.length := List.length_map _
      have h4 := hns.2.2.1
      have h5 : s1.fs.length * (cB * cV) ≤ 5 * (cB * cV) := Nat.mul_le_mul_right _ (by omega)
      exact .bits (Nat.le_trans h1 (Nat.add_le_add_left h5 _)) (k := 130) (by decide) (by decide)
    refine vs_set (ve_lst (vs_cons (ve_lworth A (ve_slot rfl) (ve_slot rfl) d1.sub m1 hv) (vs_cons (ve_lworth A (ve_slot rfl) (ve_slot rfl) d2.sub m2 hv) vs_nil)) rfl) ?_
    refine vs_set (ve_lst (vs_cons (ve_worth A (ve_slot rfl) (ve_slot rfl) d1.sub m1 hv) (vs_cons (ve_worthK A (ve_ixL (ve_slot rfl) atI_0) (ve_slot rfl) u1 g1 hv) (vs_cons (ve_worth A (ve_ixL (ve_slot rfl) atI_1) (ve_slot rfl) u2 g2 hv) (vs_cons (ve_worth A (ve_ixL (ve_slot rfl) atI_2) (ve_slot rfl) u3 g3 hv) vs_nil)))) rfl) ?_
    refine vs_retE (call_run A.f15 (vs_cons (ve_slot rfl) (vs_cons (ve_lst (vs_cons (ve_ixL (ve_slot rfl) atI_0) (vs_cons (ve_addI (ve_ixL (ve_slot rfl) atI_0) (ve_ixL (ve_slot rfl) atI_1)) (vs_cons (ve_subI (ve_ixL (ve_slot rfl) atI_0) (ve_ixL (ve_slot rfl) atI_1)) (vs_cons (ve_mulI (ve_slot rfl) (ve_ixL (ve_slot rfl) atI_0) (cmulW hfs w1)) vs_nil)))) rfl) vs_nil)) rfl ?_)
    have x1 : (plus s1 s2 1).w (get vl) = s1.w (get vl) + s2.w (get vl) := by rw [plus_w d1.g]; omega
    have x2 : (plus s1 s2 (-1)).w (get vl) = s1.w (get vl) - s2.w (get vl) := by rw [plus_w d1.g]; omega
    have x3 : (tms f s1).w (get vl) = f * s1.w (get vl) := by
      rw [tms_eq d1.g, plus_w zero_good]
      show 0 + wsum [] (get vl) + _ = _
      rw [wsum_nil]; omega
    rw [x1, x2, x3]
    refine ⟨_, _, .lst [.int (s1.w (get vl)), .int (s1.w (get vl) + s2.w (get vl)), .int (s1.w (get vl) - s2.w (get vl)), .int (f * s1.w (get vl))], rfl, stn_lst rfl rfl ?_, stn_lst rfl rfl ?_, .of q1⟩
    · intro p hp
      simp only [List.zip_cons_cons, List.zip_nil_right, List.mem_cons, List.not_mem_nil, or_false] at hp
      rcases hp with rfl | rfl | rfl | rfl <;> exact .int _ _
    · intro p hp
      simp only [List.zip_cons_cons, List.zip_nil_right, List.mem_cons, List.not_mem_nil, or_false] at hp
      rcases hp with rfl | rfl | rfl | rfl <;> exact .int _ _
end K00
set_option Elab.async false
set_option linter.all false
set_option maxRecDepth 100000
set_option maxHeartbeats 1000000
namespace DL
open PySem L2
section
variable {T : Tb} {sd : Slots} {S : Store} {Dd : DEnds} {r : CSs}
theorem vs_forL {g : CG} {e : CE} {b : CSs} {xs : List D} (hs : Ve T sd S e (.lst xs)) (h : forL (fun _ => True) g (denSs T b) { Dd with nx := fun sd' S' => denSs T r Dd sd' S' } xs sd S) : denSs T (.cons (.for_ g (.seq e) b) r) Dd sd S := hs _ h
theorem vs_frz {i : Nat} {a : Addr} {d : D} (h1 : sd[i]? = some (some (.ref a))) (h2 : frzD S a = some d) (h : denSs T r Dd (sd.set i (some d)) (sdel S a)) : denSs T (.frz i r) Dd sd S := by
  show (match sd[i]? with | some (some (.ref a)) => (match frzD S a with | some d => denSs T r Dd (sd.set i (some d)) (sdel S a) | none => False) | _ => False)
  rw [h1]
  show (match frzD S a with | some d => denSs T r Dd (sd.set i (some d)) (sdel S a) | none => False)
  rw [h2]; exact h
theorem vs_keys {g : CG} {i : Nat} {b : CSs} {kvs : List (Key × D)} (h1 : sd[i]? = some (some (.dct kvs))) (h : forL (fun _ => True) g (denSs T b) { Dd with nx := fun sd' S' => denSs T r Dd sd' S' } (kvs.map fun kv => keyDat kv.1) sd S) : denSs T (.cons (.forkeys g i b) r) Dd sd S := by
  show (match sd[i]? with | some (some (.dct kvs)) => forL (fun _ => True) g (denSs T b) { Dd with nx := fun sd' S' => denSs T r Dd sd' S' } (kvs.map fun kv => keyDat kv.1) sd S | _ => False)
  rw [h1]; exact h
theorem vs_dict0 {i : Nat} (h : ∀ p, S p = none → denSs T r Dd (sd.set i (some (.ref p))) (sup S p (.dct []))) : denSs T (.cons (.set i (.dict0 true)) r) Dd sd S := fun p hp => h p hp
theorem ve_dictD {a : CE} {kvs : List (Key × D)} (ha : Ve T sd S a (.dct kvs)) : Ve T sd S (.blt false .dict (.cons a .nil)) (.dct kvs) := fun Q q => ha _ q
theorem ve_sitems {a : CE} {kvs : List (Key × D)} {ks : List Int} (ha : Ve T sd S a (.dct kvs)) (hk : intKeys kvs = some ks) (hn : ks.Nodup) (hl : ks.length < 64) (hr : kvs.all (fun kv => refD kv.2) = true) :
    Ve T sd S (.sitems false a) (.lst ((isort ks).map fun k => .tup [.int k, (dget kvs (.inl k)).getD .non])) := fun Q q => ha _ (by
  show (match intKeys kvs with | some ks => _ | none => False)
  rw [hk]
  exact ⟨rfl, hn, hl, hr, q⟩)
theorem t_orNN {i j : Nat} {es fs : CEs} {K : Bool → Store → Prop} (h1 : Ve T sd S (.call i es) (.bl true)) (h2 : Ve T sd S (.call j fs) (.bl true)) (hK : K false S) : (den T (.or (.not (.call i es)) (.last (.not (.call j fs))))).t sd S K := h1 _ (h2 _ hK)
theorem vs_dictC {i : Nat} {a : CE} {kvs : List (Key × D)} (ha : Ve T sd S a (.dct kvs)) (h : ∀ p, S p = none → denSs T r Dd (sd.set i (some (.ref p))) (sup S p (.dct kvs))) : denSs T (.cons (.set i (.blt true .dict (.cons a .nil))) r) Dd sd S := ha _ fun p hp => h p hp
theorem dput_new {kvs : List (Key × D)} {k : Key} {v : D} (h : k ∉ kvs.map (·.1)) : dput kvs k v = kvs ++ [(k, v)] := by
  unfold dput
  rw [if_neg]
  intro z
  obtain ⟨p, hp, e⟩ := List.any_eq_true.mp z
  rw [decide_eq_true_eq] at e
  exact h (by rw [← e]; exact List.mem_map_of_mem (f := (·.1)) hp)
end
end DL
namespace K00
open PySem L2 DL
/-! ### what is meant -/
def mk1 (ms : List (Int × Sm)) : List Int := ms.map (·.1)
theorem mn_keys (ms : List (Int × Sm)) : (mnD ms).map (·.1) = (mk1 ms).map Sum.inl := by unfold mnD mk1; rw [List.map_map, List.map_map]; rfl
theorem mn_ints : ∀ ms : List (Int × Sm), intKeys (mnD ms) = some (mk1 ms)
  | [] => rfl
  | p :: l => by
    show (intKeys (mnD l)).map (p.1 :: ·) = _
    rw [mn_ints l]; rfl
theorem mn_put {ms : List (Int × Sm)} {k : Int} {s : Sm} (h : k ∉ mk1 ms) : dput (mnD ms) (.inl k) s.d = mnD (ms ++ [(k, s)]) := by
  rw [dput_new]
  · unfold mnD; rw [List.map_append]; rfl
  · rw [mn_keys]
    intro z
    obtain ⟨i, hi, e⟩ := List.mem_map.mp z
    rw [Sum.inl.inj e] at hi
    exact h hi
theorem mean_in : ∀ {ms : List (Int × Sm)} {k : Int}, k ∈ mk1 ms → dget (mnD ms) (.inl k) = some (mean ms k).d ∧ (k, mean ms k) ∈ ms
  | [], k, h => by cases h
  | p :: ms, k, h => by
    unfold dget mnD mean
    rw [List.map_cons]
    by_cases e : p.1 = k
    · rw [List.find?_cons_of_pos (by rw [inl_eq]; simpa using e), List.find?_cons_of_pos (by simpa using e)]
      refine ⟨rfl, ?_⟩
      rw [← e]; exact List.mem_cons_self
    · have hk : k ∈ mk1 ms := (List.mem_cons.mp (show k ∈ p.1 :: mk1 ms from h)).elim (fun z => absurd z.symm e) id
      obtain ⟨h1, h2⟩ := mean_in hk
      rw [List.find?_cons_of_neg (by rw [inl_eq]; simpa using e), List.find?_cons_of_neg (by simpa using e)]
      exact ⟨h1, List.mem_cons_of_mem _ h2⟩
theorem mean_out : ∀ {ms : List (Int × Sm)} {k : Int}, k ∉ mk1 ms → mean ms k = one k
  | [], k, h => rfl
  | p :: ms, k, h => by
    have h : k ∉ p.1 :: mk1 ms := h
    rw [List.mem_cons, not_or] at h
    unfold mean
    rw [List.find?_cons_of_neg (by simpa using Ne.symm h.1)]
    exact mean_out h.2
theorem one_drawn {ns : List Int} {k : Int} (hn : Names ns) (hk : k ∈ ns) : Drawn ns (one k) := by
  refine ⟨⟨by show [k].Pairwise _; simp, fun p hp => ?_⟩, fun x hx => ?_, by show (0 : Int).natAbs ≤ cB; decide, fun x => ?_⟩
  · rw [List.mem_singleton.mp hp]; exact ⟨hn.2.2.2 k hk, show (1 : Int) ≠ 0 by decide⟩
  · have hx : x ∈ [k] := hx
    rw [List.mem_singleton.mp hx]; exact hk
  · show (get [(k, 1)] x).natAbs ≤ cB
    rw [get_cons, get_nil]
    split
    · show (1 : Int).natAbs ≤ cB; decide
    · show (0 : Int).natAbs ≤ cB; decide
structure Means (ns : List Int) (ms : List (Int × Sm)) : Prop where
  nd : (mk1 ms).Nodup
  sub : ∀ k ∈ mk1 ms, k ∈ ns
  dr : ∀ q ∈ ms, Drawn ns q.2
theorem Means.at_ {ns : List Int} {ms : List (Int × Sm)} (h : Means ns ms) (hn : Names ns) {k : Int} (hk : k ∈ ns) : Drawn ns (mean ms k) := by
  by_cases e : k ∈ mk1 ms
  · exact h.dr _ (mean_in e).2
  · rw [mean_out e]; exact one_drawn hn hk
theorem cB_lt : cB < 2 ^ 60 := by decide
theorem Drawn.sml {ns : List Int} {s : Sm} (h : Drawn ns s) : s.sml := h.bd.sml h.g cB_lt (by decide)
theorem swp_sub {means : Int → Sm} {ns : List Int} : ∀ {ps : List P2} {acc : Sm}, (∀ p ∈ ps, (means p.1).sub ns) → acc.sub ns → (swp means ps acc).sub ns
  | [], _, _, h => h
  | p :: ps, acc, hm, h => swp_sub (ps := ps) (fun q hq => hm q (List.mem_cons_of_mem _ hq)) (plus_sub h (hm p List.mem_cons_self))
theorem swp_bd {means : Int → Sm} {x y z : Nat} : ∀ {ps : List P2} {acc : Sm}, (∀ p ∈ ps, (means p.1).good ∧ (means p.1).bd y ∧ p.2.natAbs ≤ z) → acc.bd x → (swp means ps acc).bd (x + ps.length * (z * y))
  | [], _, _, h => by rw [List.length_nil, Nat.zero_mul]; exact h
  | p :: ps, acc, hm, h => by
    obtain ⟨h1, h2, h3⟩ := hm p List.mem_cons_self
    have := swp_bd (ps := ps) (fun q hq => hm q (List.mem_cons_of_mem _ hq)) (plus_bd h1 h h2 h3)
    rw [List.length_cons, Nat.add_mul, Nat.one_mul]
    rw [show x + (ps.length * (z * y) + z * y) = x + z * y + ps.length * (z * y) by omega]
    exact this
def spSwaps : DSp := fun ds S Q => ∃ (b : Addr) (bx : Bx) (k : Nat) (ns : List Int) (ss : List Sm), ds = [.ref b, .lst (ss.map Sm.d), .lst (ns.map D.int)] ∧ S b = some (Bx.o bx) ∧ bx.ok k ∧ k < 800000 ∧ Names ns ∧ 1 ≤ ss.length ∧ ss.length ≤ 10 ∧ (∀ s ∈ ss, Drawn ns s) ∧
  ∀ bx', Bx.ok bx' (k + 26) → Q (.bl true) (sup S b bx'.o)
theorem atI_any {xs : List D} {r : Int} (h0 : 0 ≤ r) (h1 : r < xs.length) : ∃ d ∈ xs, atI xs r = some d := ⟨_, List.getElem_mem _, atI_pos h0 h1⟩
theorem r_swaps {T : Tb} (A : FnsA T) (fV : T.fn 25 = some (2, spValues)) {ds : List D} {S : Store} {Q : DQ} (h : spSwaps ds S Q) : denSs T core__law_swaps_right (DD Q) (start0 N__law_swaps_right.length ds) S := by
  obtain ⟨b, bx, k, ns, ss, rfl, hb, hk, hk2, hns, l1, l2, hss, q⟩ := h
  have n60 : ns.length < 60 := by have := hns.2.2.1; omega
  have hsz : (64 : Nat) < sizeLine := by decide
  obtain ⟨s0, sr, rfl⟩ : ∃ s0 sr, ss = s0 :: sr := by
    match ss, l1 with
    | a :: r, _ => exact ⟨a, r, rfl⟩
  have d0 := hss s0 List.mem_cons_self
  unfold core__law_swaps_right
  show denSs T _ (DD Q) [some (.ref b), some (.lst ((s0 :: sr).map Sm.d)), some (.lst (ns.map D.int)), none, none, none, none, none, none] S
  refine vs_dict0 fun p hp => ?_
  have npb : b ≠ p := by rintro rfl; rw [hp] at hb; cases hb
  show denSs T _ (DD Q) [some (.ref b), some (.lst ((s0 :: sr).map Sm.d)), some (.lst (ns.map D.int)), some (.ref p), none, none, none, none, none] (sup S p (.dct []))
  refine vs_forL (xs := ns.map D.int) (ve_slot rfl) ?_
  refine forL_ind (fun xs sd S' => ∃ ks ms o4 bx' j, xs = ks.map D.int ∧ sd = [some (.ref b), some (.lst ((s0 :: sr).map Sm.d)), some (.lst (ns.map D.int)), some (.ref p), o4, none, none, none, none] ∧ S' p = some (.dct (mnD ms)) ∧ S' b = some (Bx.o bx') ∧ (∀ a, a ≠ p → a ≠ b → S' a = S a) ∧ bx'.ok (k + j) ∧ j + 4 * ks.length ≤ 20 ∧
    Means ns ms ∧ ks.Nodup ∧ (∀ x ∈ ks, x ∈ ns ∧ x ∉ mk1 ms) ∧ ms.length + ks.length ≤ 5) ?_ ?_ _ _ _ ⟨ns, [], none, bx, 0, rfl, rfl, sup_same, (by rw [sup_ne npb]; exact hb), (fun a h1 _ => sup_ne h1), hk, (by have := hns.2.2.1; omega), ⟨List.nodup_nil, fun x hx => (by cases hx), fun x hx => (by cases hx)⟩, hns.1, (fun x hx => ⟨hx, fun z => (by cases z)⟩), (by have := hns.2.2.1; simpa using this)⟩
  · rintro x xs sd S' ⟨ks, ms, o4, bx', j, e, rfl, g1, g2, g3, g4, g5, g6, g7, g8, g9⟩
    cases ks with
    | nil => cases e
    | cons y ks =>
      cases e
      refine ⟨trivial, _, rfl, fun K hK => ?_⟩
      rw [List.length_cons] at g5 g9
      obtain ⟨y1, y2⟩ := List.nodup_cons.mp g7
      obtain ⟨hy, hyn⟩ := g8 y List.mem_cons_self
      have skip : ∀ bx2 : Bx, bx2.ok (k + j + 1) → K [some (.ref b), some (.lst ((s0 :: sr).map Sm.d)), some (.lst (ns.map D.int)), some (.ref p), some (.int y), none, none, none, none] (sup S' b bx2.o) := fun bx2 hb2 =>
        hK _ _ ⟨ks, ms, _, bx2, j + 1, rfl, rfl, by rw [sup_ne (Ne.symm npb)]; exact g1, sup_same, fun a h1 h2 => by rw [sup_ne h2]; exact g3 a h1 h2, hb2, by omega, g6, y2, fun x hx => g8 x (List.mem_cons_of_mem _ hx), by omega⟩
      have fin : ∀ (s : Sm) (bx2 : Bx), Drawn ns s → bx2.ok (k + j + 4) → K [some (.ref b), some (.lst ((s0 :: sr).map Sm.d)), some (.lst (ns.map D.int)), some (.ref p), some (.int y), none, none, none, none] (sup (sup S' b bx2.o) p (.dct (dput (mnD ms) (.inl y) s.d))) := fun s bx2 hs hb2 => by
        rw [mn_put hyn]
        refine hK _ _ ⟨ks, ms ++ [(y, s)], _, bx2, j + 4, rfl, rfl, sup_same, by rw [sup_ne npb]; exact sup_same, fun a h1 h2 => by rw [sup_ne h1, sup_ne h2]; exact g3 a h1 h2, hb2, by omega, ⟨?_, ?_, ?_⟩, y2, fun x hx => ⟨(g8 x (List.mem_cons_of_mem _ hx)).1, ?_⟩, by rw [List.length_append, List.length_singleton]; omega⟩
        · unfold mk1
          rw [List.map_append]
          refine List.nodup_append.mpr ⟨g6.nd, by simp, fun a ha c hc => ?_⟩
          have hc : c ∈ [y] := hc
          rw [List.mem_singleton.mp hc]; rintro rfl; exact hyn ha
        · intro x hx
          unfold mk1 at hx
          rw [List.map_append] at hx
          rcases List.mem_append.mp hx with hx | hx
          · exact g6.sub x hx
          · have hx : x ∈ [y] := hx
            rw [List.mem_singleton.mp hx]; exact hy
        · intro q hq
          rcases List.mem_append.mp hq with hq | hq
          · exact g6.dr q hq
          · rw [List.mem_singleton.mp hq]; exact hs
        · unfold mk1
          rw [List.map_append]
          intro z
          rcases List.mem_append.mp z with z | z
          · exact (g8 x (List.mem_cons_of_mem _ hx)).2 z
          · have z : x ∈ [y] := z
            rw [List.mem_singleton.mp z] at hx
            exact y1 hx
      have g1' : ∀ o, (sup S' b o) p = some (.dct (mnD ms)) := fun o => by rw [sup_ne (Ne.symm npb)]; exact g1
      clear hK
      simp only [denSs, denS, den, dens, denO, denT, denI, DV.of, DV.ofB, sSeq, sRet, sRetN, sNext, sIf, sSet, sSetG, sPar, sPar3, sSetIx, sDrop, sFor, sForKeys, sBreak, sCont, dAnd, dOr, dNot, dAndT, dOrT, dNotT, dUn, dOp, dIte, dVar, dC, dTup, dLst, dNil, dCons, dCall, dCut, dPart, dNoPart, dGet1, dGet2, dApp,
  dSeq1, dRange1, dRange2, dEnum, dZip, dLc, dDc, dChain, fIsi, fBlt, fLen, fAbs, fInt1, fMax, fMin, fL1, fTuple, fList, fSorted, fDict, fBin, fCmp, fNeg, fAdd, fSub, fMul, fMod, fDiv, fPow, fInt, fInt0, fLt, fLe, fGt, fGe, fIs, fIsNot, fInD, fIx, fCut, fSeq, fRange1, fRange2, fEnum, fZip, fSetIx, fGet, fApp, fLenSet, fAug, sAug, tOf, tOfB, guardN, gset, gsets, sFrz, frz_dct, frz_lst, fEq_int, fNe_int, fEq_bl, fNe_bl, fEq_nil, fNe_nil, fEq_ints,
  TyC.name, DL.isNon, start0, List.length_cons, List.length_nil, List.map_cons, List.map_nil, List.cons_append, List.nil_append, List.getElem?_cons_zero, List.getElem?_cons_succ, List.getElem?_nil, List.set_cons_zero, List.set_cons_succ, List.set_nil, List.replicate, Nat.reduceSub, Nat.reduceAdd, mkL, mkD, dwipe, Bool.false_eq_true, if_true, if_false, ite_true, ite_false, true_and, and_true, Option.isSome_some, Option.isSome_none, Option.map_some, Option.map_none, Option.getD_some, Option.getD_none,
  tyD_non, tyD_bl, tyD_int, tyD_str, tyD_tup, tyD_lst, tyD_dct, truD_non, truD_bl, truD_int, truD_tup, truD_lst, truD_dct, asL_non, asD_non, keyD_non, asL_bl, asD_bl, keyD_bl, asL_int, asD_int, keyD_int, asL_str, asD_str, keyD_str, asL_tup, asD_tup, keyD_tup, asL_lst, asD_lst, keyD_lst, asL_dct, asD_dct, keyD_dct, asL_scr, asD_scr, keyD_scr, asL_sup, asD_sup, asL_supD, isLs_sup, tyD_supL, tyD_supD, sup_same, sup_sup, ixN_1_0, ixN_2_0, ixN_2_1, ixN_3_0, ixN_3_1, ixN_3_2, ixN_4_0, ixN_4_1, ixN_4_2, ixN_4_3, ixN_5_0, ixN_5_1, ixN_5_2, ixN_5_3, ixN_5_4, ixN_6_0, ixN_6_1, ixN_6_2, ixN_6_3, ixN_6_4, ixN_6_5, ixN_7_0, ixN_7_1, ixN_7_2, ixN_7_3, ixN_7_4, ixN_7_5, ixN_7_6, ixN_8_0, ixN_8_1, ixN_8_2, ixN_8_3, ixN_8_4, ixN_8_5, ixN_8_6, ixN_8_7, atI_0, atI_1, atI_2, atI_3, atI_4, atI_5, atI_6, atI_7, atI_8, isi_NoneType_bool, isi_NoneType_int, isi_NoneType_str, isi_NoneType_tuple, isi_NoneType_list, isi_NoneType_dict, isi_bool_bool, isi_bool_int, isi_bool_str, isi_bool_tuple, isi_bool_list, isi_bool_dict, isi_int_bool, isi_int_int, isi_int_str, isi_int_tuple, isi_int_list, isi_int_dict, isi_str_bool, isi_str_int, isi_str_str, isi_str_tuple, isi_str_list, isi_str_dict, isi_tuple_bool, isi_tuple_int, isi_tuple_str, isi_tuple_tuple, isi_tuple_list, isi_tuple_dict, isi_list_bool, isi_list_int, isi_list_str, isi_list_tuple, isi_list_list, isi_list_dict, isi_dict_bool, isi_dict_int, isi_dict_str, isi_dict_tuple, isi_dict_list, isi_dict_dict, A.f13]
      refine ⟨b, 3, k + j, bx', rfl, by decide, by decide, g2, g4, by omega, fun r bx2 r0 r1 hb2 => ?_⟩
      simp only [denSs, denS, den, dens, denO, denT, denI, DV.of, DV.ofB, sSeq, sRet, sRetN, sNext, sIf, sSet, sSetG, sPar, sPar3, sSetIx, sDrop, sFor, sForKeys, sBreak, sCont, dAnd, dOr, dNot, dAndT, dOrT, dNotT, dUn, dOp, dIte, dVar, dC, dTup, dLst, dNil, dCons, dCall, dCut, dPart, dNoPart, dGet1, dGet2, dApp,
  dSeq1, dRange1, dRange2, dEnum, dZip, dLc, dDc, dChain, fIsi, fBlt, fLen, fAbs, fInt1, fMax, fMin, fL1, fTuple, fList, fSorted, fDict, fBin, fCmp, fNeg, fAdd, fSub, fMul, fMod, fDiv, fPow, fInt, fInt0, fLt, fLe, fGt, fGe, fIs, fIsNot, fInD, fIx, fCut, fSeq, fRange1, fRange2, fEnum, fZip, fSetIx, fGet, fApp, fLenSet, fAug, sAug, tOf, tOfB, guardN, gset, gsets, sFrz, frz_dct, frz_lst, fEq_int, fNe_int, fEq_bl, fNe_bl, fEq_nil, fNe_nil, fEq_ints,
  TyC.name, DL.isNon, start0, List.length_cons, List.length_nil, List.map_cons, List.map_nil, List.cons_append, List.nil_append, List.getElem?_cons_zero, List.getElem?_cons_succ, List.getElem?_nil, List.set_cons_zero, List.set_cons_succ, List.set_nil, List.replicate, Nat.reduceSub, Nat.reduceAdd, mkL, mkD, dwipe, Bool.false_eq_true, if_true, if_false, ite_true, ite_false, true_and, and_true, Option.isSome_some, Option.isSome_none, Option.map_some, Option.map_none, Option.getD_some, Option.getD_none,
  tyD_non, tyD_bl, tyD_int, tyD_str, tyD_tup, tyD_lst, tyD_dct, truD_non, truD_bl, truD_int, truD_tup, truD_lst, truD_dct, asL_non, asD_non, keyD_non, asL_bl, asD_bl, keyD_bl, asL_int, asD_int, keyD_int, asL_str, asD_str, keyD_str, asL_tup, asD_tup, keyD_tup, asL_lst, asD_lst, keyD_lst, asL_dct, asD_dct, keyD_dct, asL_scr, asD_scr, keyD_scr, asL_sup, asD_sup, asL_supD, isLs_sup, tyD_supL, tyD_supD, sup_same, sup_sup, ixN_1_0, ixN_2_0, ixN_2_1, ixN_3_0, ixN_3_1, ixN_3_2, ixN_4_0, ixN_4_1, ixN_4_2, ixN_4_3, ixN_5_0, ixN_5_1, ixN_5_2, ixN_5_3, ixN_5_4, ixN_6_0, ixN_6_1, ixN_6_2, ixN_6_3, ixN_6_4, ixN_6_5, ixN_7_0, ixN_7_1, ixN_7_2, ixN_7_3, ixN_7_4, ixN_7_5, ixN_7_6, ixN_8_0, ixN_8_1, ixN_8_2, ixN_8_3, ixN_8_4, ixN_8_5, ixN_8_6, ixN_8_7, atI_0, atI_1, atI_2, atI_3, atI_4, atI_5, atI_6, atI_7, atI_8, isi_NoneType_bool, isi_NoneType_int, isi_NoneType_str, isi_NoneType_tuple, isi_NoneType_list, isi_NoneType_dict, isi_bool_bool, isi_bool_int, isi_bool_str, isi_bool_tuple, isi_bool_list, isi_bool_dict, isi_int_bool, isi_int_int, isi_int_str, isi_int_tuple, isi_int_list, isi_int_dict, isi_str_bool, isi_str_int, isi_str_str, isi_str_tuple, isi_str_list, isi_str_dict, isi_tuple_bool, isi_tuple_int, isi_tuple_str, isi_tuple_tuple, isi_tuple_list, isi_tuple_dict, isi_list_bool, isi_list_int, isi_list_str, isi_list_tuple, isi_list_list, isi_list_dict, isi_dict_bool, isi_dict_int, isi_dict_str, isi_dict_tuple, isi_dict_list, isi_dict_dict]
      split
      · have hl : (sr.map Sm.d).length = sr.length := List.length_map _
        have hl3 : (ns.map D.int).length = ns.length := List.length_map _
        rw [List.length_cons] at l2
        have h5 := hns.2.2.1
        have h6 := hns.2.1
        refine ⟨b, _, k + j + 1, bx2, rfl, by omega, by omega, sup_same, hb2, by omega, fun r2 bx3 r20 r21 hb3 => ?_⟩
        obtain ⟨d1, hd1, e1⟩ := atI_any (xs := s0.d :: sr.map Sm.d) r20 (by rw [List.length_cons]; exact r21)
        obtain ⟨s1, hs1, rfl⟩ : ∃ s1, Drawn ns s1 ∧ s1.d = d1 := by
          have : d1 ∈ (s0 :: sr).map Sm.d := hd1
          obtain ⟨s1, h1, h2⟩ := List.mem_map.mp this
          exact ⟨s1, hss s1 h1, h2⟩
        simp only [denSs, denS, den, dens, denO, denT, denI, DV.of, DV.ofB, sSeq, sRet, sRetN, sNext, sIf, sSet, sSetG, sPar, sPar3, sSetIx, sDrop, sFor, sForKeys, sBreak, sCont, dAnd, dOr, dNot, dAndT, dOrT, dNotT, dUn, dOp, dIte, dVar, dC, dTup, dLst, dNil, dCons, dCall, dCut, dPart, dNoPart, dGet1, dGet2, dApp,
  dSeq1, dRange1, dRange2, dEnum, dZip, dLc, dDc, dChain, fIsi, fBlt, fLen, fAbs, fInt1, fMax, fMin, fL1, fTuple, fList, fSorted, fDict, fBin, fCmp, fNeg, fAdd, fSub, fMul, fMod, fDiv, fPow, fInt, fInt0, fLt, fLe, fGt, fGe, fIs, fIsNot, fInD, fIx, fCut, fSeq, fRange1, fRange2, fEnum, fZip, fSetIx, fGet, fApp, fLenSet, fAug, sAug, tOf, tOfB, guardN, gset, gsets, sFrz, frz_dct, frz_lst, fEq_int, fNe_int, fEq_bl, fNe_bl, fEq_nil, fNe_nil, fEq_ints,
  TyC.name, DL.isNon, start0, List.length_cons, List.length_nil, List.map_cons, List.map_nil, List.cons_append, List.nil_append, List.getElem?_cons_zero, List.getElem?_cons_succ, List.getElem?_nil, List.set_cons_zero, List.set_cons_succ, List.set_nil, List.replicate, Nat.reduceSub, Nat.reduceAdd, mkL, mkD, dwipe, Bool.false_eq_true, if_true, if_false, ite_true, ite_false, true_and, and_true, Option.isSome_some, Option.isSome_none, Option.map_some, Option.map_none, Option.getD_some, Option.getD_none,
  tyD_non, tyD_bl, tyD_int, tyD_str, tyD_tup, tyD_lst, tyD_dct, truD_non, truD_bl, truD_int, truD_tup, truD_lst, truD_dct, asL_non, asD_non, keyD_non, asL_bl, asD_bl, keyD_bl, asL_int, asD_int, keyD_int, asL_str, asD_str, keyD_str, asL_tup, asD_tup, keyD_tup, asL_lst, asD_lst, keyD_lst, asL_dct, asD_dct, keyD_dct, asL_scr, asD_scr, keyD_scr, asL_sup, asD_sup, asL_supD, isLs_sup, tyD_supL, tyD_supD, sup_same, sup_sup, ixN_1_0, ixN_2_0, ixN_2_1, ixN_3_0, ixN_3_1, ixN_3_2, ixN_4_0, ixN_4_1, ixN_4_2, ixN_4_3, ixN_5_0, ixN_5_1, ixN_5_2, ixN_5_3, ixN_5_4, ixN_6_0, ixN_6_1, ixN_6_2, ixN_6_3, ixN_6_4, ixN_6_5, ixN_7_0, ixN_7_1, ixN_7_2, ixN_7_3, ixN_7_4, ixN_7_5, ixN_7_6, ixN_8_0, ixN_8_1, ixN_8_2, ixN_8_3, ixN_8_4, ixN_8_5, ixN_8_6, ixN_8_7, atI_0, atI_1, atI_2, atI_3, atI_4, atI_5, atI_6, atI_7, atI_8, isi_NoneType_bool, isi_NoneType_int, isi_NoneType_str, isi_NoneType_tuple, isi_NoneType_list, isi_NoneType_dict, isi_bool_bool, isi_bool_int, isi_bool_str, isi_bool_tuple, isi_bool_list, isi_bool_dict, isi_int_bool, isi_int_int, isi_int_str, isi_int_tuple, isi_int_list, isi_int_dict, isi_str_bool, isi_str_int, isi_str_str, isi_str_tuple, isi_str_list, isi_str_dict, isi_tuple_bool, isi_tuple_int, isi_tuple_str, isi_tuple_tuple, isi_tuple_list, isi_tuple_dict, isi_list_bool, isi_list_int, isi_list_str, isi_list_tuple, isi_list_list, isi_list_dict, isi_dict_bool, isi_dict_int, isi_dict_str, isi_dict_tuple, isi_dict_list, isi_dict_dict, e1]
        refine ⟨b, _, k + j + 2, bx3, rfl, by omega, by omega, sup_same, hb3, by omega, fun r3 bx4 r30 r31 hb4 => ?_⟩
        obtain ⟨v, hv, ev⟩ := atI_lit ns r30 (by omega)
        simp only [denSs, denS, den, dens, denO, denT, denI, DV.of, DV.ofB, sSeq, sRet, sRetN, sNext, sIf, sSet, sSetG, sPar, sPar3, sSetIx, sDrop, sFor, sForKeys, sBreak, sCont, dAnd, dOr, dNot, dAndT, dOrT, dNotT, dUn, dOp, dIte, dVar, dC, dTup, dLst, dNil, dCons, dCall, dCut, dPart, dNoPart, dGet1, dGet2, dApp,
  dSeq1, dRange1, dRange2, dEnum, dZip, dLc, dDc, dChain, fIsi, fBlt, fLen, fAbs, fInt1, fMax, fMin, fL1, fTuple, fList, fSorted, fDict, fBin, fCmp, fNeg, fAdd, fSub, fMul, fMod, fDiv, fPow, fInt, fInt0, fLt, fLe, fGt, fGe, fIs, fIsNot, fInD, fIx, fCut, fSeq, fRange1, fRange2, fEnum, fZip, fSetIx, fGet, fApp, fLenSet, fAug, sAug, tOf, tOfB, guardN, gset, gsets, sFrz, frz_dct, frz_lst, fEq_int, fNe_int, fEq_bl, fNe_bl, fEq_nil, fNe_nil, fEq_ints,
  TyC.name, DL.isNon, start0, List.length_cons, List.length_nil, List.map_cons, List.map_nil, List.cons_append, List.nil_append, List.getElem?_cons_zero, List.getElem?_cons_succ, List.getElem?_nil, List.set_cons_zero, List.set_cons_succ, List.set_nil, List.replicate, Nat.reduceSub, Nat.reduceAdd, mkL, mkD, dwipe, Bool.false_eq_true, if_true, if_false, ite_true, ite_false, true_and, and_true, Option.isSome_some, Option.isSome_none, Option.map_some, Option.map_none, Option.getD_some, Option.getD_none,
  tyD_non, tyD_bl, tyD_int, tyD_str, tyD_tup, tyD_lst, tyD_dct, truD_non, truD_bl, truD_int, truD_tup, truD_lst, truD_dct, asL_non, asD_non, keyD_non, asL_bl, asD_bl, keyD_bl, asL_int, asD_int, keyD_int, asL_str, asD_str, keyD_str, asL_tup, asD_tup, keyD_tup, asL_lst, asD_lst, keyD_lst, asL_dct, asD_dct, keyD_dct, asL_scr, asD_scr, keyD_scr, asL_sup, asD_sup, asL_supD, isLs_sup, tyD_supL, tyD_supD, sup_same, sup_sup, ixN_1_0, ixN_2_0, ixN_2_1, ixN_3_0, ixN_3_1, ixN_3_2, ixN_4_0, ixN_4_1, ixN_4_2, ixN_4_3, ixN_5_0, ixN_5_1, ixN_5_2, ixN_5_3, ixN_5_4, ixN_6_0, ixN_6_1, ixN_6_2, ixN_6_3, ixN_6_4, ixN_6_5, ixN_7_0, ixN_7_1, ixN_7_2, ixN_7_3, ixN_7_4, ixN_7_5, ixN_7_6, ixN_8_0, ixN_8_1, ixN_8_2, ixN_8_3, ixN_8_4, ixN_8_5, ixN_8_6, ixN_8_7, atI_0, atI_1, atI_2, atI_3, atI_4, atI_5, atI_6, atI_7, atI_8, isi_NoneType_bool, isi_NoneType_int, isi_NoneType_str, isi_NoneType_tuple, isi_NoneType_list, isi_NoneType_dict, isi_bool_bool, isi_bool_int, isi_bool_str, isi_bool_tuple, isi_bool_list, isi_bool_dict, isi_int_bool, isi_int_int, isi_int_str, isi_int_tuple, isi_int_list, isi_int_dict, isi_str_bool, isi_str_int, isi_str_str, isi_str_tuple, isi_str_list, isi_str_dict, isi_tuple_bool, isi_tuple_int, isi_tuple_str, isi_tuple_tuple, isi_tuple_list, isi_tuple_dict, isi_list_bool, isi_list_int, isi_list_str, isi_list_tuple, isi_list_list, isi_list_dict, isi_dict_bool, isi_dict_int, isi_dict_str, isi_dict_tuple, isi_dict_list, isi_dict_dict, ev]
        refine ⟨by decide, by decide, by decide, by decide, b, 2, k + j + 3, bx4, rfl, by decide, by decide, sup_same, hb4, by omega, fun r4 bx5 r40 r41 hb5 => ?_⟩
        obtain ⟨d2, hd2, e2⟩ := atI_any (xs := [s1.d, D.tup [.int 0, .tup [.tup [.int v, .int 1]]]]) r40 r41
        obtain ⟨s2, hs2, rfl⟩ : ∃ s2, Drawn ns s2 ∧ s2.d = d2 := by
          rcases List.mem_cons.mp hd2 with rfl | hd2
          · exact ⟨s1, hs1, rfl⟩
          · rw [List.mem_singleton.mp hd2]
            exact ⟨one v, one_drawn hns hv, rfl⟩
        have hlen : (mnD ms).length = ms.length := List.length_map _
        simp only [denSs, denS, den, dens, denO, denT, denI, DV.of, DV.ofB, sSeq, sRet, sRetN, sNext, sIf, sSet, sSetG, sPar, sPar3, sSetIx, sDrop, sFor, sForKeys, sBreak, sCont, dAnd, dOr, dNot, dAndT, dOrT, dNotT, dUn, dOp, dIte, dVar, dC, dTup, dLst, dNil, dCons, dCall, dCut, dPart, dNoPart, dGet1, dGet2, dApp,
  dSeq1, dRange1, dRange2, dEnum, dZip, dLc, dDc, dChain, fIsi, fBlt, fLen, fAbs, fInt1, fMax, fMin, fL1, fTuple, fList, fSorted, fDict, fBin, fCmp, fNeg, fAdd, fSub, fMul, fMod, fDiv, fPow, fInt, fInt0, fLt, fLe, fGt, fGe, fIs, fIsNot, fInD, fIx, fCut, fSeq, fRange1, fRange2, fEnum, fZip, fSetIx, fGet, fApp, fLenSet, fAug, sAug, tOf, tOfB, guardN, gset, gsets, sFrz, frz_dct, frz_lst, fEq_int, fNe_int, fEq_bl, fNe_bl, fEq_nil, fNe_nil, fEq_ints,
  TyC.name, DL.isNon, start0, List.length_cons, List.length_nil, List.map_cons, List.map_nil, List.cons_append, List.nil_append, List.getElem?_cons_zero, List.getElem?_cons_succ, List.getElem?_nil, List.set_cons_zero, List.set_cons_succ, List.set_nil, List.replicate, Nat.reduceSub, Nat.reduceAdd, mkL, mkD, dwipe, Bool.false_eq_true, if_true, if_false, ite_true, ite_false, true_and, and_true, Option.isSome_some, Option.isSome_none, Option.map_some, Option.map_none, Option.getD_some, Option.getD_none,
  tyD_non, tyD_bl, tyD_int, tyD_str, tyD_tup, tyD_lst, tyD_dct, truD_non, truD_bl, truD_int, truD_tup, truD_lst, truD_dct, asL_non, asD_non, keyD_non, asL_bl, asD_bl, keyD_bl, asL_int, asD_int, keyD_int, asL_str, asD_str, keyD_str, asL_tup, asD_tup, keyD_tup, asL_lst, asD_lst, keyD_lst, asL_dct, asD_dct, keyD_dct, asL_scr, asD_scr, keyD_scr, asL_sup, asD_sup, asL_supD, isLs_sup, tyD_supL, tyD_supD, sup_same, sup_sup, ixN_1_0, ixN_2_0, ixN_2_1, ixN_3_0, ixN_3_1, ixN_3_2, ixN_4_0, ixN_4_1, ixN_4_2, ixN_4_3, ixN_5_0, ixN_5_1, ixN_5_2, ixN_5_3, ixN_5_4, ixN_6_0, ixN_6_1, ixN_6_2, ixN_6_3, ixN_6_4, ixN_6_5, ixN_7_0, ixN_7_1, ixN_7_2, ixN_7_3, ixN_7_4, ixN_7_5, ixN_7_6, ixN_8_0, ixN_8_1, ixN_8_2, ixN_8_3, ixN_8_4, ixN_8_5, ixN_8_6, ixN_8_7, atI_0, atI_1, atI_2, atI_3, atI_4, atI_5, atI_6, atI_7, atI_8, isi_NoneType_bool, isi_NoneType_int, isi_NoneType_str, isi_NoneType_tuple, isi_NoneType_list, isi_NoneType_dict, isi_bool_bool, isi_bool_int, isi_bool_str, isi_bool_tuple, isi_bool_list, isi_bool_dict, isi_int_bool, isi_int_int, isi_int_str, isi_int_tuple, isi_int_list, isi_int_dict, isi_str_bool, isi_str_int, isi_str_str, isi_str_tuple, isi_str_list, isi_str_dict, isi_tuple_bool, isi_tuple_int, isi_tuple_str, isi_tuple_tuple, isi_tuple_list, isi_tuple_dict, isi_list_bool, isi_list_int, isi_list_str, isi_list_tuple, isi_list_list, isi_list_dict, isi_dict_bool, isi_dict_int, isi_dict_str, isi_dict_tuple, isi_dict_list, isi_dict_dict, e2, g1']
        exact ⟨by omega, fin s2 bx5 hs2 hb5⟩
      · exact skip bx2 hb2
  · rintro sd S' ⟨ks, ms, o4, bx', j, e, rfl, g1, g2, g3, g4, g5, g6, g7, g8, g9⟩
    have e : ks = [] := by cases ks with | nil => rfl | cons _ _ => cases e
    subst e
    rw [List.length_nil] at g5 g9
    refine ⟨trivial, ?_⟩
    have hfz : frzD S' p = some (.dct (mnD ms)) := by unfold frzD; rw [g1]
    have hS1 : sdel S' p = sup S b bx'.o := by
      funext a
      unfold sdel sup
      by_cases e1 : a = p
      · rw [if_pos e1, if_neg (by rw [e1]; exact Ne.symm npb), e1, hp]
      · rw [if_neg e1]
        by_cases e2 : a = b
        · rw [if_pos e2, e2, g2]
        · rw [if_neg e2, g3 a e1 e2]
    show denSs T (.frz 3 _) (DD Q) [some (.ref b), some (.lst ((s0 :: sr).map Sm.d)), some (.lst (ns.map D.int)), some (.ref p), o4, none, none, none, none] S'
    refine vs_frz rfl hfz ?_
    rw [hS1]
    show denSs T _ (DD Q) [some (.ref b), some (.lst ((s0 :: sr).map Sm.d)), some (.lst (ns.map D.int)), some (.dct (mnD ms)), o4, none, none, none, none] (sup S b bx'.o)
    refine vs_par (ve_dictD (ve_slot rfl) _ (call_run fV (vs_cons (ve_slot rfl) (vs_cons (ve_slot rfl) vs_nil)) rfl ?_))
    refine ⟨b, bx', k + j, ns, rfl, sup_same, g4, by omega, hns, fun vl bx2 hvl hb2 => ?_⟩
    rw [sup_sup]
    show denSs T _ (DD Q) [some (.ref b), some (.lst ((s0 :: sr).map Sm.d)), some (.lst (ns.map D.int)), some (.dct (mnD ms)), o4, some (.dct (mnD ms)), some (.dct (kvD vl)), none, none] (sup S b bx2.o)
    have e0 : Ve T [some (.ref b), some (.lst ((s0 :: sr).map Sm.d)), some (.lst (ns.map D.int)), some (.dct (mnD ms)), o4, some (.dct (mnD ms)), some (.dct (kvD vl)), none, none] (sup S b bx2.o) (.ix (.slot 1) (.int 0)) s0.d := ve_ixL (ve_slot rfl) atI_0
    have mok : MnOk ms ns s0 := ⟨d0.g, n60, d0.sub, d0.sml.f, fun k hk => by
      have dr := g6.at_ hns (d0.sub k hk)
      exact ⟨dr.g, dr.sub, dr.sml.c, dr.sml.f⟩⟩
    have told : ∀ K : DQ, (∀ bx3 : Bx, bx3.ok (k + 26) → K (swp (mean ms) s0.fs ⟨s0.c, []⟩).d (sup S b bx3.o)) → (den T (.ite (.cmp .Eq (.call 13 (.cons (.slot 0) (.cons (.int 2) .nil))) (.int 0)) (.call 8 (.cons (.ix (.slot 1) (.int 0)) (.cons (.slot 3) .nil))) (.callk 8 ["meanings", "one"] [1, 0] (.cons (.slot 3) (.cons (.ix (.slot 1) (.int 0)) .nil))))).v
        [some (.ref b), some (.lst ((s0 :: sr).map Sm.d)), some (.lst (ns.map D.int)), some (.dct (mnD ms)), o4, some (.dct (mnD ms)), some (.dct (kvD vl)), none, none] (sup S b bx2.o) K := by
      intro K hK
      have hc : ([([("meanings" : Str), "one"], [1, 0])] : List (List Str × List Nat)).contains (["meanings", "one"], [1, 0]) = true := by decide +kernel
      simp only [denSs, denS, den, dens, denO, denT, denI, DV.of, DV.ofB, sSeq, sRet, sRetN, sNext, sIf, sSet, sSetG, sPar, sPar3, sSetIx, sDrop, sFor, sForKeys, sBreak, sCont, dAnd, dOr, dNot, dAndT, dOrT, dNotT, dUn, dOp, dIte, dVar, dC, dTup, dLst, dNil, dCons, dCall, dCut, dPart, dNoPart, dGet1, dGet2, dApp,
  dSeq1, dRange1, dRange2, dEnum, dZip, dLc, dDc, dChain, fIsi, fBlt, fLen, fAbs, fInt1, fMax, fMin, fL1, fTuple, fList, fSorted, fDict, fBin, fCmp, fNeg, fAdd, fSub, fMul, fMod, fDiv, fPow, fInt, fInt0, fLt, fLe, fGt, fGe, fIs, fIsNot, fInD, fIx, fCut, fSeq, fRange1, fRange2, fEnum, fZip, fSetIx, fGet, fApp, fLenSet, fAug, sAug, tOf, tOfB, guardN, gset, gsets, sFrz, frz_dct, frz_lst, fEq_int, fNe_int, fEq_bl, fNe_bl, fEq_nil, fNe_nil, fEq_ints,
  TyC.name, DL.isNon, start0, List.length_cons, List.length_nil, List.map_cons, List.map_nil, List.cons_append, List.nil_append, List.getElem?_cons_zero, List.getElem?_cons_succ, List.getElem?_nil, List.set_cons_zero, List.set_cons_succ, List.set_nil, List.replicate, Nat.reduceSub, Nat.reduceAdd, mkL, mkD, dwipe, Bool.false_eq_true, if_true, if_false, ite_true, ite_false, true_and, and_true, Option.isSome_some, Option.isSome_none, Option.map_some, Option.map_none, Option.getD_some, Option.getD_none,
  tyD_non, tyD_bl, tyD_int, tyD_str, tyD_tup, tyD_lst, tyD_dct, truD_non, truD_bl, truD_int, truD_tup, truD_lst, truD_dct, asL_non, asD_non, keyD_non, asL_bl, asD_bl, keyD_bl, asL_int, asD_int, keyD_int, asL_str, asD_str, keyD_str, asL_tup, asD_tup, keyD_tup, asL_lst, asD_lst, keyD_lst, asL_dct, asD_dct, keyD_dct, asL_scr, asD_scr, keyD_scr, asL_sup, asD_sup, asL_supD, isLs_sup, tyD_supL, tyD_supD, sup_same, sup_sup, ixN_1_0, ixN_2_0, ixN_2_1, ixN_3_0, ixN_3_1, ixN_3_2, ixN_4_0, ixN_4_1, ixN_4_2, ixN_4_3, ixN_5_0, ixN_5_1, ixN_5_2, ixN_5_3, ixN_5_4, ixN_6_0, ixN_6_1, ixN_6_2, ixN_6_3, ixN_6_4, ixN_6_5, ixN_7_0, ixN_7_1, ixN_7_2, ixN_7_3, ixN_7_4, ixN_7_5, ixN_7_6, ixN_8_0, ixN_8_1, ixN_8_2, ixN_8_3, ixN_8_4, ixN_8_5, ixN_8_6, ixN_8_7, atI_0, atI_1, atI_2, atI_3, atI_4, atI_5, atI_6, atI_7, atI_8, isi_NoneType_bool, isi_NoneType_int, isi_NoneType_str, isi_NoneType_tuple, isi_NoneType_list, isi_NoneType_dict, isi_bool_bool, isi_bool_int, isi_bool_str, isi_bool_tuple, isi_bool_list, isi_bool_dict, isi_int_bool, isi_int_int, isi_int_str, isi_int_tuple, isi_int_list, isi_int_dict, isi_str_bool, isi_str_int, isi_str_str, isi_str_tuple, isi_str_list, isi_str_dict, isi_tuple_bool, isi_tuple_int, isi_tuple_str, isi_tuple_tuple, isi_tuple_list, isi_tuple_dict, isi_list_bool, isi_list_int, isi_list_str, isi_list_tuple, isi_list_list, isi_list_dict, isi_dict_bool, isi_dict_int, isi_dict_str, isi_dict_tuple, isi_dict_list, isi_dict_dict, A.f13, A.f8, A.kPut, hc]
      refine ⟨b, 2, k + j + 5, bx2, rfl, by decide, by decide, sup_same, hb2, by omega, fun r bx3 r0 r1 hb3 => ?_⟩
      simp only [denSs, denS, den, dens, denO, denT, denI, DV.of, DV.ofB, sSeq, sRet, sRetN, sNext, sIf, sSet, sSetG, sPar, sPar3, sSetIx, sDrop, sFor, sForKeys, sBreak, sCont, dAnd, dOr, dNot, dAndT, dOrT, dNotT, dUn, dOp, dIte, dVar, dC, dTup, dLst, dNil, dCons, dCall, dCut, dPart, dNoPart, dGet1, dGet2, dApp,
  dSeq1, dRange1, dRange2, dEnum, dZip, dLc, dDc, dChain, fIsi, fBlt, fLen, fAbs, fInt1, fMax, fMin, fL1, fTuple, fList, fSorted, fDict, fBin, fCmp, fNeg, fAdd, fSub, fMul, fMod, fDiv, fPow, fInt, fInt0, fLt, fLe, fGt, fGe, fIs, fIsNot, fInD, fIx, fCut, fSeq, fRange1, fRange2, fEnum, fZip, fSetIx, fGet, fApp, fLenSet, fAug, sAug, tOf, tOfB, guardN, gset, gsets, sFrz, frz_dct, frz_lst, fEq_int, fNe_int, fEq_bl, fNe_bl, fEq_nil, fNe_nil, fEq_ints,
  TyC.name, DL.isNon, start0, List.length_cons, List.length_nil, List.map_cons, List.map_nil, List.cons_append, List.nil_append, List.getElem?_cons_zero, List.getElem?_cons_succ, List.getElem?_nil, List.set_cons_zero, List.set_cons_succ, List.set_nil, List.replicate, Nat.reduceSub, Nat.reduceAdd, mkL, mkD, dwipe, Bool.false_eq_true, if_true, if_false, ite_true, ite_false, true_and, and_true, Option.isSome_some, Option.isSome_none, Option.map_some, Option.map_none, Option.getD_some, Option.getD_none,
  tyD_non, tyD_bl, tyD_int, tyD_str, tyD_tup, tyD_lst, tyD_dct, truD_non, truD_bl, truD_int, truD_tup, truD_lst, truD_dct, asL_non, asD_non, keyD_non, asL_bl, asD_bl, keyD_bl, asL_int, asD_int, keyD_int, asL_str, asD_str, keyD_str, asL_tup, asD_tup, keyD_tup, asL_lst, asD_lst, keyD_lst, asL_dct, asD_dct, keyD_dct, asL_scr, asD_scr, keyD_scr, asL_sup, asD_sup, asL_supD, isLs_sup, tyD_supL, tyD_supD, sup_same, sup_sup, ixN_1_0, ixN_2_0, ixN_2_1, ixN_3_0, ixN_3_1, ixN_3_2, ixN_4_0, ixN_4_1, ixN_4_2, ixN_4_3, ixN_5_0, ixN_5_1, ixN_5_2, ixN_5_3, ixN_5_4, ixN_6_0, ixN_6_1, ixN_6_2, ixN_6_3, ixN_6_4, ixN_6_5, ixN_7_0, ixN_7_1, ixN_7_2, ixN_7_3, ixN_7_4, ixN_7_5, ixN_7_6, ixN_8_0, ixN_8_1, ixN_8_2, ixN_8_3, ixN_8_4, ixN_8_5, ixN_8_6, ixN_8_7, atI_0, atI_1, atI_2, atI_3, atI_4, atI_5, atI_6, atI_7, atI_8, isi_NoneType_bool, isi_NoneType_int, isi_NoneType_str, isi_NoneType_tuple, isi_NoneType_list, isi_NoneType_dict, isi_bool_bool, isi_bool_int, isi_bool_str, isi_bool_tuple, isi_bool_list, isi_bool_dict, isi_int_bool, isi_int_int, isi_int_str, isi_int_tuple, isi_int_list, isi_int_dict, isi_str_bool, isi_str_int, isi_str_str, isi_str_tuple, isi_str_list, isi_str_dict, isi_tuple_bool, isi_tuple_int, isi_tuple_str, isi_tuple_tuple, isi_tuple_list, isi_tuple_dict, isi_list_bool, isi_list_int, isi_list_str, isi_list_tuple, isi_list_list, isi_list_dict, isi_dict_bool, isi_dict_int, isi_dict_str, isi_dict_tuple, isi_dict_list, isi_dict_dict]
      split
      · exact ⟨s0, ms, ns, rfl, mok, hK bx3 (hb3.mono (by omega))⟩
      · exact ⟨rfl, s0, ms, ns, rfl, mok, hK bx3 (hb3.mono (by omega))⟩
    refine vs_setE (told _ fun bx3 hb3 => ?_)
    have q1 := q bx3 hb3
    generalize hS3 : sup S b bx3.o = S3 at q1 ⊢
    have vb : ∀ k, (get vl k).natAbs ≤ cV := hvl.bd
    have hv : ValOk ns vl := ⟨fun k hk => by rw [hvl.ks]; exact hk, fun k _ => .bits (hvl.bd k) (k := 70) (by decide) (by decide)⟩
    have mg : ∀ p ∈ s0.fs, Drawn ns (mean ms p.1) := fun p hp => g6.at_ hns (d0.sub _ (List.mem_map_of_mem hp))
    have tg : (swp (mean ms) s0.fs ⟨s0.c, []⟩).good := swp_good (fun p hp => (mg p hp).g) (nil_good s0.c)
    have tsub : (swp (mean ms) s0.fs ⟨s0.c, []⟩).sub ns := swp_sub (fun p hp => (mg p hp).sub) (nil_sub s0.c ns)
    have flen : s0.fs.length ≤ 5 := by
      have h1 := nodup_len d0.g.nd d0.sub
      have h2 := hns.2.2.1
      have h3 : (keys s0.fs).length = s0.fs.length := List.length_map _
      omega
    have tbd : (swp (mean ms) s0.fs ⟨s0.c, []⟩).bd (cB + s0.fs.length * (cB * cB)) := swp_bd (fun p hp => ⟨(mg p hp).g, (mg p hp).bd, d0.bd.mem d0.g hp⟩) ⟨d0.bd.1, fun x => Nat.zero_le _⟩
    have tsml : (swp (mean ms) s0.fs ⟨s0.c, []⟩).sml := by
      refine tbd.sml tg (k := 120) (Nat.lt_of_le_of_lt (Nat.add_le_add_left (Nat.mul_le_mul_right _ flen) _) (by decide)) (by decide)
    have wbd : ∀ {s : Sm}, Drawn ns s → Sml (s.w (get vl)) := fun {s} hs => by
      have h1 := w_bd hs.g hs.bd vb
      have h2 := nodup_len hs.g.nd hs.sub
      have h3 : (keys s.fs).length = s.fs.length := List.length_map _
      have h4 := hns.2.2.1
      have h5 : s.fs.length * (cB * cV) ≤ 5 * (cB * cV) := Nat.mul_le_mul_right _ (by omega)
      exact .bits (Nat.le_trans h1 (Nat.add_le_add_left h5 _)) (k := 130) (by decide) (by decide)
    show denSs T _ (DD Q) [some (.ref b), some (.lst ((s0 :: sr).map Sm.d)), some (.lst (ns.map D.int)), some (.dct (mnD ms)), o4, some (.dct (mnD ms)), some (.dct (kvD vl)), some (swp (mean ms) s0.fs ⟨s0.c, []⟩).d, none] S3
    have hml : (mk1 ms).length < 64 := by
      have : (mk1 ms).length = ms.length := List.length_map _
      omega
    have hrd : (mnD ms).all (fun kv => refD kv.2) = true := List.all_eq_true.mpr fun kv hkv => by
      obtain ⟨x, _, rfl⟩ := List.mem_map.mp hkv; rfl
    refine vs_ifsF (fun K hK => t_orNN ?_ ?_ hK) ?_
    · refine ve_call A.f15 (vs_cons (ve_slot rfl) (vs_cons (ve_call A.f18 (vs_cons (ve_ixL (ve_slot rfl) atI_0) (vs_cons (ve_slot rfl) vs_nil)) rfl fun Q' q' => ⟨s0, ms, ns, rfl, mok, q'⟩) vs_nil)) rfl fun Q' q' => ?_
      exact ⟨_, _, (swp (mean ms) s0.fs ⟨s0.c, []⟩).t, rfl, stn_sum (n := 5) (fs_len tg tsub (Nat.le_of_lt n60)), stn_sum (n := 5) (fs_len tg tsub (Nat.le_of_lt n60)), q'⟩
    · refine ve_call A.f15 (vs_cons (ve_sitems (ve_slot rfl) (mn_ints ms) g6.nd hml hrd) (vs_cons (ve_sitems (ve_slot rfl) (mn_ints ms) g6.nd hml hrd) vs_nil)) rfl fun Q' q' => ?_
      have st : Stn S3 8 (.lst ((isort (mk1 ms)).map fun k => D.tup [.int k, (dget (mnD ms) (.inl k)).getD .non])) (.lst ((isort (mk1 ms)).map fun k => Tre.tup [.int k, (mean ms k).t])) := by
        refine .lst rfl (by rw [List.length_map, List.length_map]) (by rw [List.length_map, (isort_perm _).length_eq]; omega) fun i x t h1 h2 => ?_
        rw [List.getElem?_map] at h1 h2
        cases e : (isort (mk1 ms))[i]? with
        | none => rw [e] at h1; cases h1
        | some m =>
          rw [e] at h1 h2
          cases h1; cases h2
          have hm : m ∈ mk1 ms := (isort_perm _).mem_iff.mp (List.mem_of_getElem? e)
          show Stn S3 7 (.tup [.int m, (dget (mnD ms) (.inl m)).getD .non]) (.tup [.int m, (mean ms m).t])
          rw [(mean_in hm).1]
          have dr := g6.at_ hns (g6.sub m hm)
          exact stn_int2 (.int _ _) (stn_sum (n := 3) (fs_len dr.g dr.sub (Nat.le_of_lt n60)))
      exact ⟨_, _, _, rfl, st, st, q'⟩
    · refine vs_dictC (ve_slot rfl) fun p2 hp2 => ?_
      show denSs T _ (DD Q) [some (.ref b), some (.lst ((s0 :: sr).map Sm.d)), some (.lst (ns.map D.int)), some (.dct (mnD ms)), o4, some (.dct (mnD ms)), some (.dct (kvD vl)), some (swp (mean ms) s0.fs ⟨s0.c, []⟩).d, some (.ref p2)] (sup S3 p2 (.dct (kvD vl)))
      refine vs_keys rfl ?_
      have ek : (mnD ms).map (fun kv => keyDat kv.1) = (mk1 ms).map D.int := by unfold mnD mk1; rw [List.map_map, List.map_map]; rfl
      rw [ek]
      refine forL_ind (fun xs sd S' => ∃ ks dn il o4, xs = ks.map D.int ∧ sd = [some (.ref b), some (.lst ((s0 :: sr).map Sm.d)), some (.lst (ns.map D.int)), some (.dct (mnD ms)), o4, some (.dct (mnD ms)), some (.dct (kvD vl)), some (swp (mean ms) s0.fs ⟨s0.c, []⟩).d, some (.ref p2)] ∧ S' = sup S3 p2 (.dct (kvD il)) ∧
        mk1 ms = dn ++ ks ∧ keys il = keys vl ∧ ∀ x, get il x = if x ∈ dn then (mean ms x).w (get vl) else get vl x) ?_ ?_ _ _ _ ⟨mk1 ms, [], vl, o4, rfl, rfl, rfl, rfl, rfl, fun x => rfl⟩
      · rintro x xs sd S' ⟨ks, dn, il, o4, e, rfl, rfl, f1, f2, f3⟩
        cases ks with
        | nil => cases e
        | cons y ks =>
          cases e
          refine ⟨trivial, _, rfl, fun K hK => ?_⟩
          have hy : y ∈ mk1 ms := by rw [f1]; simp
          have dr := g6.at_ hns (g6.sub y hy)
          simp only [denSs, denS, den, dens, denO, denT, denI, DV.of, DV.ofB, sSeq, sRet, sRetN, sNext, sIf, sSet, sSetG, sPar, sPar3, sSetIx, sDrop, sFor, sForKeys, sBreak, sCont, dAnd, dOr, dNot, dAndT, dOrT, dNotT, dUn, dOp, dIte, dVar, dC, dTup, dLst, dNil, dCons, dCall, dCut, dPart, dNoPart, dGet1, dGet2, dApp,
  dSeq1, dRange1, dRange2, dEnum, dZip, dLc, dDc, dChain, fIsi, fBlt, fLen, fAbs, fInt1, fMax, fMin, fL1, fTuple, fList, fSorted, fDict, fBin, fCmp, fNeg, fAdd, fSub, fMul, fMod, fDiv, fPow, fInt, fInt0, fLt, fLe, fGt, fGe, fIs, fIsNot, fInD, fIx, fCut, fSeq, fRange1, fRange2, fEnum, fZip, fSetIx, fGet, fApp, fLenSet, fAug, sAug, tOf, tOfB, guardN, gset, gsets, sFrz, frz_dct, frz_lst, fEq_int, fNe_int, fEq_bl, fNe_bl, fEq_nil, fNe_nil, fEq_ints,
  TyC.name, DL.isNon, start0, List.length_cons, List.length_nil, List.map_cons, List.map_nil, List.cons_append, List.nil_append, List.getElem?_cons_zero, List.getElem?_cons_succ, List.getElem?_nil, List.set_cons_zero, List.set_cons_succ, List.set_nil, List.replicate, Nat.reduceSub, Nat.reduceAdd, mkL, mkD, dwipe, Bool.false_eq_true, if_true, if_false, ite_true, ite_false, true_and, and_true, Option.isSome_some, Option.isSome_none, Option.map_some, Option.map_none, Option.getD_some, Option.getD_none,
  tyD_non, tyD_bl, tyD_int, tyD_str, tyD_tup, tyD_lst, tyD_dct, truD_non, truD_bl, truD_int, truD_tup, truD_lst, truD_dct, asL_non, asD_non, keyD_non, asL_bl, asD_bl, keyD_bl, asL_int, asD_int, keyD_int, asL_str, asD_str, keyD_str, asL_tup, asD_tup, keyD_tup, asL_lst, asD_lst, keyD_lst, asL_dct, asD_dct, keyD_dct, asL_scr, asD_scr, keyD_scr, asL_sup, asD_sup, asL_supD, isLs_sup, tyD_supL, tyD_supD, sup_same, sup_sup, ixN_1_0, ixN_2_0, ixN_2_1, ixN_3_0, ixN_3_1, ixN_3_2, ixN_4_0, ixN_4_1, ixN_4_2, ixN_4_3, ixN_5_0, ixN_5_1, ixN_5_2, ixN_5_3, ixN_5_4, ixN_6_0, ixN_6_1, ixN_6_2, ixN_6_3, ixN_6_4, ixN_6_5, ixN_7_0, ixN_7_1, ixN_7_2, ixN_7_3, ixN_7_4, ixN_7_5, ixN_7_6, ixN_8_0, ixN_8_1, ixN_8_2, ixN_8_3, ixN_8_4, ixN_8_5, ixN_8_6, ixN_8_7, atI_0, atI_1, atI_2, atI_3, atI_4, atI_5, atI_6, atI_7, atI_8, isi_NoneType_bool, isi_NoneType_int, isi_NoneType_str, isi_NoneType_tuple, isi_NoneType_list, isi_NoneType_dict, isi_bool_bool, isi_bool_int, isi_bool_str, isi_bool_tuple, isi_bool_list, isi_bool_dict, isi_int_bool, isi_int_int, isi_int_str, isi_int_tuple, isi_int_list, isi_int_dict, isi_str_bool, isi_str_int, isi_str_str, isi_str_tuple, isi_str_list, isi_str_dict, isi_tuple_bool, isi_tuple_int, isi_tuple_str, isi_tuple_tuple, isi_tuple_list, isi_tuple_dict, isi_list_bool, isi_list_int, isi_list_str, isi_list_tuple, isi_list_list, isi_list_dict, isi_dict_bool, isi_dict_int, isi_dict_str, isi_dict_tuple, isi_dict_list, isi_dict_dict, A.f19, (mean_in hy).1]
          refine ⟨mean ms y, vl, rfl, fun k hk => hv.ks k (dr.sub k hk), dr.sml.f, hv.sm, ?_⟩
          simp only [denSs, denS, den, dens, denO, denT, denI, DV.of, DV.ofB, sSeq, sRet, sRetN, sNext, sIf, sSet, sSetG, sPar, sPar3, sSetIx, sDrop, sFor, sForKeys, sBreak, sCont, dAnd, dOr, dNot, dAndT, dOrT, dNotT, dUn, dOp, dIte, dVar, dC, dTup, dLst, dNil, dCons, dCall, dCut, dPart, dNoPart, dGet1, dGet2, dApp,
  dSeq1, dRange1, dRange2, dEnum, dZip, dLc, dDc, dChain, fIsi, fBlt, fLen, fAbs, fInt1, fMax, fMin, fL1, fTuple, fList, fSorted, fDict, fBin, fCmp, fNeg, fAdd, fSub, fMul, fMod, fDiv, fPow, fInt, fInt0, fLt, fLe, fGt, fGe, fIs, fIsNot, fInD, fIx, fCut, fSeq, fRange1, fRange2, fEnum, fZip, fSetIx, fGet, fApp, fLenSet, fAug, sAug, tOf, tOfB, guardN, gset, gsets, sFrz, frz_dct, frz_lst, fEq_int, fNe_int, fEq_bl, fNe_bl, fEq_nil, fNe_nil, fEq_ints,
  TyC.name, DL.isNon, start0, List.length_cons, List.length_nil, List.map_cons, List.map_nil, List.cons_append, List.nil_append, List.getElem?_cons_zero, List.getElem?_cons_succ, List.getElem?_nil, List.set_cons_zero, List.set_cons_succ, List.set_nil, List.replicate, Nat.reduceSub, Nat.reduceAdd, mkL, mkD, dwipe, Bool.false_eq_true, if_true, if_false, ite_true, ite_false, true_and, and_true, Option.isSome_some, Option.isSome_none, Option.map_some, Option.map_none, Option.getD_some, Option.getD_none,
  tyD_non, tyD_bl, tyD_int, tyD_str, tyD_tup, tyD_lst, tyD_dct, truD_non, truD_bl, truD_int, truD_tup, truD_lst, truD_dct, asL_non, asD_non, keyD_non, asL_bl, asD_bl, keyD_bl, asL_int, asD_int, keyD_int, asL_str, asD_str, keyD_str, asL_tup, asD_tup, keyD_tup, asL_lst, asD_lst, keyD_lst, asL_dct, asD_dct, keyD_dct, asL_scr, asD_scr, keyD_scr, asL_sup, asD_sup, asL_supD, isLs_sup, tyD_supL, tyD_supD, sup_same, sup_sup, ixN_1_0, ixN_2_0, ixN_2_1, ixN_3_0, ixN_3_1, ixN_3_2, ixN_4_0, ixN_4_1, ixN_4_2, ixN_4_3, ixN_5_0, ixN_5_1, ixN_5_2, ixN_5_3, ixN_5_4, ixN_6_0, ixN_6_1, ixN_6_2, ixN_6_3, ixN_6_4, ixN_6_5, ixN_7_0, ixN_7_1, ixN_7_2, ixN_7_3, ixN_7_4, ixN_7_5, ixN_7_6, ixN_8_0, ixN_8_1, ixN_8_2, ixN_8_3, ixN_8_4, ixN_8_5, ixN_8_6, ixN_8_7, atI_0, atI_1, atI_2, atI_3, atI_4, atI_5, atI_6, atI_7, atI_8, isi_NoneType_bool, isi_NoneType_int, isi_NoneType_str, isi_NoneType_tuple, isi_NoneType_list, isi_NoneType_dict, isi_bool_bool, isi_bool_int, isi_bool_str, isi_bool_tuple, isi_bool_list, isi_bool_dict, isi_int_bool, isi_int_int, isi_int_str, isi_int_tuple, isi_int_list, isi_int_dict, isi_str_bool, isi_str_int, isi_str_str, isi_str_tuple, isi_str_list, isi_str_dict, isi_tuple_bool, isi_tuple_int, isi_tuple_str, isi_tuple_tuple, isi_tuple_list, isi_tuple_dict, isi_list_bool, isi_list_int, isi_list_str, isi_list_tuple, isi_list_list, isi_list_dict, isi_dict_bool, isi_dict_int, isi_dict_str, isi_dict_tuple, isi_dict_list, isi_dict_dict, dput_kv]
          have h1 : (kvD il).length = il.length := List.length_map _
          have h2 : il.length = (keys il).length := (List.length_map _).symm
          have h3 := hvl.ks
          refine ⟨by rw [h1, h2, f2, h3]; have := hns.2.2.1; omega, hK _ _ ⟨ks, dn ++ [y], _, _, rfl, rfl, rfl, by rw [f1]; simp, ?_, fun x => ?_⟩⟩
          · rw [keys_put_in (by rw [f2, h3]; exact g6.sub y hy), f2]
          · rw [get_put, f3]
            by_cases e1 : x = y
            · subst e1
              rw [if_pos rfl, if_pos (by simp)]
            · rw [if_neg e1]
              by_cases e2 : x ∈ dn
              · rw [if_pos e2, if_pos (List.mem_append_left _ e2)]
              · rw [if_neg e2, if_neg (fun z => (List.mem_append.mp z).elim e2 fun z => e1 (List.mem_singleton.mp z))]
      · rintro sd S' ⟨ks, dn, il, o4, e, rfl, rfl, f1, f2, f3⟩
        have e : ks = [] := by cases ks with | nil => rfl | cons _ _ => cases e
        subst e
        rw [List.append_nil] at f1
        subst f1
        refine ⟨trivial, ?_⟩
        show denSs T (.frz 8 _) (DD Q) [some (.ref b), some (.lst ((s0 :: sr).map Sm.d)), some (.lst (ns.map D.int)), some (.dct (mnD ms)), o4, some (.dct (mnD ms)), some (.dct (kvD vl)), some (swp (mean ms) s0.fs ⟨s0.c, []⟩).d, some (.ref p2)] (sup S3 p2 (.dct (kvD il)))
        refine vs_frz rfl frz_dct ?_
        rw [sdel_sup hp2]
        show denSs T _ (DD Q) [some (.ref b), some (.lst ((s0 :: sr).map Sm.d)), some (.lst (ns.map D.int)), some (.dct (mnD ms)), o4, some (.dct (mnD ms)), some (.dct (kvD vl)), some (swp (mean ms) s0.fs ⟨s0.c, []⟩).d, some (.dct (kvD il))] S3
        have gil : ∀ x ∈ ns, get il x = (mean ms x).w (get vl) := fun x hx => by
          rw [f3]
          by_cases e1 : x ∈ mk1 ms
          · rw [if_pos e1]
          · rw [if_neg e1, mean_out e1]
            show _ = 0 + wsum [(x, 1)] (get vl)
            rw [wsum_cons, wsum_nil]
            show _ = 0 + (1 * get vl x + 0); omega
        have hil : ValOk ns il := ⟨fun k hk => by rw [f2, hvl.ks]; exact hk, fun k hk => by
          rw [f2, hvl.ks] at hk
          rw [gil k hk]; exact wbd (g6.at_ hns hk)⟩
        refine vs_retE (call_run A.f15 (vs_cons (ve_worth A (ve_slot rfl) (ve_slot rfl) tsub tsml hv) (vs_cons (ve_lworth A (ve_ixL (ve_slot rfl) atI_0) (ve_slot rfl) d0.sub d0.sml hil) vs_nil)) rfl ?_)
        have ew : (swp (mean ms) s0.fs ⟨s0.c, []⟩).w (get vl) = s0.w (get il) := by
          rw [swp_w (fun p hp => (mg p hp).g) (nil_good s0.c)]
          unfold Sm.w
          rw [wsum_nil]
          have e5 : wsum s0.fs (fun k => (mean ms k).c + wsum (mean ms k).fs (get vl)) = wsum s0.fs (get il) := by
            unfold wsum
            congr 1
            refine List.map_congr_left fun p hp => ?_
            rw [gil p.1 (d0.sub _ (List.mem_map_of_mem hp))]; rfl
          rw [e5]; show s0.c + 0 + _ = _; omega
        rw [ew]
        exact ⟨_, _, .int (s0.w (get il)), rfl, .int _ _, .int _ _, .of q1⟩
end K00
set_option Elab.async false
set_option linter.all false
set_option maxRecDepth 100000
set_option maxHeartbeats 1000000
namespace DL
open PySem L2
section
variable {T : Tb} {sd : Slots} {S : Store} {Dd : DEnds} {r : CSs}
theorem ve_glb {j : Nat} {d : D} (h : T.glb j = some d) : Ve T sd S (.glb j) d := fun Q q => by
  show (match T.glb j with | some d => dC d | none => dFail) sd S Q
  rw [h]; exact q
theorem t_not {i : Nat} {es : CEs} {K : Bool → Store → Prop} (h : Ve T sd S (.call i es) (.bl true)) (hK : K false S) : (den T (.not (.call i es))).t sd S K := h _ hK
theorem vs_ifsR {c : CE} {a : CSs} (P : Store → Prop) (h : ∀ K : Bool → Store → Prop, (∀ S1, P S1 → K false S1) → (den T c).t sd S K) (q : ∀ S1, P S1 → denSs T r Dd sd S1) : denSs T (.cons (.ifs c a .nil) r) Dd sd S := h _ fun S1 p => q S1 p
theorem vs_setlc {i : Nat} {own : Bool} {vs : List (Str × Nat)} {g : CG} {it : CI} {t : CT} {e : CE} (h : (den T (.lc own vs g it t e)).v sd S fun x S1 => denSs T r Dd (sd.set i (some x)) S1) : denSs T (.cons (.setlc i own vs g it t e) r) Dd sd S := h
theorem vs_forR {g : CG} {e : CE} {b : CSs} (h : (den T e).v sd S fun x S1 => ∃ n : Int, x = .int n ∧ n ≤ sizeLine ∧ -2 ^ 62 ≤ n ∧ forL (fun _ => True) g (denSs T b) { Dd with nx := fun sd' S' => denSs T r Dd sd' S' } (rangeD 0 n) sd S1) (mono : ∀ K K' : DQ, (∀ x S, K x S → K' x S) → (den T e).v sd S K → (den T e).v sd S K') : denSs T (.cons (.for_ g (.range1 e) b) r) Dd sd S :=
  mono _ (fun x S1 => fRange1 x S1 fun src S2 => forL src.chk g (denSs T b) { Dd with nx := fun sd' S' => denSs T r Dd sd' S' } src.xs sd S2) (fun x S1 ⟨n, hx, h1, h2, h3⟩ => by subst hx; exact ⟨h1, h2, h3⟩) h
theorem vs_forI {g : CG} {e : CE} {b : CSs} {n : Int} (he : Ve T sd S e (.int n)) (h1 : n ≤ sizeLine) (h2 : -2 ^ 62 ≤ n) (h : forL (fun _ => True) g (denSs T b) { Dd with nx := fun sd' S' => denSs T r Dd sd' S' } (rangeD 0 n) sd S) : denSs T (.cons (.for_ g (.range1 e) b) r) Dd sd S := he _ ⟨h1, h2, h⟩
end
def cI (ns : List Int) (lo hi : Option Int) : List Int := (ns.drop (HT.sIx ns.length 0 lo)).take (HT.sIx ns.length ns.length hi - HT.sIx ns.length 0 lo)
theorem cutD_ints (ns : List Int) (lo hi : Option Int) : cutD (ns.map D.int) lo hi = (cI ns lo hi).map D.int := by
  unfold cutD cI
  rw [List.length_map, List.map_take, List.map_drop]
theorem rangeD_mem {n : Int} {x : D} (h : x ∈ rangeD 0 n) : ∃ i : Int, x = .int i ∧ 0 ≤ i ∧ i < n := by
  unfold rangeD at h
  obtain ⟨i, hi, rfl⟩ := List.mem_map.mp h
  rw [List.mem_range] at hi
  exact ⟨0 + (i : Int), rfl, by omega, by omega⟩
end DL
namespace K00
open PySem L2 DL
structure FnsL (T : Tb) : Prop where
  a : FnsA T
  f4 : T.fn 4 = some (1, spSumOf)
  f10 : T.fn 10 = some (1, spNamesOf)
  f11 : T.fn 11 = some (1, spNamesIn)
  f12 : T.fn 12 = some (2, spCell)
  f14 : T.fn 14 = some (1, spBox)
  f21 : T.fn 21 = some (1, spSum)
  f22 : T.fn 22 = some (3, spDraw)
  f23 : T.fn 23 = some (1, spLawNames)
  f24 : T.fn 24 = some (2, spOdd)
  f26 : T.fn 26 = some (4, spSumsRight)
  f27 : T.fn 27 = some (3, spSwaps)
  kSum : T.kw 2 = [([("thing" : Str)], [0])]
  kOf : T.kw 4 = [([("operand" : Str)], [0])]
  kIn : T.kw 11 = [([("sums" : Str)], [0])]
  res : T.glb 0 = some (.int (-1))
theorem r_law {T : Tb} (L : FnsL T) {ds : List D} {S : Store} {Q : DQ} (h : spLawD 63 ds S Q) : denSs T core_law (DD Q) (start0 N_law.length ds) S := by
  obtain ⟨ns0, rfl, hlen, hS, q⟩ := h
  have A := L.a
  have hsz : (1000 : Nat) ≤ sizeLine := by decide
  unfold core_law
  show denSs T _ (DD Q) [some (.scr ns0), none, none, none, none, none, none, none, none, none, none, none] S
  refine vs_ifsF (fun K hK => t_not (ve_call A.f15 (vs_cons (ve_glb L.res) (vs_cons ve_neg vs_nil)) rfl fun Q' q' => ⟨_, _, .int (-1), rfl, .int _ _, .int _ _, q'⟩) hK) ?_
  have emax : ∃ m : Int, 0 ≤ m ∧ m ≤ 5 ∧ Ve T [some (.scr ns0), none, none, none, none, none, none, none, none, none, none, none] S (.blt false .max (.cons (.int 2) (.cons (.blt false .min (.cons (.int 5) (.cons (.blt false .len (.cons (.slot 0) .nil)) .nil))) .nil))) (.int m) := by
    refine ⟨if (if (ns0.length : Int) < 5 then (ns0.length : Int) else 5) > 2 then (if (ns0.length : Int) < 5 then (ns0.length : Int) else 5) else 2, ?_, ?_, fun K hK => ?_⟩
    · split <;> split <;> omega
    · split <;> split <;> omega
    · simp only [denSs, denS, den, dens, denO, denT, denI, DV.of, DV.ofB, sSeq, sRet, sRetN, sNext, sIf, sSet, sSetG, sPar, sPar3, sSetIx, sDrop, sFor, sForKeys, sBreak, sCont, dAnd, dOr, dNot, dAndT, dOrT, dNotT, dUn, dOp, dIte, dVar, dC, dTup, dLst, dNil, dCons, dCall, dCut, dPart, dNoPart, dGet1, dGet2, dApp,
  dSeq1, dRange1, dRange2, dEnum, dZip, dLc, dDc, dChain, fIsi, fBlt, fLen, fAbs, fInt1, fMax, fMin, fL1, fTuple, fList, fSorted, fDict, fBin, fCmp, fNeg, fAdd, fSub, fMul, fMod, fDiv, fPow, fInt, fInt0, fLt, fLe, fGt, fGe, fIs, fIsNot, fInD, fIx, fCut, fSeq, fRange1, fRange2, fEnum, fZip, fSetIx, fGet, fApp, fLenSet, fAug, sAug, tOf, tOfB, guardN, gset, gsets, sFrz, frz_dct, frz_lst, fEq_int, fNe_int, fEq_bl, fNe_bl, fEq_nil, fNe_nil, fEq_ints,
  TyC.name, DL.isNon, start0, List.length_cons, List.length_nil, List.map_cons, List.map_nil, List.cons_append, List.nil_append, List.getElem?_cons_zero, List.getElem?_cons_succ, List.getElem?_nil, List.set_cons_zero, List.set_cons_succ, List.set_nil, List.replicate, Nat.reduceSub, Nat.reduceAdd, mkL, mkD, dwipe, Bool.false_eq_true, if_true, if_false, ite_true, ite_false, true_and, and_true, Option.isSome_some, Option.isSome_none, Option.map_some, Option.map_none, Option.getD_some, Option.getD_none,
  tyD_non, tyD_bl, tyD_int, tyD_str, tyD_tup, tyD_lst, tyD_dct, truD_non, truD_bl, truD_int, truD_tup, truD_lst, truD_dct, asL_non, asD_non, keyD_non, asL_bl, asD_bl, keyD_bl, asL_int, asD_int, keyD_int, asL_str, asD_str, keyD_str, asL_tup, asD_tup, keyD_tup, asL_lst, asD_lst, keyD_lst, asL_dct, asD_dct, keyD_dct, asL_scr, asD_scr, keyD_scr, asL_sup, asD_sup, asL_supD, isLs_sup, tyD_supL, tyD_supD, sup_same, sup_sup, ixN_1_0, ixN_2_0, ixN_2_1, ixN_3_0, ixN_3_1, ixN_3_2, ixN_4_0, ixN_4_1, ixN_4_2, ixN_4_3, ixN_5_0, ixN_5_1, ixN_5_2, ixN_5_3, ixN_5_4, ixN_6_0, ixN_6_1, ixN_6_2, ixN_6_3, ixN_6_4, ixN_6_5, ixN_7_0, ixN_7_1, ixN_7_2, ixN_7_3, ixN_7_4, ixN_7_5, ixN_7_6, ixN_8_0, ixN_8_1, ixN_8_2, ixN_8_3, ixN_8_4, ixN_8_5, ixN_8_6, ixN_8_7, atI_0, atI_1, atI_2, atI_3, atI_4, atI_5, atI_6, atI_7, atI_8, isi_NoneType_bool, isi_NoneType_int, isi_NoneType_str, isi_NoneType_tuple, isi_NoneType_list, isi_NoneType_dict, isi_bool_bool, isi_bool_int, isi_bool_str, isi_bool_tuple, isi_bool_list, isi_bool_dict, isi_int_bool, isi_int_int, isi_int_str, isi_int_tuple, isi_int_list, isi_int_dict, isi_str_bool, isi_str_int, isi_str_str, isi_str_tuple, isi_str_list, isi_str_dict, isi_tuple_bool, isi_tuple_int, isi_tuple_str, isi_tuple_tuple, isi_tuple_list, isi_tuple_dict, isi_list_bool, isi_list_int, isi_list_str, isi_list_tuple, isi_list_list, isi_list_dict, isi_dict_bool, isi_dict_int, isi_dict_str, isi_dict_tuple, isi_dict_list, isi_dict_dict]
      exact hK
  obtain ⟨m, m0, m5, hm⟩ := emax
  refine vs_forI hm (by omega) (by omega) ?_
  refine forL_ind (fun xs sd S' => (∀ x ∈ xs, ∃ i : Int, x = .int i ∧ 0 ≤ i ∧ i < 1000) ∧ ∃ o1 o2 o3 o4 o5 o6 o7 o8 o9 o10 o11, sd = [some (.scr ns0), o1, o2, o3, o4, o5, o6, o7, o8, o9, o10, o11]) ?_ ?_ _ _ _ ⟨fun x hx => (let ⟨i, h1, h2, h3⟩ := rangeD_mem hx; ⟨i, h1, h2, by omega⟩), none, none, none, none, none, none, none, none, none, none, none, rfl⟩
  · rintro x xs sd S ⟨hx, o1, o2, o3, o4, o5, o6, o7, o8, o9, o10, o11, rfl⟩
    obtain ⟨i, rfl, i0, i1⟩ := hx _ List.mem_cons_self
    refine ⟨trivial, _, rfl, fun K hK => ?_⟩
    have hK : ∀ a2 a3 a4 a5 a6 a7 a8 a9 a10 a11 S2, K [some (.scr ns0), some (.int i), a2, a3, a4, a5, a6, a7, a8, a9, a10, a11] S2 := fun _ _ _ _ _ _ _ _ _ _ _ => hK _ _ ⟨fun y hy => hx y (List.mem_cons_of_mem _ hy), _, _, _, _, _, _, _, _, _, _, _, rfl⟩
    show denSs T _ { DD Q with nx := K, ct := K, bk := _ } [some (.scr ns0), some (.int i), o2, o3, o4, o5, o6, o7, o8, o9, o10, o11] S
    -- box
    have e2 : ∀ K : DQ, (∀ (b : Addr) (bx : Bx), S b = none → Bx.ok bx 0 → K (.ref b) (sup S b bx.o)) → (den T (.call 14 (.cons (.call 12 (.cons (.slot 0) (.cons (.slot 1) .nil))) .nil))).v [some (.scr ns0), some (.int i), o2, o3, o4, o5, o6, o7, o8, o9, o10, o11] S K := by
      intro K hK
      simp only [denSs, denS, den, dens, denO, denT, denI, DV.of, DV.ofB, sSeq, sRet, sRetN, sNext, sIf, sSet, sSetG, sPar, sPar3, sSetIx, sDrop, sFor, sForKeys, sBreak, sCont, dAnd, dOr, dNot, dAndT, dOrT, dNotT, dUn, dOp, dIte, dVar, dC, dTup, dLst, dNil, dCons, dCall, dCut, dPart, dNoPart, dGet1, dGet2, dApp,
  dSeq1, dRange1, dRange2, dEnum, dZip, dLc, dDc, dChain, fIsi, fBlt, fLen, fAbs, fInt1, fMax, fMin, fL1, fTuple, fList, fSorted, fDict, fBin, fCmp, fNeg, fAdd, fSub, fMul, fMod, fDiv, fPow, fInt, fInt0, fLt, fLe, fGt, fGe, fIs, fIsNot, fInD, fIx, fCut, fSeq, fRange1, fRange2, fEnum, fZip, fSetIx, fGet, fApp, fLenSet, fAug, sAug, tOf, tOfB, guardN, gset, gsets, sFrz, frz_dct, frz_lst, fEq_int, fNe_int, fEq_bl, fNe_bl, fEq_nil, fNe_nil, fEq_ints,
  TyC.name, DL.isNon, start0, List.length_cons, List.length_nil, List.map_cons, List.map_nil, List.cons_append, List.nil_append, List.getElem?_cons_zero, List.getElem?_cons_succ, List.getElem?_nil, List.set_cons_zero, List.set_cons_succ, List.set_nil, List.replicate, Nat.reduceSub, Nat.reduceAdd, mkL, mkD, dwipe, Bool.false_eq_true, if_true, if_false, ite_true, ite_false, true_and, and_true, Option.isSome_some, Option.isSome_none, Option.map_some, Option.map_none, Option.getD_some, Option.getD_none,
  tyD_non, tyD_bl, tyD_int, tyD_str, tyD_tup, tyD_lst, tyD_dct, truD_non, truD_bl, truD_int, truD_tup, truD_lst, truD_dct, asL_non, asD_non, keyD_non, asL_bl, asD_bl, keyD_bl, asL_int, asD_int, keyD_int, asL_str, asD_str, keyD_str, asL_tup, asD_tup, keyD_tup, asL_lst, asD_lst, keyD_lst, asL_dct, asD_dct, keyD_dct, asL_scr, asD_scr, keyD_scr, asL_sup, asD_sup, asL_supD, isLs_sup, tyD_supL, tyD_supD, sup_same, sup_sup, ixN_1_0, ixN_2_0, ixN_2_1, ixN_3_0, ixN_3_1, ixN_3_2, ixN_4_0, ixN_4_1, ixN_4_2, ixN_4_3, ixN_5_0, ixN_5_1, ixN_5_2, ixN_5_3, ixN_5_4, ixN_6_0, ixN_6_1, ixN_6_2, ixN_6_3, ixN_6_4, ixN_6_5, ixN_7_0, ixN_7_1, ixN_7_2, ixN_7_3, ixN_7_4, ixN_7_5, ixN_7_6, ixN_8_0, ixN_8_1, ixN_8_2, ixN_8_3, ixN_8_4, ixN_8_5, ixN_8_6, ixN_8_7, atI_0, atI_1, atI_2, atI_3, atI_4, atI_5, atI_6, atI_7, atI_8, isi_NoneType_bool, isi_NoneType_int, isi_NoneType_str, isi_NoneType_tuple, isi_NoneType_list, isi_NoneType_dict, isi_bool_bool, isi_bool_int, isi_bool_str, isi_bool_tuple, isi_bool_list, isi_bool_dict, isi_int_bool, isi_int_int, isi_int_str, isi_int_tuple, isi_int_list, isi_int_dict, isi_str_bool, isi_str_int, isi_str_str, isi_str_tuple, isi_str_list, isi_str_dict, isi_tuple_bool, isi_tuple_int, isi_tuple_str, isi_tuple_tuple, isi_tuple_list, isi_tuple_dict, isi_list_bool, isi_list_int, isi_list_str, isi_list_tuple, isi_list_list, isi_list_dict, isi_dict_bool, isi_dict_int, isi_dict_str, isi_dict_tuple, isi_dict_list, isi_dict_dict, L.f12, L.f14]
      exact ⟨ns0, i, rfl, i0, i1, fun g => ⟨g, rfl, hK⟩⟩
    refine vs_setE (e2 _ fun b bx hb hbx => ?_)
    show denSs T _ { DD Q with nx := K, ct := K, bk := _ } [some (.scr ns0), some (.int i), some (.ref b), o3, o4, o5, o6, o7, o8, o9, o10, o11] (sup S b bx.o)
    -- names
    have e3 : ∀ K : DQ, (∀ (ns : List Int) (bx2 : Bx), Names ns → Bx.ok bx2 2 → K (.lst (ns.map D.int)) (sup S b bx2.o)) → (den T (.blt false .sorted (.cons (.cut false (.cut false (.lst false (.cons (.neg (.int 1)) (.cons (.int 0) (.cons (.int 1) (.cons (.int 4) (.cons (.int 9) (.cons (.op false .Pow (.int 10) (.int 6)) .nil))))))) (.one (.call 13 (.cons (.slot 2) (.cons (.int 3) .nil)))) .no) .no (.one (.op false .Add (.int 1) (.call 13 (.cons (.slot 2) (.cons (.int 5) .nil)))))) .nil))).v
        [some (.scr ns0), some (.int i), some (.ref b), o3, o4, o5, o6, o7, o8, o9, o10, o11] (sup S b bx.o) K := by
      intro K hK
      simp only [denSs, denS, den, dens, denO, denT, denI, DV.of, DV.ofB, sSeq, sRet, sRetN, sNext, sIf, sSet, sSetG, sPar, sPar3, sSetIx, sDrop, sFor, sForKeys, sBreak, sCont, dAnd, dOr, dNot, dAndT, dOrT, dNotT, dUn, dOp, dIte, dVar, dC, dTup, dLst, dNil, dCons, dCall, dCut, dPart, dNoPart, dGet1, dGet2, dApp,
  dSeq1, dRange1, dRange2, dEnum, dZip, dLc, dDc, dChain, fIsi, fBlt, fLen, fAbs, fInt1, fMax, fMin, fL1, fTuple, fList, fSorted, fDict, fBin, fCmp, fNeg, fAdd, fSub, fMul, fMod, fDiv, fPow, fInt, fInt0, fLt, fLe, fGt, fGe, fIs, fIsNot, fInD, fIx, fCut, fSeq, fRange1, fRange2, fEnum, fZip, fSetIx, fGet, fApp, fLenSet, fAug, sAug, tOf, tOfB, guardN, gset, gsets, sFrz, frz_dct, frz_lst, fEq_int, fNe_int, fEq_bl, fNe_bl, fEq_nil, fNe_nil, fEq_ints,
  TyC.name, DL.isNon, start0, List.length_cons, List.length_nil, List.map_cons, List.map_nil, List.cons_append, List.nil_append, List.getElem?_cons_zero, List.getElem?_cons_succ, List.getElem?_nil, List.set_cons_zero, List.set_cons_succ, List.set_nil, List.replicate, Nat.reduceSub, Nat.reduceAdd, mkL, mkD, dwipe, Bool.false_eq_true, if_true, if_false, ite_true, ite_false, true_and, and_true, Option.isSome_some, Option.isSome_none, Option.map_some, Option.map_none, Option.getD_some, Option.getD_none,
  tyD_non, tyD_bl, tyD_int, tyD_str, tyD_tup, tyD_lst, tyD_dct, truD_non, truD_bl, truD_int, truD_tup, truD_lst, truD_dct, asL_non, asD_non, keyD_non, asL_bl, asD_bl, keyD_bl, asL_int, asD_int, keyD_int, asL_str, asD_str, keyD_str, asL_tup, asD_tup, keyD_tup, asL_lst, asD_lst, keyD_lst, asL_dct, asD_dct, keyD_dct, asL_scr, asD_scr, keyD_scr, asL_sup, asD_sup, asL_supD, isLs_sup, tyD_supL, tyD_supD, sup_same, sup_sup, ixN_1_0, ixN_2_0, ixN_2_1, ixN_3_0, ixN_3_1, ixN_3_2, ixN_4_0, ixN_4_1, ixN_4_2, ixN_4_3, ixN_5_0, ixN_5_1, ixN_5_2, ixN_5_3, ixN_5_4, ixN_6_0, ixN_6_1, ixN_6_2, ixN_6_3, ixN_6_4, ixN_6_5, ixN_7_0, ixN_7_1, ixN_7_2, ixN_7_3, ixN_7_4, ixN_7_5, ixN_7_6, ixN_8_0, ixN_8_1, ixN_8_2, ixN_8_3, ixN_8_4, ixN_8_5, ixN_8_6, ixN_8_7, atI_0, atI_1, atI_2, atI_3, atI_4, atI_5, atI_6, atI_7, atI_8, isi_NoneType_bool, isi_NoneType_int, isi_NoneType_str, isi_NoneType_tuple, isi_NoneType_list, isi_NoneType_dict, isi_bool_bool, isi_bool_int, isi_bool_str, isi_bool_tuple, isi_bool_list, isi_bool_dict, isi_int_bool, isi_int_int, isi_int_str, isi_int_tuple, isi_int_list, isi_int_dict, isi_str_bool, isi_str_int, isi_str_str, isi_str_tuple, isi_str_list, isi_str_dict, isi_tuple_bool, isi_tuple_int, isi_tuple_str, isi_tuple_tuple, isi_tuple_list, isi_tuple_dict, isi_list_bool, isi_list_int, isi_list_str, isi_list_tuple, isi_list_list, isi_list_dict, isi_dict_bool, isi_dict_int, isi_dict_str, isi_dict_tuple, isi_dict_list, isi_dict_dict, A.f13]
      refine ⟨cpow (by decide) (by decide) (by decide) (by decide), by decide, b, 3, 0, bx, rfl, by decide, by decide, sup_same, hbx, by decide, fun r bx1 r0 r1 hb1 => ?_⟩
      simp only [denSs, denS, den, dens, denO, denT, denI, DV.of, DV.ofB, sSeq, sRet, sRetN, sNext, sIf, sSet, sSetG, sPar, sPar3, sSetIx, sDrop, sFor, sForKeys, sBreak, sCont, dAnd, dOr, dNot, dAndT, dOrT, dNotT, dUn, dOp, dIte, dVar, dC, dTup, dLst, dNil, dCons, dCall, dCut, dPart, dNoPart, dGet1, dGet2, dApp,
  dSeq1, dRange1, dRange2, dEnum, dZip, dLc, dDc, dChain, fIsi, fBlt, fLen, fAbs, fInt1, fMax, fMin, fL1, fTuple, fList, fSorted, fDict, fBin, fCmp, fNeg, fAdd, fSub, fMul, fMod, fDiv, fPow, fInt, fInt0, fLt, fLe, fGt, fGe, fIs, fIsNot, fInD, fIx, fCut, fSeq, fRange1, fRange2, fEnum, fZip, fSetIx, fGet, fApp, fLenSet, fAug, sAug, tOf, tOfB, guardN, gset, gsets, sFrz, frz_dct, frz_lst, fEq_int, fNe_int, fEq_bl, fNe_bl, fEq_nil, fNe_nil, fEq_ints,
  TyC.name, DL.isNon, start0, List.length_cons, List.length_nil, List.map_cons, List.map_nil, List.cons_append, List.nil_append, List.getElem?_cons_zero, List.getElem?_cons_succ, List.getElem?_nil, List.set_cons_zero, List.set_cons_succ, List.set_nil, List.replicate, Nat.reduceSub, Nat.reduceAdd, mkL, mkD, dwipe, Bool.false_eq_true, if_true, if_false, ite_true, ite_false, true_and, and_true, Option.isSome_some, Option.isSome_none, Option.map_some, Option.map_none, Option.getD_some, Option.getD_none,
  tyD_non, tyD_bl, tyD_int, tyD_str, tyD_tup, tyD_lst, tyD_dct, truD_non, truD_bl, truD_int, truD_tup, truD_lst, truD_dct, asL_non, asD_non, keyD_non, asL_bl, asD_bl, keyD_bl, asL_int, asD_int, keyD_int, asL_str, asD_str, keyD_str, asL_tup, asD_tup, keyD_tup, asL_lst, asD_lst, keyD_lst, asL_dct, asD_dct, keyD_dct, asL_scr, asD_scr, keyD_scr, asL_sup, asD_sup, asL_supD, isLs_sup, tyD_supL, tyD_supD, sup_same, sup_sup, ixN_1_0, ixN_2_0, ixN_2_1, ixN_3_0, ixN_3_1, ixN_3_2, ixN_4_0, ixN_4_1, ixN_4_2, ixN_4_3, ixN_5_0, ixN_5_1, ixN_5_2, ixN_5_3, ixN_5_4, ixN_6_0, ixN_6_1, ixN_6_2, ixN_6_3, ixN_6_4, ixN_6_5, ixN_7_0, ixN_7_1, ixN_7_2, ixN_7_3, ixN_7_4, ixN_7_5, ixN_7_6, ixN_8_0, ixN_8_1, ixN_8_2, ixN_8_3, ixN_8_4, ixN_8_5, ixN_8_6, ixN_8_7, atI_0, atI_1, atI_2, atI_3, atI_4, atI_5, atI_6, atI_7, atI_8, isi_NoneType_bool, isi_NoneType_int, isi_NoneType_str, isi_NoneType_tuple, isi_NoneType_list, isi_NoneType_dict, isi_bool_bool, isi_bool_int, isi_bool_str, isi_bool_tuple, isi_bool_list, isi_bool_dict, isi_int_bool, isi_int_int, isi_int_str, isi_int_tuple, isi_int_list, isi_int_dict, isi_str_bool, isi_str_int, isi_str_str, isi_str_tuple, isi_str_list, isi_str_dict, isi_tuple_bool, isi_tuple_int, isi_tuple_str, isi_tuple_tuple, isi_tuple_list, isi_tuple_dict, isi_list_bool, isi_list_int, isi_list_str, isi_list_tuple, isi_list_list, isi_list_dict, isi_dict_bool, isi_dict_int, isi_dict_str, isi_dict_tuple, isi_dict_list, isi_dict_dict]
      refine ⟨b, 5, 1, bx1, rfl, by decide, by decide, sup_same, hb1, by decide, fun r2 bx2 r20 r21 hb2 => ?_⟩
      simp only [denSs, denS, den, dens, denO, denT, denI, DV.of, DV.ofB, sSeq, sRet, sRetN, sNext, sIf, sSet, sSetG, sPar, sPar3, sSetIx, sDrop, sFor, sForKeys, sBreak, sCont, dAnd, dOr, dNot, dAndT, dOrT, dNotT, dUn, dOp, dIte, dVar, dC, dTup, dLst, dNil, dCons, dCall, dCut, dPart, dNoPart, dGet1, dGet2, dApp,
  dSeq1, dRange1, dRange2, dEnum, dZip, dLc, dDc, dChain, fIsi, fBlt, fLen, fAbs, fInt1, fMax, fMin, fL1, fTuple, fList, fSorted, fDict, fBin, fCmp, fNeg, fAdd, fSub, fMul, fMod, fDiv, fPow, fInt, fInt0, fLt, fLe, fGt, fGe, fIs, fIsNot, fInD, fIx, fCut, fSeq, fRange1, fRange2, fEnum, fZip, fSetIx, fGet, fApp, fLenSet, fAug, sAug, tOf, tOfB, guardN, gset, gsets, sFrz, frz_dct, frz_lst, fEq_int, fNe_int, fEq_bl, fNe_bl, fEq_nil, fNe_nil, fEq_ints,
  TyC.name, DL.isNon, start0, List.length_cons, List.length_nil, List.map_cons, List.map_nil, List.cons_append, List.nil_append, List.getElem?_cons_zero, List.getElem?_cons_succ, List.getElem?_nil, List.set_cons_zero, List.set_cons_succ, List.set_nil, List.replicate, Nat.reduceSub, Nat.reduceAdd, mkL, mkD, dwipe, Bool.false_eq_true, if_true, if_false, ite_true, ite_false, true_and, and_true, Option.isSome_some, Option.isSome_none, Option.map_some, Option.map_none, Option.getD_some, Option.getD_none,
  tyD_non, tyD_bl, tyD_int, tyD_str, tyD_tup, tyD_lst, tyD_dct, truD_non, truD_bl, truD_int, truD_tup, truD_lst, truD_dct, asL_non, asD_non, keyD_non, asL_bl, asD_bl, keyD_bl, asL_int, asD_int, keyD_int, asL_str, asD_str, keyD_str, asL_tup, asD_tup, keyD_tup, asL_lst, asD_lst, keyD_lst, asL_dct, asD_dct, keyD_dct, asL_scr, asD_scr, keyD_scr, asL_sup, asD_sup, asL_supD, isLs_sup, tyD_supL, tyD_supD, sup_same, sup_sup, ixN_1_0, ixN_2_0, ixN_2_1, ixN_3_0, ixN_3_1, ixN_3_2, ixN_4_0, ixN_4_1, ixN_4_2, ixN_4_3, ixN_5_0, ixN_5_1, ixN_5_2, ixN_5_3, ixN_5_4, ixN_6_0, ixN_6_1, ixN_6_2, ixN_6_3, ixN_6_4, ixN_6_5, ixN_7_0, ixN_7_1, ixN_7_2, ixN_7_3, ixN_7_4, ixN_7_5, ixN_7_6, ixN_8_0, ixN_8_1, ixN_8_2, ixN_8_3, ixN_8_4, ixN_8_5, ixN_8_6, ixN_8_7, atI_0, atI_1, atI_2, atI_3, atI_4, atI_5, atI_6, atI_7, atI_8, isi_NoneType_bool, isi_NoneType_int, isi_NoneType_str, isi_NoneType_tuple, isi_NoneType_list, isi_NoneType_dict, isi_bool_bool, isi_bool_int, isi_bool_str, isi_bool_tuple, isi_bool_list, isi_bool_dict, isi_int_bool, isi_int_int, isi_int_str, isi_int_tuple, isi_int_list, isi_int_dict, isi_str_bool, isi_str_int, isi_str_str, isi_str_tuple, isi_str_list, isi_str_dict, isi_tuple_bool, isi_tuple_int, isi_tuple_str, isi_tuple_tuple, isi_tuple_list, isi_tuple_dict, isi_list_bool, isi_list_int, isi_list_str, isi_list_tuple, isi_list_list, isi_list_dict, isi_dict_bool, isi_dict_int, isi_dict_str, isi_dict_tuple, isi_dict_list, isi_dict_dict]
      have e1 : cutD [D.int (-1), D.int 0, D.int 1, D.int 4, D.int 9, D.int (10 ^ Int.toNat 6)] (some r) none = (cI [-1, 0, 1, 4, 9, 10 ^ Int.toNat 6] (some r) none).map D.int := cutD_ints [-1, 0, 1, 4, 9, 10 ^ Int.toNat 6] _ _
      rw [e1, cutD_ints, asInts_map]
      refine hK _ bx2 ?_ hb2
      have c1 : r = 0 ∨ r = 1 ∨ r = 2 := by omega
      have c2 : r2 = 0 ∨ r2 = 1 ∨ r2 = 2 ∨ r2 = 3 ∨ r2 = 4 := by omega
      unfold Names
      rcases c1 with rfl | rfl | rfl <;> rcases c2 with rfl | rfl | rfl | rfl | rfl <;> decide +kernel
    refine vs_setE (e3 _ fun ns bx2 hns hb2 => ?_)
    show denSs T _ { DD Q with nx := K, ct := K, bk := _ } [some (.scr ns0), some (.int i), some (.ref b), some (.lst (ns.map D.int)), o4, o5, o6, o7, o8, o9, o10, o11] (sup S b bx2.o)
    -- size
    have e4 : ∀ K : DQ, (∀ (sz : Int) (bx3 : Bx), 0 ≤ sz → sz ≤ 10000000000000 → Bx.ok bx3 3 → K (.int sz) (sup S b bx3.o)) → (den T (.ix (.lst false (.cons (.int 1) (.cons (.int 1) (.cons (.op false .Pow (.int 10) (.int 13)) .nil)))) (.call 13 (.cons (.slot 2) (.cons (.int 3) .nil))))).v
        [some (.scr ns0), some (.int i), some (.ref b), some (.lst (ns.map D.int)), o4, o5, o6, o7, o8, o9, o10, o11] (sup S b bx2.o) K := by
      intro K hK
      simp only [denSs, denS, den, dens, denO, denT, denI, DV.of, DV.ofB, sSeq, sRet, sRetN, sNext, sIf, sSet, sSetG, sPar, sPar3, sSetIx, sDrop, sFor, sForKeys, sBreak, sCont, dAnd, dOr, dNot, dAndT, dOrT, dNotT, dUn, dOp, dIte, dVar, dC, dTup, dLst, dNil, dCons, dCall, dCut, dPart, dNoPart, dGet1, dGet2, dApp,
  dSeq1, dRange1, dRange2, dEnum, dZip, dLc, dDc, dChain, fIsi, fBlt, fLen, fAbs, fInt1, fMax, fMin, fL1, fTuple, fList, fSorted, fDict, fBin, fCmp, fNeg, fAdd, fSub, fMul, fMod, fDiv, fPow, fInt, fInt0, fLt, fLe, fGt, fGe, fIs, fIsNot, fInD, fIx, fCut, fSeq, fRange1, fRange2, fEnum, fZip, fSetIx, fGet, fApp, fLenSet, fAug, sAug, tOf, tOfB, guardN, gset, gsets, sFrz, frz_dct, frz_lst, fEq_int, fNe_int, fEq_bl, fNe_bl, fEq_nil, fNe_nil, fEq_ints,
  TyC.name, DL.isNon, start0, List.length_cons, List.length_nil, List.map_cons, List.map_nil, List.cons_append, List.nil_append, List.getElem?_cons_zero, List.getElem?_cons_succ, List.getElem?_nil, List.set_cons_zero, List.set_cons_succ, List.set_nil, List.replicate, Nat.reduceSub, Nat.reduceAdd, mkL, mkD, dwipe, Bool.false_eq_true, if_true, if_false, ite_true, ite_false, true_and, and_true, Option.isSome_some, Option.isSome_none, Option.map_some, Option.map_none, Option.getD_some, Option.getD_none,
  tyD_non, tyD_bl, tyD_int, tyD_str, tyD_tup, tyD_lst, tyD_dct, truD_non, truD_bl, truD_int, truD_tup, truD_lst, truD_dct, asL_non, asD_non, keyD_non, asL_bl, asD_bl, keyD_bl, asL_int, asD_int, keyD_int, asL_str, asD_str, keyD_str, asL_tup, asD_tup, keyD_tup, asL_lst, asD_lst, keyD_lst, asL_dct, asD_dct, keyD_dct, asL_scr, asD_scr, keyD_scr, asL_sup, asD_sup, asL_supD, isLs_sup, tyD_supL, tyD_supD, sup_same, sup_sup, ixN_1_0, ixN_2_0, ixN_2_1, ixN_3_0, ixN_3_1, ixN_3_2, ixN_4_0, ixN_4_1, ixN_4_2, ixN_4_3, ixN_5_0, ixN_5_1, ixN_5_2, ixN_5_3, ixN_5_4, ixN_6_0, ixN_6_1, ixN_6_2, ixN_6_3, ixN_6_4, ixN_6_5, ixN_7_0, ixN_7_1, ixN_7_2, ixN_7_3, ixN_7_4, ixN_7_5, ixN_7_6, ixN_8_0, ixN_8_1, ixN_8_2, ixN_8_3, ixN_8_4, ixN_8_5, ixN_8_6, ixN_8_7, atI_0, atI_1, atI_2, atI_3, atI_4, atI_5, atI_6, atI_7, atI_8, isi_NoneType_bool, isi_NoneType_int, isi_NoneType_str, isi_NoneType_tuple, isi_NoneType_list, isi_NoneType_dict, isi_bool_bool, isi_bool_int, isi_bool_str, isi_bool_tuple, isi_bool_list, isi_bool_dict, isi_int_bool, isi_int_int, isi_int_str, isi_int_tuple, isi_int_list, isi_int_dict, isi_str_bool, isi_str_int, isi_str_str, isi_str_tuple, isi_str_list, isi_str_dict, isi_tuple_bool, isi_tuple_int, isi_tuple_str, isi_tuple_tuple, isi_tuple_list, isi_tuple_dict, isi_list_bool, isi_list_int, isi_list_str, isi_list_tuple, isi_list_list, isi_list_dict, isi_dict_bool, isi_dict_int, isi_dict_str, isi_dict_tuple, isi_dict_list, isi_dict_dict, A.f13]
      refine ⟨cpow (by decide) (by decide) (by decide) (by decide), by decide, b, 3, 2, bx2, rfl, by decide, by decide, sup_same, hb2, by decide, fun r bx3 r0 r1 hb3 => ?_⟩
      obtain ⟨v, hv, ev⟩ := atI_lit [1, 1, 10 ^ Int.toNat 13] r0 r1
      simp only [List.map_cons, List.map_nil] at ev
      simp only [denSs, denS, den, dens, denO, denT, denI, DV.of, DV.ofB, sSeq, sRet, sRetN, sNext, sIf, sSet, sSetG, sPar, sPar3, sSetIx, sDrop, sFor, sForKeys, sBreak, sCont, dAnd, dOr, dNot, dAndT, dOrT, dNotT, dUn, dOp, dIte, dVar, dC, dTup, dLst, dNil, dCons, dCall, dCut, dPart, dNoPart, dGet1, dGet2, dApp,
  dSeq1, dRange1, dRange2, dEnum, dZip, dLc, dDc, dChain, fIsi, fBlt, fLen, fAbs, fInt1, fMax, fMin, fL1, fTuple, fList, fSorted, fDict, fBin, fCmp, fNeg, fAdd, fSub, fMul, fMod, fDiv, fPow, fInt, fInt0, fLt, fLe, fGt, fGe, fIs, fIsNot, fInD, fIx, fCut, fSeq, fRange1, fRange2, fEnum, fZip, fSetIx, fGet, fApp, fLenSet, fAug, sAug, tOf, tOfB, guardN, gset, gsets, sFrz, frz_dct, frz_lst, fEq_int, fNe_int, fEq_bl, fNe_bl, fEq_nil, fNe_nil, fEq_ints,
  TyC.name, DL.isNon, start0, List.length_cons, List.length_nil, List.map_cons, List.map_nil, List.cons_append, List.nil_append, List.getElem?_cons_zero, List.getElem?_cons_succ, List.getElem?_nil, List.set_cons_zero, List.set_cons_succ, List.set_nil, List.replicate, Nat.reduceSub, Nat.reduceAdd, mkL, mkD, dwipe, Bool.false_eq_true, if_true, if_false, ite_true, ite_false, true_and, and_true, Option.isSome_some, Option.isSome_none, Option.map_some, Option.map_none, Option.getD_some, Option.getD_none,
  tyD_non, tyD_bl, tyD_int, tyD_str, tyD_tup, tyD_lst, tyD_dct, truD_non, truD_bl, truD_int, truD_tup, truD_lst, truD_dct, asL_non, asD_non, keyD_non, asL_bl, asD_bl, keyD_bl, asL_int, asD_int, keyD_int, asL_str, asD_str, keyD_str, asL_tup, asD_tup, keyD_tup, asL_lst, asD_lst, keyD_lst, asL_dct, asD_dct, keyD_dct, asL_scr, asD_scr, keyD_scr, asL_sup, asD_sup, asL_supD, isLs_sup, tyD_supL, tyD_supD, sup_same, sup_sup, ixN_1_0, ixN_2_0, ixN_2_1, ixN_3_0, ixN_3_1, ixN_3_2, ixN_4_0, ixN_4_1, ixN_4_2, ixN_4_3, ixN_5_0, ixN_5_1, ixN_5_2, ixN_5_3, ixN_5_4, ixN_6_0, ixN_6_1, ixN_6_2, ixN_6_3, ixN_6_4, ixN_6_5, ixN_7_0, ixN_7_1, ixN_7_2, ixN_7_3, ixN_7_4, ixN_7_5, ixN_7_6, ixN_8_0, ixN_8_1, ixN_8_2, ixN_8_3, ixN_8_4, ixN_8_5, ixN_8_6, ixN_8_7, atI_0, atI_1, atI_2, atI_3, atI_4, atI_5, atI_6, atI_7, atI_8, isi_NoneType_bool, isi_NoneType_int, isi_NoneType_str, isi_NoneType_tuple, isi_NoneType_list, isi_NoneType_dict, isi_bool_bool, isi_bool_int, isi_bool_str, isi_bool_tuple, isi_bool_list, isi_bool_dict, isi_int_bool, isi_int_int, isi_int_str, isi_int_tuple, isi_int_list, isi_int_dict, isi_str_bool, isi_str_int, isi_str_str, isi_str_tuple, isi_str_list, isi_str_dict, isi_tuple_bool, isi_tuple_int, isi_tuple_str, isi_tuple_tuple, isi_tuple_list, isi_tuple_dict, isi_list_bool, isi_list_int, isi_list_str, isi_list_tuple, isi_list_list, isi_list_dict, isi_dict_bool, isi_dict_int, isi_dict_str, isi_dict_tuple, isi_dict_list, isi_dict_dict, ev]
      have hv2 : 0 ≤ v ∧ v ≤ 10000000000000 := by
        simp only [List.mem_cons, List.not_mem_nil, or_false] at hv
        rcases hv with rfl | rfl | rfl <;> decide
      exact hK v bx3 hv2.1 hv2.2 hb3
    refine vs_setE (e4 _ fun sz bx3 z0 z1 hb3 => ?_)
    show denSs T _ { DD Q with nx := K, ct := K, bk := _ } [some (.scr ns0), some (.int i), some (.ref b), some (.lst (ns.map D.int)), some (.int sz), o5, o6, o7, o8, o9, o10, o11] (sup S b bx3.o)
    -- sums
    have e5 : ∀ K : DQ, (∀ (ss : List Sm) (bx4 : Bx), 2 ≤ ss.length → ss.length ≤ 10 → (∀ s ∈ ss, Drawn ns s) → Bx.ok bx4 100 → K (.lst (ss.map Sm.d)) (sup S b bx4.o)) → (den T (.lc false [("turn", 6)] (.slot 6) (.range1 (.op false .Add (.int 2) (.call 13 (.cons (.slot 2) (.cons (.int 3) .nil))))) .no (.call 22 (.cons (.slot 2) (.cons (.slot 3) (.cons (.slot 4) .nil)))))).v
        [some (.scr ns0), some (.int i), some (.ref b), some (.lst (ns.map D.int)), some (.int sz), o5, o6, o7, o8, o9, o10, o11] (sup S b bx3.o) K := by
      intro K hK
      simp only [denSs, denS, den, dens, denO, denT, denI, DV.of, DV.ofB, sSeq, sRet, sRetN, sNext, sIf, sSet, sSetG, sPar, sPar3, sSetIx, sDrop, sFor, sForKeys, sBreak, sCont, dAnd, dOr, dNot, dAndT, dOrT, dNotT, dUn, dOp, dIte, dVar, dC, dTup, dLst, dNil, dCons, dCall, dCut, dPart, dNoPart, dGet1, dGet2, dApp,
  dSeq1, dRange1, dRange2, dEnum, dZip, dLc, dDc, dChain, fIsi, fBlt, fLen, fAbs, fInt1, fMax, fMin, fL1, fTuple, fList, fSorted, fDict, fBin, fCmp, fNeg, fAdd, fSub, fMul, fMod, fDiv, fPow, fInt, fInt0, fLt, fLe, fGt, fGe, fIs, fIsNot, fInD, fIx, fCut, fSeq, fRange1, fRange2, fEnum, fZip, fSetIx, fGet, fApp, fLenSet, fAug, sAug, tOf, tOfB, guardN, gset, gsets, sFrz, frz_dct, frz_lst, fEq_int, fNe_int, fEq_bl, fNe_bl, fEq_nil, fNe_nil, fEq_ints,
  TyC.name, DL.isNon, start0, List.length_cons, List.length_nil, List.map_cons, List.map_nil, List.cons_append, List.nil_append, List.getElem?_cons_zero, List.getElem?_cons_succ, List.getElem?_nil, List.set_cons_zero, List.set_cons_succ, List.set_nil, List.replicate, Nat.reduceSub, Nat.reduceAdd, mkL, mkD, dwipe, Bool.false_eq_true, if_true, if_false, ite_true, ite_false, true_and, and_true, Option.isSome_some, Option.isSome_none, Option.map_some, Option.map_none, Option.getD_some, Option.getD_none,
  tyD_non, tyD_bl, tyD_int, tyD_str, tyD_tup, tyD_lst, tyD_dct, truD_non, truD_bl, truD_int, truD_tup, truD_lst, truD_dct, asL_non, asD_non, keyD_non, asL_bl, asD_bl, keyD_bl, asL_int, asD_int, keyD_int, asL_str, asD_str, keyD_str, asL_tup, asD_tup, keyD_tup, asL_lst, asD_lst, keyD_lst, asL_dct, asD_dct, keyD_dct, asL_scr, asD_scr, keyD_scr, asL_sup, asD_sup, asL_supD, isLs_sup, tyD_supL, tyD_supD, sup_same, sup_sup, ixN_1_0, ixN_2_0, ixN_2_1, ixN_3_0, ixN_3_1, ixN_3_2, ixN_4_0, ixN_4_1, ixN_4_2, ixN_4_3, ixN_5_0, ixN_5_1, ixN_5_2, ixN_5_3, ixN_5_4, ixN_6_0, ixN_6_1, ixN_6_2, ixN_6_3, ixN_6_4, ixN_6_5, ixN_7_0, ixN_7_1, ixN_7_2, ixN_7_3, ixN_7_4, ixN_7_5, ixN_7_6, ixN_8_0, ixN_8_1, ixN_8_2, ixN_8_3, ixN_8_4, ixN_8_5, ixN_8_6, ixN_8_7, atI_0, atI_1, atI_2, atI_3, atI_4, atI_5, atI_6, atI_7, atI_8, isi_NoneType_bool, isi_NoneType_int, isi_NoneType_str, isi_NoneType_tuple, isi_NoneType_list, isi_NoneType_dict, isi_bool_bool, isi_bool_int, isi_bool_str, isi_bool_tuple, isi_bool_list, isi_bool_dict, isi_int_bool, isi_int_int, isi_int_str, isi_int_tuple, isi_int_list, isi_int_dict, isi_str_bool, isi_str_int, isi_str_str, isi_str_tuple, isi_str_list, isi_str_dict, isi_tuple_bool, isi_tuple_int, isi_tuple_str, isi_tuple_tuple, isi_tuple_list, isi_tuple_dict, isi_list_bool, isi_list_int, isi_list_str, isi_list_tuple, isi_list_list, isi_list_dict, isi_dict_bool, isi_dict_int, isi_dict_str, isi_dict_tuple, isi_dict_list, isi_dict_dict, A.f13, L.f22]
      refine ⟨b, 3, 3, bx3, rfl, by decide, by decide, sup_same, hb3, by decide, fun r bx5 r0 r1 hb5 => ?_⟩
      simp only [denSs, denS, den, dens, denO, denT, denI, DV.of, DV.ofB, sSeq, sRet, sRetN, sNext, sIf, sSet, sSetG, sPar, sPar3, sSetIx, sDrop, sFor, sForKeys, sBreak, sCont, dAnd, dOr, dNot, dAndT, dOrT, dNotT, dUn, dOp, dIte, dVar, dC, dTup, dLst, dNil, dCons, dCall, dCut, dPart, dNoPart, dGet1, dGet2, dApp,
  dSeq1, dRange1, dRange2, dEnum, dZip, dLc, dDc, dChain, fIsi, fBlt, fLen, fAbs, fInt1, fMax, fMin, fL1, fTuple, fList, fSorted, fDict, fBin, fCmp, fNeg, fAdd, fSub, fMul, fMod, fDiv, fPow, fInt, fInt0, fLt, fLe, fGt, fGe, fIs, fIsNot, fInD, fIx, fCut, fSeq, fRange1, fRange2, fEnum, fZip, fSetIx, fGet, fApp, fLenSet, fAug, sAug, tOf, tOfB, guardN, gset, gsets, sFrz, frz_dct, frz_lst, fEq_int, fNe_int, fEq_bl, fNe_bl, fEq_nil, fNe_nil, fEq_ints,
  TyC.name, DL.isNon, start0, List.length_cons, List.length_nil, List.map_cons, List.map_nil, List.cons_append, List.nil_append, List.getElem?_cons_zero, List.getElem?_cons_succ, List.getElem?_nil, List.set_cons_zero, List.set_cons_succ, List.set_nil, List.replicate, Nat.reduceSub, Nat.reduceAdd, mkL, mkD, dwipe, Bool.false_eq_true, if_true, if_false, ite_true, ite_false, true_and, and_true, Option.isSome_some, Option.isSome_none, Option.map_some, Option.map_none, Option.getD_some, Option.getD_none,
  tyD_non, tyD_bl, tyD_int, tyD_str, tyD_tup, tyD_lst, tyD_dct, truD_non, truD_bl, truD_int, truD_tup, truD_lst, truD_dct, asL_non, asD_non, keyD_non, asL_bl, asD_bl, keyD_bl, asL_int, asD_int, keyD_int, asL_str, asD_str, keyD_str, asL_tup, asD_tup, keyD_tup, asL_lst, asD_lst, keyD_lst, asL_dct, asD_dct, keyD_dct, asL_scr, asD_scr, keyD_scr, asL_sup, asD_sup, asL_supD, isLs_sup, tyD_supL, tyD_supD, sup_same, sup_sup, ixN_1_0, ixN_2_0, ixN_2_1, ixN_3_0, ixN_3_1, ixN_3_2, ixN_4_0, ixN_4_1, ixN_4_2, ixN_4_3, ixN_5_0, ixN_5_1, ixN_5_2, ixN_5_3, ixN_5_4, ixN_6_0, ixN_6_1, ixN_6_2, ixN_6_3, ixN_6_4, ixN_6_5, ixN_7_0, ixN_7_1, ixN_7_2, ixN_7_3, ixN_7_4, ixN_7_5, ixN_7_6, ixN_8_0, ixN_8_1, ixN_8_2, ixN_8_3, ixN_8_4, ixN_8_5, ixN_8_6, ixN_8_7, atI_0, atI_1, atI_2, atI_3, atI_4, atI_5, atI_6, atI_7, atI_8, isi_NoneType_bool, isi_NoneType_int, isi_NoneType_str, isi_NoneType_tuple, isi_NoneType_list, isi_NoneType_dict, isi_bool_bool, isi_bool_int, isi_bool_str, isi_bool_tuple, isi_bool_list, isi_bool_dict, isi_int_bool, isi_int_int, isi_int_str, isi_int_tuple, isi_int_list, isi_int_dict, isi_str_bool, isi_str_int, isi_str_str, isi_str_tuple, isi_str_list, isi_str_dict, isi_tuple_bool, isi_tuple_int, isi_tuple_str, isi_tuple_tuple, isi_tuple_list, isi_tuple_dict, isi_list_bool, isi_list_int, isi_list_str, isi_list_tuple, isi_list_list, isi_list_dict, isi_dict_bool, isi_dict_int, isi_dict_str, isi_dict_tuple, isi_dict_list, isi_dict_dict]
      refine ⟨by omega, by omega, ?_⟩
      have hrl : (rangeD 0 (2 + r)).length = (2 + r).toNat := by rw [rangeD_len]; congr 1; omega
      refine lcL_ind (fun xs acc S' => ∃ ss bx' j, acc = ss.map Sm.d ∧ S' = sup S b bx'.o ∧ Bx.ok bx' (4 + 11 * j) ∧ j + xs.length ≤ 4 ∧ ss.length + xs.length = (2 + r).toNat ∧ ∀ s ∈ ss, Drawn ns s) ?_ ?_ _ _ _ ⟨[], bx5, 0, rfl, rfl, hb5, by rw [hrl]; omega, by rw [hrl]; simp, fun s hs => by cases hs⟩
      · rintro x xs acc S' ⟨ss, bx', j, rfl, rfl, g1, g2, g3, g4⟩
        rw [List.length_cons] at g2 g3
        refine ⟨trivial, _, rfl, fun K hK => ?_⟩
        show if true = true then _ else _
        rw [if_pos rfl]
        refine (show guardN 3 spDraw [.ref b, .lst (ns.map D.int), .int sz] (sup S b bx'.o) (fun y S2 => K (ss.map Sm.d ++ [y]) S2) from ⟨rfl, b, bx', 4 + 11 * j, ns, sz, rfl, sup_same, g1, by omega, hns, z0, z1, fun s bx6 hs hb6 => ?_⟩)
        rw [sup_sup]
        refine hK _ _ ⟨ss ++ [s], bx6, j + 1, by rw [List.map_append]; rfl, rfl, hb6.mono (by omega), by omega, by rw [List.length_append, List.length_singleton]; omega, fun u hu => ?_⟩
        rcases List.mem_append.mp hu with hu | hu
        · exact g4 u hu
        · rw [List.mem_singleton.mp hu]; exact hs
      · rintro acc S' ⟨ss, bx', j, rfl, rfl, g1, g2, g3, g4⟩
        rw [List.length_nil] at g2 g3
        exact ⟨trivial, hK ss bx' (by omega) (by omega) g4 (g1.mono (by omega))⟩
    refine vs_setlc (e5 _ fun ss bx4 l2 l10 hss hb4 => ?_)
    obtain ⟨s0, sr, rfl⟩ : ∃ s0 sr, ss = s0 :: sr := by
      match ss, l2 with
      | a :: r, _ => exact ⟨a, r, rfl⟩
    have d0 := hss s0 List.mem_cons_self
    have n60 : ns.length < 60 := by have := hns.2.2.1; omega
    show denSs T _ { DD Q with nx := K, ct := K, bk := _ } [some (.scr ns0), some (.int i), some (.ref b), some (.lst (ns.map D.int)), some (.int sz), some (.lst ((s0 :: sr).map Sm.d)), o6, o7, o8, o9, o10, o11] (sup S b bx4.o)
    -- is_sum of each
    refine vs_ifsF (fun K hK => ?_) ?_
    · have hc : ([([("thing" : Str)], [0])] : List (List Str × List Nat)).contains (["thing"], [0]) = true := by decide +kernel
      simp only [denI, denT, dens, den, DV.of, DV.ofB, dSeq1, A.f2, L.kSum, hc, if_true, dLc, dVar, fSeq, dOp, fCmp, tOfB, dLst, dNil, mkL, List.getElem?_cons_zero, List.getElem?_cons_succ, Bool.false_eq_true, if_false, List.map_cons, List.map_nil]
      refine lcL_pure (p := fun _ => false) (f := fun d => d) trivial _ _ (fun x hx => ?_) ?_
      · obtain ⟨s, hs, rfl⟩ := List.mem_map.mp (show x ∈ (s0 :: sr).map Sm.d from hx)
        have ds := hss s hs
        have sz := sz_sum (fs_len ds.g ds.sub (Nat.le_of_lt n60))
        refine ⟨_, rfl, fun Q' q' => ?_, fun z => (by cases z)⟩
        refine (show guardN 1 spSum [s.d] (sup S b bx4.o) (fun r S2 => fIsNot r (.bl true) S2 (fun z S3 => match z with
          | .bl k => if k = true then Q' true S3 else ([s.d].length = [("thing" : Str)].length ∧ guardN 1 spSum (permV [0] [] [s.d]) S3 (fun r S4 => fIsNot r (.bl true) S4 (fun z S5 => match z with | .bl k => Q' k S5 | _ => False)))
          | _ => False)) from ⟨rfl, s.d, rfl, pd_sum s, sz, ?_⟩)
        rw [isSum_good ds.g]
        refine (show [s.d].length = [("thing" : Str)].length ∧ guardN 1 spSum (permV [0] [] [s.d]) (sup S b bx4.o) (fun r S4 => fIsNot r (.bl true) S4 (fun z S5 => match z with | .bl k => Q' k S5 | _ => False)) from ⟨rfl, rfl, s.d, rfl, pd_sum s, sz, ?_⟩)
        rw [isSum_good ds.g]
        exact q'
      · have e : ((s0.d :: sr.map Sm.d) : List D).filter (fun _ => false) = [] := by
          rw [List.filter_eq_nil_iff]; intro a _ z; cases z
        rw [e]
        refine ⟨by decide, ?_⟩
        rw [List.map_nil, List.append_nil, fNe_nil]
        exact hK
    -- odd things
    refine vs_forI (n := 4) ve_int (by omega) (by decide) ?_
    refine forL_ind (fun xs sd S' => ∃ bx' j o6 o8, sd = [some (.scr ns0), some (.int i), some (.ref b), some (.lst (ns.map D.int)), some (.int sz), some (.lst ((s0 :: sr).map Sm.d)), o6, o7, o8, o9, o10, o11] ∧ S' = sup S b bx'.o ∧ Bx.ok bx' (100 + j) ∧ j + xs.length ≤ 4) ?_ ?_ _ _ _ ⟨bx4, 0, o6, o8, rfl, rfl, hb4, by decide⟩
    · rintro x xs sd S' ⟨bx', j, o6, o8, rfl, rfl, g1, g2⟩
      rw [List.length_cons] at g2
      refine ⟨trivial, _, rfl, fun K2 hK2 => ?_⟩
      show denSs T _ _ [some (.scr ns0), some (.int i), some (.ref b), some (.lst (ns.map D.int)), some (.int sz), some (.lst ((s0 :: sr).map Sm.d)), some x, o7, o8, o9, o10, o11] (sup S b bx'.o)
      refine vs_setE (call_run L.f24 (vs_cons (ve_slot rfl) (vs_cons (ve_ixL (ve_slot rfl) atI_0) vs_nil)) rfl ?_)
      refine ⟨b, bx', 100 + j, ns, s0, rfl, sup_same, g1, by omega, hns, d0, fun d bx6 hd hz hb6 => ?_⟩
      rw [sup_sup]
      show denSs T _ _ [some (.scr ns0), some (.int i), some (.ref b), some (.lst (ns.map D.int)), some (.int sz), some (.lst ((s0 :: sr).map Sm.d)), some x, o7, some d, o9, o10, o11] (sup S b bx6.o)
      refine vs_ifsF (fun K3 hK3 => t_not (ve_call A.f15 (vs_cons (ve_call A.f2 (vs_cons (ve_slot rfl) vs_nil) rfl fun Q' q' => ⟨d, rfl, hd, hz, q'⟩) (vs_cons (ve_call L.f21 (vs_cons (ve_slot rfl) vs_nil) rfl fun Q' q' => ⟨d, rfl, hd, hz, q'⟩) vs_nil)) rfl fun Q' q' => ⟨_, _, .bl (isSum d), rfl, .bl _ _, .bl _ _, q'⟩) hK3) ?_
      exact hK2 _ _ ⟨bx6, j + 1, _, _, rfl, rfl, hb6, by omega⟩
    rintro sd S' ⟨bx5, j, o6, o8, rfl, rfl, g1, g2⟩
    rw [List.length_nil] at g2
    have hb5 : Bx.ok bx5 110 := g1.mono (by omega)
    refine ⟨trivial, ?_⟩
    show denSs T _ { DD Q with nx := K, ct := K, bk := _ } [some (.scr ns0), some (.int i), some (.ref b), some (.lst (ns.map D.int)), some (.int sz), some (.lst ((s0 :: sr).map Sm.d)), o6, o7, o8, o9, o10, o11] (sup S b bx5.o)
    refine vs_ifsR (fun S1 => ∃ bx' : Bx, bx'.ok 200 ∧ S1 = sup S b bx'.o) (fun K2 hK2 => ?_) ?_
    · simp only [denSs, denS, den, dens, denO, denT, denI, DV.of, DV.ofB, sSeq, sRet, sRetN, sNext, sIf, sSet, sSetG, sPar, sPar3, sSetIx, sDrop, sFor, sForKeys, sBreak, sCont, dAnd, dOr, dNot, dAndT, dOrT, dNotT, dUn, dOp, dIte, dVar, dC, dTup, dLst, dNil, dCons, dCall, dCut, dPart, dNoPart, dGet1, dGet2, dApp,
  dSeq1, dRange1, dRange2, dEnum, dZip, dLc, dDc, dChain, fIsi, fBlt, fLen, fAbs, fInt1, fMax, fMin, fL1, fTuple, fList, fSorted, fDict, fBin, fCmp, fNeg, fAdd, fSub, fMul, fMod, fDiv, fPow, fInt, fInt0, fLt, fLe, fGt, fGe, fIs, fIsNot, fInD, fIx, fCut, fSeq, fRange1, fRange2, fEnum, fZip, fSetIx, fGet, fApp, fLenSet, fAug, sAug, tOf, tOfB, guardN, gset, gsets, sFrz, frz_dct, frz_lst, fEq_int, fNe_int, fEq_bl, fNe_bl, fEq_nil, fNe_nil, fEq_ints,
  TyC.name, DL.isNon, start0, List.length_cons, List.length_nil, List.map_cons, List.map_nil, List.cons_append, List.nil_append, List.getElem?_cons_zero, List.getElem?_cons_succ, List.getElem?_nil, List.set_cons_zero, List.set_cons_succ, List.set_nil, List.replicate, Nat.reduceSub, Nat.reduceAdd, mkL, mkD, dwipe, Bool.false_eq_true, if_true, if_false, ite_true, ite_false, true_and, and_true, Option.isSome_some, Option.isSome_none, Option.map_some, Option.map_none, Option.getD_some, Option.getD_none,
  tyD_non, tyD_bl, tyD_int, tyD_str, tyD_tup, tyD_lst, tyD_dct, truD_non, truD_bl, truD_int, truD_tup, truD_lst, truD_dct, asL_non, asD_non, keyD_non, asL_bl, asD_bl, keyD_bl, asL_int, asD_int, keyD_int, asL_str, asD_str, keyD_str, asL_tup, asD_tup, keyD_tup, asL_lst, asD_lst, keyD_lst, asL_dct, asD_dct, keyD_dct, asL_scr, asD_scr, keyD_scr, asL_sup, asD_sup, asL_supD, isLs_sup, tyD_supL, tyD_supD, sup_same, sup_sup, ixN_1_0, ixN_2_0, ixN_2_1, ixN_3_0, ixN_3_1, ixN_3_2, ixN_4_0, ixN_4_1, ixN_4_2, ixN_4_3, ixN_5_0, ixN_5_1, ixN_5_2, ixN_5_3, ixN_5_4, ixN_6_0, ixN_6_1, ixN_6_2, ixN_6_3, ixN_6_4, ixN_6_5, ixN_7_0, ixN_7_1, ixN_7_2, ixN_7_3, ixN_7_4, ixN_7_5, ixN_7_6, ixN_8_0, ixN_8_1, ixN_8_2, ixN_8_3, ixN_8_4, ixN_8_5, ixN_8_6, ixN_8_7, atI_0, atI_1, atI_2, atI_3, atI_4, atI_5, atI_6, atI_7, atI_8, isi_NoneType_bool, isi_NoneType_int, isi_NoneType_str, isi_NoneType_tuple, isi_NoneType_list, isi_NoneType_dict, isi_bool_bool, isi_bool_int, isi_bool_str, isi_bool_tuple, isi_bool_list, isi_bool_dict, isi_int_bool, isi_int_int, isi_int_str, isi_int_tuple, isi_int_list, isi_int_dict, isi_str_bool, isi_str_int, isi_str_str, isi_str_tuple, isi_str_list, isi_str_dict, isi_tuple_bool, isi_tuple_int, isi_tuple_str, isi_tuple_tuple, isi_tuple_list, isi_tuple_dict, isi_list_bool, isi_list_int, isi_list_str, isi_list_tuple, isi_list_list, isi_list_dict, isi_dict_bool, isi_dict_int, isi_dict_str, isi_dict_tuple, isi_dict_list, isi_dict_dict, L.f26, L.f27]
      refine ⟨b, bx5, 110, ns, sz, s0 :: sr, rfl, sup_same, hb5, by decide, hns, z0, z1, l2, l10, hss, fun bx6 hb6 => ?_⟩
      simp only [denSs, denS, den, dens, denO, denT, denI, DV.of, DV.ofB, sSeq, sRet, sRetN, sNext, sIf, sSet, sSetG, sPar, sPar3, sSetIx, sDrop, sFor, sForKeys, sBreak, sCont, dAnd, dOr, dNot, dAndT, dOrT, dNotT, dUn, dOp, dIte, dVar, dC, dTup, dLst, dNil, dCons, dCall, dCut, dPart, dNoPart, dGet1, dGet2, dApp,
  dSeq1, dRange1, dRange2, dEnum, dZip, dLc, dDc, dChain, fIsi, fBlt, fLen, fAbs, fInt1, fMax, fMin, fL1, fTuple, fList, fSorted, fDict, fBin, fCmp, fNeg, fAdd, fSub, fMul, fMod, fDiv, fPow, fInt, fInt0, fLt, fLe, fGt, fGe, fIs, fIsNot, fInD, fIx, fCut, fSeq, fRange1, fRange2, fEnum, fZip, fSetIx, fGet, fApp, fLenSet, fAug, sAug, tOf, tOfB, guardN, gset, gsets, sFrz, frz_dct, frz_lst, fEq_int, fNe_int, fEq_bl, fNe_bl, fEq_nil, fNe_nil, fEq_ints,
  TyC.name, DL.isNon, start0, List.length_cons, List.length_nil, List.map_cons, List.map_nil, List.cons_append, List.nil_append, List.getElem?_cons_zero, List.getElem?_cons_succ, List.getElem?_nil, List.set_cons_zero, List.set_cons_succ, List.set_nil, List.replicate, Nat.reduceSub, Nat.reduceAdd, mkL, mkD, dwipe, Bool.false_eq_true, if_true, if_false, ite_true, ite_false, true_and, and_true, Option.isSome_some, Option.isSome_none, Option.map_some, Option.map_none, Option.getD_some, Option.getD_none,
  tyD_non, tyD_bl, tyD_int, tyD_str, tyD_tup, tyD_lst, tyD_dct, truD_non, truD_bl, truD_int, truD_tup, truD_lst, truD_dct, asL_non, asD_non, keyD_non, asL_bl, asD_bl, keyD_bl, asL_int, asD_int, keyD_int, asL_str, asD_str, keyD_str, asL_tup, asD_tup, keyD_tup, asL_lst, asD_lst, keyD_lst, asL_dct, asD_dct, keyD_dct, asL_scr, asD_scr, keyD_scr, asL_sup, asD_sup, asL_supD, isLs_sup, tyD_supL, tyD_supD, sup_same, sup_sup, ixN_1_0, ixN_2_0, ixN_2_1, ixN_3_0, ixN_3_1, ixN_3_2, ixN_4_0, ixN_4_1, ixN_4_2, ixN_4_3, ixN_5_0, ixN_5_1, ixN_5_2, ixN_5_3, ixN_5_4, ixN_6_0, ixN_6_1, ixN_6_2, ixN_6_3, ixN_6_4, ixN_6_5, ixN_7_0, ixN_7_1, ixN_7_2, ixN_7_3, ixN_7_4, ixN_7_5, ixN_7_6, ixN_8_0, ixN_8_1, ixN_8_2, ixN_8_3, ixN_8_4, ixN_8_5, ixN_8_6, ixN_8_7, atI_0, atI_1, atI_2, atI_3, atI_4, atI_5, atI_6, atI_7, atI_8, isi_NoneType_bool, isi_NoneType_int, isi_NoneType_str, isi_NoneType_tuple, isi_NoneType_list, isi_NoneType_dict, isi_bool_bool, isi_bool_int, isi_bool_str, isi_bool_tuple, isi_bool_list, isi_bool_dict, isi_int_bool, isi_int_int, isi_int_str, isi_int_tuple, isi_int_list, isi_int_dict, isi_str_bool, isi_str_int, isi_str_str, isi_str_tuple, isi_str_list, isi_str_dict, isi_tuple_bool, isi_tuple_int, isi_tuple_str, isi_tuple_tuple, isi_tuple_list, isi_tuple_dict, isi_list_bool, isi_list_int, isi_list_str, isi_list_tuple, isi_list_list, isi_list_dict, isi_dict_bool, isi_dict_int, isi_dict_str, isi_dict_tuple, isi_dict_list, isi_dict_dict, Bool.not_true]
      refine ⟨b, bx6, 116, ns, s0 :: sr, rfl, sup_same, hb6, by decide, hns, by omega, l10, hss, fun bx7 hb7 => ?_⟩
      simp only [denSs, denS, den, dens, denO, denT, denI, DV.of, DV.ofB, sSeq, sRet, sRetN, sNext, sIf, sSet, sSetG, sPar, sPar3, sSetIx, sDrop, sFor, sForKeys, sBreak, sCont, dAnd, dOr, dNot, dAndT, dOrT, dNotT, dUn, dOp, dIte, dVar, dC, dTup, dLst, dNil, dCons, dCall, dCut, dPart, dNoPart, dGet1, dGet2, dApp,
  dSeq1, dRange1, dRange2, dEnum, dZip, dLc, dDc, dChain, fIsi, fBlt, fLen, fAbs, fInt1, fMax, fMin, fL1, fTuple, fList, fSorted, fDict, fBin, fCmp, fNeg, fAdd, fSub, fMul, fMod, fDiv, fPow, fInt, fInt0, fLt, fLe, fGt, fGe, fIs, fIsNot, fInD, fIx, fCut, fSeq, fRange1, fRange2, fEnum, fZip, fSetIx, fGet, fApp, fLenSet, fAug, sAug, tOf, tOfB, guardN, gset, gsets, sFrz, frz_dct, frz_lst, fEq_int, fNe_int, fEq_bl, fNe_bl, fEq_nil, fNe_nil, fEq_ints,
  TyC.name, DL.isNon, start0, List.length_cons, List.length_nil, List.map_cons, List.map_nil, List.cons_append, List.nil_append, List.getElem?_cons_zero, List.getElem?_cons_succ, List.getElem?_nil, List.set_cons_zero, List.set_cons_succ, List.set_nil, List.replicate, Nat.reduceSub, Nat.reduceAdd, mkL, mkD, dwipe, Bool.false_eq_true, if_true, if_false, ite_true, ite_false, true_and, and_true, Option.isSome_some, Option.isSome_none, Option.map_some, Option.map_none, Option.getD_some, Option.getD_none,
  tyD_non, tyD_bl, tyD_int, tyD_str, tyD_tup, tyD_lst, tyD_dct, truD_non, truD_bl, truD_int, truD_tup, truD_lst, truD_dct, asL_non, asD_non, keyD_non, asL_bl, asD_bl, keyD_bl, asL_int, asD_int, keyD_int, asL_str, asD_str, keyD_str, asL_tup, asD_tup, keyD_tup, asL_lst, asD_lst, keyD_lst, asL_dct, asD_dct, keyD_dct, asL_scr, asD_scr, keyD_scr, asL_sup, asD_sup, asL_supD, isLs_sup, tyD_supL, tyD_supD, sup_same, sup_sup, ixN_1_0, ixN_2_0, ixN_2_1, ixN_3_0, ixN_3_1, ixN_3_2, ixN_4_0, ixN_4_1, ixN_4_2, ixN_4_3, ixN_5_0, ixN_5_1, ixN_5_2, ixN_5_3, ixN_5_4, ixN_6_0, ixN_6_1, ixN_6_2, ixN_6_3, ixN_6_4, ixN_6_5, ixN_7_0, ixN_7_1, ixN_7_2, ixN_7_3, ixN_7_4, ixN_7_5, ixN_7_6, ixN_8_0, ixN_8_1, ixN_8_2, ixN_8_3, ixN_8_4, ixN_8_5, ixN_8_6, ixN_8_7, atI_0, atI_1, atI_2, atI_3, atI_4, atI_5, atI_6, atI_7, atI_8, isi_NoneType_bool, isi_NoneType_int, isi_NoneType_str, isi_NoneType_tuple, isi_NoneType_list, isi_NoneType_dict, isi_bool_bool, isi_bool_int, isi_bool_str, isi_bool_tuple, isi_bool_list, isi_bool_dict, isi_int_bool, isi_int_int, isi_int_str, isi_int_tuple, isi_int_list, isi_int_dict, isi_str_bool, isi_str_int, isi_str_str, isi_str_tuple, isi_str_list, isi_str_dict, isi_tuple_bool, isi_tuple_int, isi_tuple_str, isi_tuple_tuple, isi_tuple_list, isi_tuple_dict, isi_list_bool, isi_list_int, isi_list_str, isi_list_tuple, isi_list_list, isi_list_dict, isi_dict_bool, isi_dict_int, isi_dict_str, isi_dict_tuple, isi_dict_list, isi_dict_dict, Bool.not_true]
      exact hK2 _ ⟨bx7, hb7.mono (by decide), rfl⟩
    rintro _ ⟨bx6, hb6, rfl⟩
    -- number
    have e9 : ∀ K : DQ, (∀ (v : Int) (bx3 : Bx), Bx.ok bx3 201 → K (.int v) (sup S b bx3.o)) → (den T (.ix (.lst false (.cons (.int 0) (.cons (.neg (.int 5)) (.cons (.op false .Pow (.int 10) (.int 30)) .nil)))) (.call 13 (.cons (.slot 2) (.cons (.int 3) .nil))))).v
        [some (.scr ns0), some (.int i), some (.ref b), some (.lst (ns.map D.int)), some (.int sz), some (.lst ((s0 :: sr).map Sm.d)), o6, o7, o8, o9, o10, o11] (sup S b bx6.o) K := by
      intro K hK
      simp only [denSs, denS, den, dens, denO, denT, denI, DV.of, DV.ofB, sSeq, sRet, sRetN, sNext, sIf, sSet, sSetG, sPar, sPar3, sSetIx, sDrop, sFor, sForKeys, sBreak, sCont, dAnd, dOr, dNot, dAndT, dOrT, dNotT, dUn, dOp, dIte, dVar, dC, dTup, dLst, dNil, dCons, dCall, dCut, dPart, dNoPart, dGet1, dGet2, dApp,
  dSeq1, dRange1, dRange2, dEnum, dZip, dLc, dDc, dChain, fIsi, fBlt, fLen, fAbs, fInt1, fMax, fMin, fL1, fTuple, fList, fSorted, fDict, fBin, fCmp, fNeg, fAdd, fSub, fMul, fMod, fDiv, fPow, fInt, fInt0, fLt, fLe, fGt, fGe, fIs, fIsNot, fInD, fIx, fCut, fSeq, fRange1, fRange2, fEnum, fZip, fSetIx, fGet, fApp, fLenSet, fAug, sAug, tOf, tOfB, guardN, gset, gsets, sFrz, frz_dct, frz_lst, fEq_int, fNe_int, fEq_bl, fNe_bl, fEq_nil, fNe_nil, fEq_ints,
  TyC.name, DL.isNon, start0, List.length_cons, List.length_nil, List.map_cons, List.map_nil, List.cons_append, List.nil_append, List.getElem?_cons_zero, List.getElem?_cons_succ, List.getElem?_nil, List.set_cons_zero, List.set_cons_succ, List.set_nil, List.replicate, Nat.reduceSub, Nat.reduceAdd, mkL, mkD, dwipe, Bool.false_eq_true, if_true, if_false, ite_true, ite_false, true_and, and_true, Option.isSome_some, Option.isSome_none, Option.map_some, Option.map_none, Option.getD_some, Option.getD_none,
  tyD_non, tyD_bl, tyD_int, tyD_str, tyD_tup, tyD_lst, tyD_dct, truD_non, truD_bl, truD_int, truD_tup, truD_lst, truD_dct, asL_non, asD_non, keyD_non, asL_bl, asD_bl, keyD_bl, asL_int, asD_int, keyD_int, asL_str, asD_str, keyD_str, asL_tup, asD_tup, keyD_tup, asL_lst, asD_lst, keyD_lst, asL_dct, asD_dct, keyD_dct, asL_scr, asD_scr, keyD_scr, asL_sup, asD_sup, asL_supD, isLs_sup, tyD_supL, tyD_supD, sup_same, sup_sup, ixN_1_0, ixN_2_0, ixN_2_1, ixN_3_0, ixN_3_1, ixN_3_2, ixN_4_0, ixN_4_1, ixN_4_2, ixN_4_3, ixN_5_0, ixN_5_1, ixN_5_2, ixN_5_3, ixN_5_4, ixN_6_0, ixN_6_1, ixN_6_2, ixN_6_3, ixN_6_4, ixN_6_5, ixN_7_0, ixN_7_1, ixN_7_2, ixN_7_3, ixN_7_4, ixN_7_5, ixN_7_6, ixN_8_0, ixN_8_1, ixN_8_2, ixN_8_3, ixN_8_4, ixN_8_5, ixN_8_6, ixN_8_7, atI_0, atI_1, atI_2, atI_3, atI_4, atI_5, atI_6, atI_7, atI_8, isi_NoneType_bool, isi_NoneType_int, isi_NoneType_str, isi_NoneType_tuple, isi_NoneType_list, isi_NoneType_dict, isi_bool_bool, isi_bool_int, isi_bool_str, isi_bool_tuple, isi_bool_list, isi_bool_dict, isi_int_bool, isi_int_int, isi_int_str, isi_int_tuple, isi_int_list, isi_int_dict, isi_str_bool, isi_str_int, isi_str_str, isi_str_tuple, isi_str_list, isi_str_dict, isi_tuple_bool, isi_tuple_int, isi_tuple_str, isi_tuple_tuple, isi_tuple_list, isi_tuple_dict, isi_list_bool, isi_list_int, isi_list_str, isi_list_tuple, isi_list_list, isi_list_dict, isi_dict_bool, isi_dict_int, isi_dict_str, isi_dict_tuple, isi_dict_list, isi_dict_dict, A.f13]
      refine ⟨cpow (by decide) (by decide) (by decide) (by decide), by decide, b, 3, 200, bx6, rfl, by decide, by decide, sup_same, hb6, by decide, fun r bx3 r0 r1 hb3 => ?_⟩
      obtain ⟨v, hv, ev⟩ := atI_lit [0, -5, 10 ^ Int.toNat 30] r0 r1
      simp only [List.map_cons, List.map_nil] at ev
      simp only [denSs, denS, den, dens, denO, denT, denI, DV.of, DV.ofB, sSeq, sRet, sRetN, sNext, sIf, sSet, sSetG, sPar, sPar3, sSetIx, sDrop, sFor, sForKeys, sBreak, sCont, dAnd, dOr, dNot, dAndT, dOrT, dNotT, dUn, dOp, dIte, dVar, dC, dTup, dLst, dNil, dCons, dCall, dCut, dPart, dNoPart, dGet1, dGet2, dApp,
  dSeq1, dRange1, dRange2, dEnum, dZip, dLc, dDc, dChain, fIsi, fBlt, fLen, fAbs, fInt1, fMax, fMin, fL1, fTuple, fList, fSorted, fDict, fBin, fCmp, fNeg, fAdd, fSub, fMul, fMod, fDiv, fPow, fInt, fInt0, fLt, fLe, fGt, fGe, fIs, fIsNot, fInD, fIx, fCut, fSeq, fRange1, fRange2, fEnum, fZip, fSetIx, fGet, fApp, fLenSet, fAug, sAug, tOf, tOfB, guardN, gset, gsets, sFrz, frz_dct, frz_lst, fEq_int, fNe_int, fEq_bl, fNe_bl, fEq_nil, fNe_nil, fEq_ints,
  TyC.name, DL.isNon, start0, List.length_cons, List.length_nil, List.map_cons, List.map_nil, List.cons_append, List.nil_append, List.getElem?_cons_zero, List.getElem?_cons_succ, List.getElem?_nil, List.set_cons_zero, List.set_cons_succ, List.set_nil, List.replicate, Nat.reduceSub, Nat.reduceAdd, mkL, mkD, dwipe, Bool.false_eq_true, if_true, if_false, ite_true, ite_false, true_and, and_true, Option.isSome_some, Option.isSome_none, Option.map_some, Option.map_none, Option.getD_some, Option.getD_none,
  tyD_non, tyD_bl, tyD_int, tyD_str, tyD_tup, tyD_lst, tyD_dct, truD_non, truD_bl, truD_int, truD_tup, truD_lst, truD_dct, asL_non, asD_non, keyD_non, asL_bl, asD_bl, keyD_bl, asL_int, asD_int, keyD_int, asL_str, asD_str, keyD_str, asL_tup, asD_tup, keyD_tup, asL_lst, asD_lst, keyD_lst, asL_dct, asD_dct, keyD_dct, asL_scr, asD_scr, keyD_scr, asL_sup, asD_sup, asL_supD, isLs_sup, tyD_supL, tyD_supD, sup_same, sup_sup, ixN_1_0, ixN_2_0, ixN_2_1, ixN_3_0, ixN_3_1, ixN_3_2, ixN_4_0, ixN_4_1, ixN_4_2, ixN_4_3, ixN_5_0, ixN_5_1, ixN_5_2, ixN_5_3, ixN_5_4, ixN_6_0, ixN_6_1, ixN_6_2, ixN_6_3, ixN_6_4, ixN_6_5, ixN_7_0, ixN_7_1, ixN_7_2, ixN_7_3, ixN_7_4, ixN_7_5, ixN_7_6, ixN_8_0, ixN_8_1, ixN_8_2, ixN_8_3, ixN_8_4, ixN_8_5, ixN_8_6, ixN_8_7, atI_0, atI_1, atI_2, atI_3, atI_4, atI_5, atI_6, atI_7, atI_8, isi_NoneType_bool, isi_NoneType_int, isi_NoneType_str, isi_NoneType_tuple, isi_NoneType_list, isi_NoneType_dict, isi_bool_bool, isi_bool_int, isi_bool_str, isi_bool_tuple, isi_bool_list, isi_bool_dict, isi_int_bool, isi_int_int, isi_int_str, isi_int_tuple, isi_int_list, isi_int_dict, isi_str_bool, isi_str_int, isi_str_str, isi_str_tuple, isi_str_list, isi_str_dict, isi_tuple_bool, isi_tuple_int, isi_tuple_str, isi_tuple_tuple, isi_tuple_list, isi_tuple_dict, isi_list_bool, isi_list_int, isi_list_str, isi_list_tuple, isi_list_list, isi_list_dict, isi_dict_bool, isi_dict_int, isi_dict_str, isi_dict_tuple, isi_dict_list, isi_dict_dict, ev]
      exact hK v bx3 hb3
    refine vs_setE (e9 _ fun nb bx7 hb7 => ?_)
    generalize sup S b bx7.o = S1
    show denSs T _ { DD Q with nx := K, ct := K, bk := _ } [some (.scr ns0), some (.int i), some (.ref b), some (.lst (ns.map D.int)), some (.int sz), some (.lst ((s0 :: sr).map Sm.d)), o6, o7, o8, some (.int nb), o10, o11] S1
    refine vs_ifsF (fun K2 hK2 => t_not (ve_call A.f15 (vs_cons (ve_lst (vs_cons (ve_call (y := Sm.d ⟨nb, []⟩) L.f4 (vs_cons (ve_tup (vs_cons ve_str (vs_cons (ve_slot rfl) vs_nil)) rfl) vs_nil) rfl fun Q' q' => ⟨"num", nb, rfl, by decide +kernel, by rw [if_pos rfl]; exact q'⟩)
      (vs_cons (ve_callk (y := Sm.d (one 4)) L.f4 (by rw [L.kOf]; decide +kernel) (vs_cons (ve_tup (vs_cons ve_str (vs_cons ve_int vs_nil)) rfl) vs_nil) rfl rfl fun Q' q' => ⟨"name", 4, rfl, by decide +kernel, by rw [if_neg (by decide +kernel)]; exact q'⟩) vs_nil)) rfl)
      (vs_cons (ve_lst (vs_cons (ve_tup (vs_cons (ve_slot rfl) (vs_cons (ve_tup vs_nil rfl) vs_nil)) rfl) (vs_cons (ve_tup (vs_cons ve_int (vs_cons (ve_tup (vs_cons (ve_tup (vs_cons ve_int (vs_cons ve_int vs_nil)) rfl) vs_nil) rfl) vs_nil)) rfl) vs_nil)) rfl) vs_nil)) rfl fun Q' q' => ?_) hK2) ?_
    · have t1 : Stn S1 7 (Sm.d ⟨nb, []⟩) (Sm.t ⟨nb, []⟩) := stn_sum (n := 4) (Nat.zero_le _)
      have t2 : Stn S1 7 (Sm.d (one 4)) (Sm.t (one 4)) := stn_sum (n := 4) (by show 1 ≤ 1000; decide)
      refine ⟨_, _, .lst [Sm.t ⟨nb, []⟩, Sm.t (one 4)], rfl, stn_lst rfl rfl ?_, stn_lst rfl rfl ?_, q'⟩
      · intro p hp
        simp only [List.zip_cons_cons, List.zip_nil_right, List.mem_cons, List.not_mem_nil, or_false] at hp
        rcases hp with rfl | rfl
        · exact t1
        · exact t2
      · intro p hp
        simp only [List.zip_cons_cons, List.zip_nil_right, List.mem_cons, List.not_mem_nil, or_false] at hp
        rcases hp with rfl | rfl
        · exact t1
        · exact t2
    -- names
    have hsub : ∀ s ∈ s0 :: sr, s.sub ns := fun s hs => (hss s hs).sub
    refine vs_setE (call_run L.f11 (vs_cons (ve_slot rfl) vs_nil) rfl ⟨s0 :: sr, ns, _, rfl, .inl rfl, n60, hsub, fun p hp => ?_⟩)
    show denSs T _ { DD Q with nx := K, ct := K, bk := _ } [some (.scr ns0), some (.int i), some (.ref b), some (.lst (ns.map D.int)), some (.int sz), some (.lst ((s0 :: sr).map Sm.d)), o6, o7, o8, some (.int nb), some (.ref p), o11] (sup S1 p (.lst ((namesIn (s0 :: sr)).map D.int)))
    generalize hS2 : sup S1 p (.lst ((namesIn (s0 :: sr)).map D.int)) = S2
    have hp2 : S2 p = some (.lst ((namesIn (s0 :: sr)).map D.int)) := by rw [← hS2]; exact sup_same
    have nlen : (namesIn (s0 :: sr)).length ≤ 100 := by
      have nd : ∀ (l acc : List Int), acc.Nodup → (∀ x ∈ acc, x ∈ ns) → (∀ x ∈ l, x ∈ ns) → (l.foldl insK acc).Nodup ∧ ∀ x ∈ l.foldl insK acc, x ∈ ns := by
        intro l
        induction l with
        | nil => intro acc h1 h2 _; exact ⟨h1, h2⟩
        | cons a l ih => intro acc h1 h2 h3; exact ih _ (insK_nd h1) (insK_sub h2 (h3 a List.mem_cons_self)) fun x hx => h3 x (List.mem_cons_of_mem _ hx)
      have nd2 : ∀ (ts : List Sm) (acc : List Int), acc.Nodup → (∀ x ∈ acc, x ∈ ns) → (∀ s ∈ ts, s.sub ns) → (nmK acc ts).Nodup ∧ ∀ x ∈ nmK acc ts, x ∈ ns := by
        intro ts
        induction ts with
        | nil => intro acc h1 h2 _; exact ⟨h1, h2⟩
        | cons a l ih =>
          intro acc h1 h2 h3
          obtain ⟨g1, g2⟩ := nd (keys a.fs) acc h1 h2 (h3 a List.mem_cons_self)
          exact ih _ g1 g2 fun x hx => h3 x (List.mem_cons_of_mem _ hx)
      obtain ⟨g1, g2⟩ := nd2 (s0 :: sr) [] List.nodup_nil (fun x hx => by cases hx) hsub
      have := nodup_len g1 g2
      unfold namesIn
      rw [(isort_perm _).length_eq]; omega
    have tints : ∀ (S : Store) (n : Nat) (d : D) (l : List Int), asL S d = some (l.map D.int) → l.length ≤ 1000 → Stn S (n + 1) d (.lst (l.map Tre.int)) := fun S n d l h1 h2 => by
      refine .lst h1 (by rw [List.length_map, List.length_map]) (by rw [List.length_map]; exact h2) fun i x t e1 e2 => ?_
      rw [List.getElem?_map] at e1 e2
      cases e : l[i]? with
      | none => rw [e] at e1; cases e1
      | some m => rw [e] at e1 e2; cases e1; cases e2; exact .int _ _
    have klen : (keys s0.fs).length ≤ 1000 := by have := nodup_len d0.g.nd d0.sub; omega
    have hlc : Ve T [some (.scr ns0), some (.int i), some (.ref b), some (.lst (ns.map D.int)), some (.int sz), some (.lst ((s0 :: sr).map Sm.d)), o6, o7, o8, some (.int nb), some (.ref p), o11] S2 (.lc false [("pair", 11)] (.slot 11) (.seq (.ix (.ix (.slot 5) (.int 0)) (.int 1))) .no (.ix (.slot 11) (.int 0))) (.lst ((keys s0.fs).map D.int)) := by
      intro K2 hK2
      simp only [denSs, denS, den, dens, denO, denT, denI, DV.of, DV.ofB, sSeq, sRet, sRetN, sNext, sIf, sSet, sSetG, sPar, sPar3, sSetIx, sDrop, sFor, sForKeys, sBreak, sCont, dAnd, dOr, dNot, dAndT, dOrT, dNotT, dUn, dOp, dIte, dVar, dC, dTup, dLst, dNil, dCons, dCall, dCut, dPart, dNoPart, dGet1, dGet2, dApp,
  dSeq1, dRange1, dRange2, dEnum, dZip, dLc, dDc, dChain, fIsi, fBlt, fLen, fAbs, fInt1, fMax, fMin, fL1, fTuple, fList, fSorted, fDict, fBin, fCmp, fNeg, fAdd, fSub, fMul, fMod, fDiv, fPow, fInt, fInt0, fLt, fLe, fGt, fGe, fIs, fIsNot, fInD, fIx, fCut, fSeq, fRange1, fRange2, fEnum, fZip, fSetIx, fGet, fApp, fLenSet, fAug, sAug, tOf, tOfB, guardN, gset, gsets, sFrz, frz_dct, frz_lst, fEq_int, fNe_int, fEq_bl, fNe_bl, fEq_nil, fNe_nil, fEq_ints,
  TyC.name, DL.isNon, start0, List.length_cons, List.length_nil, List.map_cons, List.map_nil, List.cons_append, List.nil_append, List.getElem?_cons_zero, List.getElem?_cons_succ, List.getElem?_nil, List.set_cons_zero, List.set_cons_succ, List.set_nil, List.replicate, Nat.reduceSub, Nat.reduceAdd, mkL, mkD, dwipe, Bool.false_eq_true, if_true, if_false, ite_true, ite_false, true_and, and_true, Option.isSome_some, Option.isSome_none, Option.map_some, Option.map_none, Option.getD_some, Option.getD_none,
  tyD_non, tyD_bl, tyD_int, tyD_str, tyD_tup, tyD_lst, tyD_dct, truD_non, truD_bl, truD_int, truD_tup, truD_lst, truD_dct, asL_non, asD_non, keyD_non, asL_bl, asD_bl, keyD_bl, asL_int, asD_int, keyD_int, asL_str, asD_str, keyD_str, asL_tup, asD_tup, keyD_tup, asL_lst, asD_lst, keyD_lst, asL_dct, asD_dct, keyD_dct, asL_scr, asD_scr, keyD_scr, asL_sup, asD_sup, asL_supD, isLs_sup, tyD_supL, tyD_supD, sup_same, sup_sup, ixN_1_0, ixN_2_0, ixN_2_1, ixN_3_0, ixN_3_1, ixN_3_2, ixN_4_0, ixN_4_1, ixN_4_2, ixN_4_3, ixN_5_0, ixN_5_1, ixN_5_2, ixN_5_3, ixN_5_4, ixN_6_0, ixN_6_1, ixN_6_2, ixN_6_3, ixN_6_4, ixN_6_5, ixN_7_0, ixN_7_1, ixN_7_2, ixN_7_3, ixN_7_4, ixN_7_5, ixN_7_6, ixN_8_0, ixN_8_1, ixN_8_2, ixN_8_3, ixN_8_4, ixN_8_5, ixN_8_6, ixN_8_7, atI_0, atI_1, atI_2, atI_3, atI_4, atI_5, atI_6, atI_7, atI_8, isi_NoneType_bool, isi_NoneType_int, isi_NoneType_str, isi_NoneType_tuple, isi_NoneType_list, isi_NoneType_dict, isi_bool_bool, isi_bool_int, isi_bool_str, isi_bool_tuple, isi_bool_list, isi_bool_dict, isi_int_bool, isi_int_int, isi_int_str, isi_int_tuple, isi_int_list, isi_int_dict, isi_str_bool, isi_str_int, isi_str_str, isi_str_tuple, isi_str_list, isi_str_dict, isi_tuple_bool, isi_tuple_int, isi_tuple_str, isi_tuple_tuple, isi_tuple_list, isi_tuple_dict, isi_list_bool, isi_list_int, isi_list_str, isi_list_tuple, isi_list_list, isi_list_dict, isi_dict_bool, isi_dict_int, isi_dict_str, isi_dict_tuple, isi_dict_list, isi_dict_dict, Sm.d]
      refine lcL_map (f := fun d => match d with | .tup [a, _] => a | _ => .non) trivial (fun x hx => ?_) ?_
      · obtain ⟨q, hq, rfl⟩ := List.mem_map.mp hx
        exact ⟨_, rfl, fun Q' q' => q'⟩
      · have e : (s0.fs.map pD).map (fun d => match d with | .tup [a, _] => a | _ => D.non) = (keys s0.fs).map D.int := by
          unfold keys; rw [List.map_map, List.map_map]; rfl
        rw [e]; exact hK2
    refine vs_ifsF (fun K2 hK2 => t_not (ve_call A.f15 (vs_cons (ve_lst (vs_cons (ve_call (y := .lst ((keys s0.fs).map D.int)) L.f10 (vs_cons (ve_ixL (ve_slot rfl) atI_0) vs_nil) rfl fun Q' q' => ⟨s0, rfl, q'⟩) (vs_cons (ve_slot rfl) vs_nil)) rfl)
      (vs_cons (ve_lst (vs_cons hlc (vs_cons (ve_call (y := .lst ((namesIn (s0 :: sr)).map D.int)) L.f23 (vs_cons (ve_slot rfl) vs_nil) rfl fun Q' q' => ⟨s0 :: sr, ns, rfl, n60, hsub, q'⟩) vs_nil)) rfl) vs_nil)) rfl fun Q' q' => ?_) hK2) ?_
    · refine ⟨_, _, .lst [.lst ((keys s0.fs).map Tre.int), .lst ((namesIn (s0 :: sr)).map Tre.int)], rfl, stn_lst rfl rfl ?_, stn_lst rfl rfl ?_, q'⟩
      · intro p hp
        simp only [List.zip_cons_cons, List.zip_nil_right, List.mem_cons, List.not_mem_nil, or_false] at hp
        rcases hp with rfl | rfl
        · exact tints _ 6 _ _ rfl klen
        · exact tints _ 6 _ _ (asL_ref hp2) (by omega)
      · intro p hp
        simp only [List.zip_cons_cons, List.zip_nil_right, List.mem_cons, List.not_mem_nil, or_false] at hp
        rcases hp with rfl | rfl
        · exact tints _ 6 _ _ rfl klen
        · exact tints _ 6 _ _ rfl (by omega)
    refine vs_exprE ?_
    have eapp : ∀ K : DQ, (∀ S3, K .non S3) → (den T (.app (.slot 10) (.int 99))).v [some (.scr ns0), some (.int i), some (.ref b), some (.lst (ns.map D.int)), some (.int sz), some (.lst ((s0 :: sr).map Sm.d)), o6, o7, o8, some (.int nb), some (.ref p), o11] S2 K := by
      intro K hK
      simp only [denSs, denS, den, dens, denO, denT, denI, DV.of, DV.ofB, sSeq, sRet, sRetN, sNext, sIf, sSet, sSetG, sPar, sPar3, sSetIx, sDrop, sFor, sForKeys, sBreak, sCont, dAnd, dOr, dNot, dAndT, dOrT, dNotT, dUn, dOp, dIte, dVar, dC, dTup, dLst, dNil, dCons, dCall, dCut, dPart, dNoPart, dGet1, dGet2, dApp,
  dSeq1, dRange1, dRange2, dEnum, dZip, dLc, dDc, dChain, fIsi, fBlt, fLen, fAbs, fInt1, fMax, fMin, fL1, fTuple, fList, fSorted, fDict, fBin, fCmp, fNeg, fAdd, fSub, fMul, fMod, fDiv, fPow, fInt, fInt0, fLt, fLe, fGt, fGe, fIs, fIsNot, fInD, fIx, fCut, fSeq, fRange1, fRange2, fEnum, fZip, fSetIx, fGet, fApp, fLenSet, fAug, sAug, tOf, tOfB, guardN, gset, gsets, sFrz, frz_dct, frz_lst, fEq_int, fNe_int, fEq_bl, fNe_bl, fEq_nil, fNe_nil, fEq_ints,
  TyC.name, DL.isNon, start0, List.length_cons, List.length_nil, List.map_cons, List.map_nil, List.cons_append, List.nil_append, List.getElem?_cons_zero, List.getElem?_cons_succ, List.getElem?_nil, List.set_cons_zero, List.set_cons_succ, List.set_nil, List.replicate, Nat.reduceSub, Nat.reduceAdd, mkL, mkD, dwipe, Bool.false_eq_true, if_true, if_false, ite_true, ite_false, true_and, and_true, Option.isSome_some, Option.isSome_none, Option.map_some, Option.map_none, Option.getD_some, Option.getD_none,
  tyD_non, tyD_bl, tyD_int, tyD_str, tyD_tup, tyD_lst, tyD_dct, truD_non, truD_bl, truD_int, truD_tup, truD_lst, truD_dct, asL_non, asD_non, keyD_non, asL_bl, asD_bl, keyD_bl, asL_int, asD_int, keyD_int, asL_str, asD_str, keyD_str, asL_tup, asD_tup, keyD_tup, asL_lst, asD_lst, keyD_lst, asL_dct, asD_dct, keyD_dct, asL_scr, asD_scr, keyD_scr, asL_sup, asD_sup, asL_supD, isLs_sup, tyD_supL, tyD_supD, sup_same, sup_sup, ixN_1_0, ixN_2_0, ixN_2_1, ixN_3_0, ixN_3_1, ixN_3_2, ixN_4_0, ixN_4_1, ixN_4_2, ixN_4_3, ixN_5_0, ixN_5_1, ixN_5_2, ixN_5_3, ixN_5_4, ixN_6_0, ixN_6_1, ixN_6_2, ixN_6_3, ixN_6_4, ixN_6_5, ixN_7_0, ixN_7_1, ixN_7_2, ixN_7_3, ixN_7_4, ixN_7_5, ixN_7_6, ixN_8_0, ixN_8_1, ixN_8_2, ixN_8_3, ixN_8_4, ixN_8_5, ixN_8_6, ixN_8_7, atI_0, atI_1, atI_2, atI_3, atI_4, atI_5, atI_6, atI_7, atI_8, isi_NoneType_bool, isi_NoneType_int, isi_NoneType_str, isi_NoneType_tuple, isi_NoneType_list, isi_NoneType_dict, isi_bool_bool, isi_bool_int, isi_bool_str, isi_bool_tuple, isi_bool_list, isi_bool_dict, isi_int_bool, isi_int_int, isi_int_str, isi_int_tuple, isi_int_list, isi_int_dict, isi_str_bool, isi_str_int, isi_str_str, isi_str_tuple, isi_str_list, isi_str_dict, isi_tuple_bool, isi_tuple_int, isi_tuple_str, isi_tuple_tuple, isi_tuple_list, isi_tuple_dict, isi_list_bool, isi_list_int, isi_list_str, isi_list_tuple, isi_list_list, isi_list_dict, isi_dict_bool, isi_dict_int, isi_dict_str, isi_dict_tuple, isi_dict_list, isi_dict_dict, isLs_ref hp2, hp2]
      exact ⟨by rw [List.length_map]; omega, hK _⟩
    refine eapp _ fun S3 => ?_
    refine vs_ifsR (fun _ => True) (fun K2 hK2 => ?_) fun S4 _ => hK _ _ _ _ _ _ _ _ _ _ S4
    have hc2 : ([([("sums" : Str)], [0])] : List (List Str × List Nat)).contains (["sums"], [0]) = true := by decide +kernel
    simp only [denSs, denS, den, dens, denO, denT, denI, DV.of, DV.ofB, sSeq, sRet, sRetN, sNext, sIf, sSet, sSetG, sPar, sPar3, sSetIx, sDrop, sFor, sForKeys, sBreak, sCont, dAnd, dOr, dNot, dAndT, dOrT, dNotT, dUn, dOp, dIte, dVar, dC, dTup, dLst, dNil, dCons, dCall, dCut, dPart, dNoPart, dGet1, dGet2, dApp,
  dSeq1, dRange1, dRange2, dEnum, dZip, dLc, dDc, dChain, fIsi, fBlt, fLen, fAbs, fInt1, fMax, fMin, fL1, fTuple, fList, fSorted, fDict, fBin, fCmp, fNeg, fAdd, fSub, fMul, fMod, fDiv, fPow, fInt, fInt0, fLt, fLe, fGt, fGe, fIs, fIsNot, fInD, fIx, fCut, fSeq, fRange1, fRange2, fEnum, fZip, fSetIx, fGet, fApp, fLenSet, fAug, sAug, tOf, tOfB, guardN, gset, gsets, sFrz, frz_dct, frz_lst, fEq_int, fNe_int, fEq_bl, fNe_bl, fEq_nil, fNe_nil, fEq_ints,
  TyC.name, DL.isNon, start0, List.length_cons, List.length_nil, List.map_cons, List.map_nil, List.cons_append, List.nil_append, List.getElem?_cons_zero, List.getElem?_cons_succ, List.getElem?_nil, List.set_cons_zero, List.set_cons_succ, List.set_nil, List.replicate, Nat.reduceSub, Nat.reduceAdd, mkL, mkD, dwipe, Bool.false_eq_true, if_true, if_false, ite_true, ite_false, true_and, and_true, Option.isSome_some, Option.isSome_none, Option.map_some, Option.map_none, Option.getD_some, Option.getD_none,
  tyD_non, tyD_bl, tyD_int, tyD_str, tyD_tup, tyD_lst, tyD_dct, truD_non, truD_bl, truD_int, truD_tup, truD_lst, truD_dct, asL_non, asD_non, keyD_non, asL_bl, asD_bl, keyD_bl, asL_int, asD_int, keyD_int, asL_str, asD_str, keyD_str, asL_tup, asD_tup, keyD_tup, asL_lst, asD_lst, keyD_lst, asL_dct, asD_dct, keyD_dct, asL_scr, asD_scr, keyD_scr, asL_sup, asD_sup, asL_supD, isLs_sup, tyD_supL, tyD_supD, sup_same, sup_sup, ixN_1_0, ixN_2_0, ixN_2_1, ixN_3_0, ixN_3_1, ixN_3_2, ixN_4_0, ixN_4_1, ixN_4_2, ixN_4_3, ixN_5_0, ixN_5_1, ixN_5_2, ixN_5_3, ixN_5_4, ixN_6_0, ixN_6_1, ixN_6_2, ixN_6_3, ixN_6_4, ixN_6_5, ixN_7_0, ixN_7_1, ixN_7_2, ixN_7_3, ixN_7_4, ixN_7_5, ixN_7_6, ixN_8_0, ixN_8_1, ixN_8_2, ixN_8_3, ixN_8_4, ixN_8_5, ixN_8_6, ixN_8_7, atI_0, atI_1, atI_2, atI_3, atI_4, atI_5, atI_6, atI_7, atI_8, isi_NoneType_bool, isi_NoneType_int, isi_NoneType_str, isi_NoneType_tuple, isi_NoneType_list, isi_NoneType_dict, isi_bool_bool, isi_bool_int, isi_bool_str, isi_bool_tuple, isi_bool_list, isi_bool_dict, isi_int_bool, isi_int_int, isi_int_str, isi_int_tuple, isi_int_list, isi_int_dict, isi_str_bool, isi_str_int, isi_str_str, isi_str_tuple, isi_str_list, isi_str_dict, isi_tuple_bool, isi_tuple_int, isi_tuple_str, isi_tuple_tuple, isi_tuple_list, isi_tuple_dict, isi_list_bool, isi_list_int, isi_list_str, isi_list_tuple, isi_list_list, isi_list_dict, isi_dict_bool, isi_dict_int, isi_dict_str, isi_dict_tuple, isi_dict_list, isi_dict_dict, A.f15, L.f11, L.f23, L.kIn, hc2]
    refine ⟨rfl, s0 :: sr, ns, _, rfl, .inr rfl, n60, hsub, fun p3 hp3 => ?_⟩
    refine ⟨s0 :: sr, ns, rfl, n60, hsub, ?_⟩
    refine ⟨_, _, .lst ((namesIn (s0 :: sr)).map Tre.int), rfl, tints _ 7 _ _ asL_sup (by omega), tints _ 7 _ _ rfl (by omega), ?_⟩
    exact hK2 _ trivial
  · rintro sd S ⟨_, o1, o2, o3, o4, o5, o6, o7, o8, o9, o10, o11, rfl⟩
    exact ⟨trivial, .of (q S)⟩
end K00
set_option Elab.async false
set_option linter.all false
set_option maxRecDepth 100000
set_option maxHeartbeats 4000000
namespace K00
open PySem L2 DL
def fe0 : Fe := ⟨"is_whole", 1, [], spWhole⟩
def fe1 : Fe := ⟨"is_pair", 1, [], spPair⟩
def fe2 : Fe := ⟨"is_sum", 1, [([("thing" : Str)], [0])], spSum⟩
def fe3 : Fe := ⟨"sum_with", 2, [], spSumWith⟩
def fe4 : Fe := ⟨"sum_of", 1, [([("operand" : Str)], [0])], spSumOf⟩
def fe5 : Fe := ⟨"added", 2, [([("other" : Str), ("one" : Str)], [1, 0])], spAdded⟩
def fe6 : Fe := ⟨"times", 2, [([("one" : Str), ("factor" : Str)], [1, 0])], spTimes⟩
def fe7 : Fe := ⟨"without", 2, [], spWithout⟩
def fe8 : Fe := ⟨"put_in", 2, [([("meanings" : Str), ("one" : Str)], [1, 0])], spPutIn⟩
def fe9 : Fe := ⟨"worth", 2, [([("values" : Str), ("one" : Str)], [1, 0])], spWorth⟩
def fe10 : Fe := ⟨"names_of", 1, [], spNamesOf⟩
def fe11 : Fe := ⟨"names_in", 1, [([("sums" : Str)], [0])], spNamesIn⟩
def fe12 : Fe := ⟨"_law_cell", 2, [], spCell⟩
def fe13 : Fe := ⟨"_law_take", 2, [], spTake⟩
def fe14 : Fe := ⟨"_law_box", 1, [], spBox⟩
def fe15 : Fe := ⟨"_law_same", 2, [], spSame 8⟩
def fe16 : Fe := ⟨"_law_sum", 2, [], spSumWith⟩
def fe17 : Fe := ⟨"_law_plus", 3, [], spPlus⟩
def fe18 : Fe := ⟨"_law_swap", 2, [], spPutIn⟩
def fe19 : Fe := ⟨"_law_worth", 2, [], spWorth⟩
def fe20 : Fe := ⟨"_law_int", 1, [], spWhole⟩
def fe21 : Fe := ⟨"_law_is_sum", 1, [], spSum⟩
def fe22 : Fe := ⟨"_law_draw_sum", 3, [], spDraw⟩
def fe23 : Fe := ⟨"_law_names_of", 1, [], spLawNames⟩
def fe24 : Fe := ⟨"_law_odd", 2, [], spOdd⟩
def fe25 : Fe := ⟨"_law_values", 2, [], spValues⟩
def fe26 : Fe := ⟨"_law_sums_right", 4, [], spSumsRight⟩
def fe27 : Fe := ⟨"_law_swaps_right", 3, [], spSwaps⟩
structure Dds (K : PySem.W.Frag) (mg : Str → Option Value) : Prop where
  d0 : Dd K mg "is_whole" (top 1) ["thing"] []
  d1 : Dd K mg "is_pair" (top 4) ["thing"] []
  d2 : Dd K mg "is_sum" (top 5) ["thing"] [([("thing" : Str)], [0])]
  d3 : Dd K mg "sum_with" (top 6) ["constant", "factors"] []
  d4 : Dd K mg "sum_of" (top 7) ["operand"] [([("operand" : Str)], [0])]
  d5 : Dd K mg "added" (top 8) ["one", "other"] [([("other" : Str), ("one" : Str)], [1, 0])]
  d6 : Dd K mg "times" (top 9) ["factor", "one"] [([("one" : Str), ("factor" : Str)], [1, 0])]
  d7 : Dd K mg "without" (top 10) ["one", "other"] []
  d8 : Dd K mg "put_in" (top 11) ["one", "meanings"] [([("meanings" : Str), ("one" : Str)], [1, 0])]
  d9 : Dd K mg "worth" (top 12) ["one", "values"] [([("values" : Str), ("one" : Str)], [1, 0])]
  d10 : Dd K mg "names_of" (top 13) ["one"] []
  d11 : Dd K mg "names_in" (top 14) ["sums"] [([("sums" : Str)], [0])]
  d12 : Dd K mg "_law_cell" (top 16) ["script", "k"] []
  d13 : Dd K mg "_law_take" (top 17) ["box", "many"] []
  d14 : Dd K mg "_law_box" (top 18) ["great"] []
  d15 : Dd K mg "_law_same" (top 19) ["told", "due"] []
  d16 : Dd K mg "_law_sum" (top 20) ["constant", "factors"] []
  d17 : Dd K mg "_law_plus" (top 21) ["one", "other", "factor"] []
  d18 : Dd K mg "_law_swap" (top 22) ["one", "means"] []
  d19 : Dd K mg "_law_worth" (top 23) ["one", "values"] []
  d20 : Dd K mg "_law_int" (top 27) ["thing"] []
  d21 : Dd K mg "_law_is_sum" (top 24) ["thing"] []
  d22 : Dd K mg "_law_draw_sum" (top 25) ["box", "names", "size"] []
  d23 : Dd K mg "_law_names_of" (top 26) ["sums"] []
  d24 : Dd K mg "_law_odd" (top 28) ["box", "one"] []
  d25 : Dd K mg "_law_values" (top 29) ["box", "names"] []
  d26 : Dd K mg "_law_sums_right" (top 30) ["box", "sums", "names", "size"] []
  d27 : Dd K mg "_law_swaps_right" (top 31) ["box", "sums", "names"] []
section
variable {P : Program} {w : World} {mg : Str → Option Value} {base : Heap} {W : Wd}
theorem same_fk (D : Dd W.K mg "_law_same" (top 19) ["told", "due"] []) (G : Gs mg W gls [.int (-1)] bl) (L : Fks P w mg base W 15 [fe0, fe1, fe2, fe3, fe4, fe5, fe6, fe7, fe8, fe9, fe10, fe11, fe12, fe13, fe14]) : ∀ n : Nat, Fk P w mg base W (17 + n) "_law_same" 2 [] (spSame n)
  | 0 => by
    have L2 : Fks P w mg base W 16 ([fe0, fe1, fe2, fe3, fe4, fe5, fe6, fe7, fe8, fe9, fe10, fe11, fe12, fe13, fe14] ++ [⟨"_law_same", 2, [], fun _ _ _ => False⟩]) := L.snoc (e := ⟨"_law_same", 2, [], fun _ _ _ => False⟩) (Fk.never D)
    exact def_rule (g := [.int (-1)]) (gls := gls) (bl := bl) D sc__law_same L2 G chk__law_same fun ds S Q h _ => r_law_same (n := 0) rfl h
  | n + 1 => by
    have ih := same_fk D G L n
    have L2 : Fks P w mg base W (16 + n + 1) ([fe0, fe1, fe2, fe3, fe4, fe5, fe6, fe7, fe8, fe9, fe10, fe11, fe12, fe13, fe14] ++ [⟨"_law_same", 2, [], spSame n⟩]) := (L.mono (k := 16 + n) (by omega)).snoc (e := ⟨"_law_same", 2, [], spSame n⟩) (ih.mono (by omega))
    exact (def_rule (g := [.int (-1)]) (gls := gls) (bl := bl) D sc__law_same L2 G chk__law_same fun ds S Q h _ => r_law_same (n := n + 1) rfl h).mono (by omega)
theorem all_fk (D : Dds W.K mg) (G : Gs mg W gls [.int (-1)] bl) {a : Addr} {fd : FuncData} (F : Fun W.K "law" "law" (top 32) a fd) : FnOk P w W.K mg base CX0 40 a fd ["script"] (LSp W 1 (spLawD 63)) := by
  have L0 : Fks P w mg base W 0 [] := Fks.nil
  have f0 : Fk P w mg base W 1 fe0.x fe0.n fe0.kws fe0.sp := def_rule (g := [.int (-1)]) (gls := gls) (bl := bl) D.d0 sc_is_whole L0 G chk_is_whole fun ds S Q h _ => r_is_whole h
  have L1 : Fks P w mg base W 1 [fe0] := L0.snoc (e := fe0) f0
  have f1 : Fk P w mg base W 2 fe1.x fe1.n fe1.kws fe1.sp := def_rule (g := [.int (-1)]) (gls := gls) (bl := bl) D.d1 sc_is_pair L1 G chk_is_pair fun ds S Q h _ => r_is_pair rfl rfl h
  have L2 : Fks P w mg base W 2 [fe0, fe1] := L1.snoc (e := fe1) f1
  have f2 : Fk P w mg base W 3 fe2.x fe2.n fe2.kws fe2.sp := def_rule (g := [.int (-1)]) (gls := gls) (bl := bl) D.d2 sc_is_sum L2 G chk_is_sum fun ds S Q h _ => r_is_sum rfl rfl h
  have L3 : Fks P w mg base W 3 [fe0, fe1, fe2] := L2.snoc (e := fe2) f2
  have f3 : Fk P w mg base W 4 fe3.x fe3.n fe3.kws fe3.sp := def_rule (g := [.int (-1)]) (gls := gls) (bl := bl) D.d3 sc_sum_with L3 G chk_sum_with fun ds S Q h _ => r_sum_with h
  have L4 : Fks P w mg base W 4 [fe0, fe1, fe2, fe3] := L3.snoc (e := fe3) f3
  have f4 : Fk P w mg base W 5 fe4.x fe4.n fe4.kws fe4.sp := def_rule (g := [.int (-1)]) (gls := gls) (bl := bl) D.d4 sc_sum_of L4 G chk_sum_of fun ds S Q h _ => r_sum_of h
  have L5 : Fks P w mg base W 5 [fe0, fe1, fe2, fe3, fe4] := L4.snoc (e := fe4) f4
  have f5 : Fk P w mg base W 6 fe5.x fe5.n fe5.kws fe5.sp := def_rule (g := [.int (-1)]) (gls := gls) (bl := bl) D.d5 sc_added L5 G chk_added fun ds S Q h _ => r_added rfl h
  have L6 : Fks P w mg base W 6 [fe0, fe1, fe2, fe3, fe4, fe5] := L5.snoc (e := fe5) f5
  have f6 : Fk P w mg base W 7 fe6.x fe6.n fe6.kws fe6.sp := def_rule (g := [.int (-1)]) (gls := gls) (bl := bl) D.d6 sc_times L6 G chk_times fun ds S Q h _ => r_times rfl h
  have L7 : Fks P w mg base W 7 [fe0, fe1, fe2, fe3, fe4, fe5, fe6] := L6.snoc (e := fe6) f6
  have f7 : Fk P w mg base W 8 fe7.x fe7.n fe7.kws fe7.sp := def_rule (g := [.int (-1)]) (gls := gls) (bl := bl) D.d7 sc_without L7 G chk_without fun ds S Q h _ => r_without rfl rfl h
  have L8 : Fks P w mg base W 8 [fe0, fe1, fe2, fe3, fe4, fe5, fe6, fe7] := L7.snoc (e := fe7) f7
  have f8 : Fk P w mg base W 9 fe8.x fe8.n fe8.kws fe8.sp := def_rule (g := [.int (-1)]) (gls := gls) (bl := bl) D.d8 sc_put_in L8 G chk_put_in fun ds S Q h _ => r_put_in rfl rfl h
  have L9 : Fks P w mg base W 9 [fe0, fe1, fe2, fe3, fe4, fe5, fe6, fe7, fe8] := L8.snoc (e := fe8) f8
  have f9 : Fk P w mg base W 10 fe9.x fe9.n fe9.kws fe9.sp := def_rule (g := [.int (-1)]) (gls := gls) (bl := bl) D.d9 sc_worth L9 G chk_worth fun ds S Q h _ => r_worth h
  have L10 : Fks P w mg base W 10 [fe0, fe1, fe2, fe3, fe4, fe5, fe6, fe7, fe8, fe9] := L9.snoc (e := fe9) f9
  have f10 : Fk P w mg base W 11 fe10.x fe10.n fe10.kws fe10.sp := def_rule (g := [.int (-1)]) (gls := gls) (bl := bl) D.d10 sc_names_of L10 G chk_names_of fun ds S Q h _ => r_names_of h
  have L11 : Fks P w mg base W 11 [fe0, fe1, fe2, fe3, fe4, fe5, fe6, fe7, fe8, fe9, fe10] := L10.snoc (e := fe10) f10
  have f11 : Fk P w mg base W 12 fe11.x fe11.n fe11.kws fe11.sp := def_rule (g := [.int (-1)]) (gls := gls) (bl := bl) D.d11 sc_names_in L11 G chk_names_in fun ds S Q h _ => r_names_in rfl h
  have L12 : Fks P w mg base W 12 [fe0, fe1, fe2, fe3, fe4, fe5, fe6, fe7, fe8, fe9, fe10, fe11] := L11.snoc (e := fe11) f11
  have f12 : Fk P w mg base W 13 fe12.x fe12.n fe12.kws fe12.sp := def_rule (g := [.int (-1)]) (gls := gls) (bl := bl) D.d12 sc__law_cell L12 G chk__law_cell fun ds S Q h _ => r_cell h
  have L13 : Fks P w mg base W 13 [fe0, fe1, fe2, fe3, fe4, fe5, fe6, fe7, fe8, fe9, fe10, fe11, fe12] := L12.snoc (e := fe12) f12
  have f13 : Fk P w mg base W 14 fe13.x fe13.n fe13.kws fe13.sp := def_rule (g := [.int (-1)]) (gls := gls) (bl := bl) D.d13 sc__law_take L13 G chk__law_take fun ds S Q h _ => r_take h
  have L14 : Fks P w mg base W 14 [fe0, fe1, fe2, fe3, fe4, fe5, fe6, fe7, fe8, fe9, fe10, fe11, fe12, fe13] := L13.snoc (e := fe13) f13
  have f14 : Fk P w mg base W 15 fe14.x fe14.n fe14.kws fe14.sp := def_rule (g := [.int (-1)]) (gls := gls) (bl := bl) D.d14 sc__law_box L14 G chk__law_box fun ds S Q h _ => r_box h
  have L15 : Fks P w mg base W 15 [fe0, fe1, fe2, fe3, fe4, fe5, fe6, fe7, fe8, fe9, fe10, fe11, fe12, fe13, fe14] := L14.snoc (e := fe14) f14
  have f15 : Fk P w mg base W 25 fe15.x fe15.n fe15.kws fe15.sp := same_fk D.d15 G L15 8
  have L16 : Fks P w mg base W 25 [fe0, fe1, fe2, fe3, fe4, fe5, fe6, fe7, fe8, fe9, fe10, fe11, fe12, fe13, fe14, fe15] := (L15.mono (k := 24) (by decide)).snoc (e := fe15) f15
  have f16 : Fk P w mg base W 26 fe16.x fe16.n fe16.kws fe16.sp := def_rule (g := [.int (-1)]) (gls := gls) (bl := bl) D.d16 sc__law_sum L16 G chk__law_sum fun ds S Q h _ => r_law_sum h
  have L17 : Fks P w mg base W 26 [fe0, fe1, fe2, fe3, fe4, fe5, fe6, fe7, fe8, fe9, fe10, fe11, fe12, fe13, fe14, fe15, fe16] := L16.snoc (e := fe16) f16
  have f17 : Fk P w mg base W 27 fe17.x fe17.n fe17.kws fe17.sp := def_rule (g := [.int (-1)]) (gls := gls) (bl := bl) D.d17 sc__law_plus L17 G chk__law_plus fun ds S Q h _ => r_law_plus rfl h
  have L18 : Fks P w mg base W 27 [fe0, fe1, fe2, fe3, fe4, fe5, fe6, fe7, fe8, fe9, fe10, fe11, fe12, fe13, fe14, fe15, fe16, fe17] := L17.snoc (e := fe17) f17
  have f18 : Fk P w mg base W 28 fe18.x fe18.n fe18.kws fe18.sp := def_rule (g := [.int (-1)]) (gls := gls) (bl := bl) D.d18 sc__law_swap L18 G chk__law_swap fun ds S Q h _ => r_law_swap rfl h
  have L19 : Fks P w mg base W 28 [fe0, fe1, fe2, fe3, fe4, fe5, fe6, fe7, fe8, fe9, fe10, fe11, fe12, fe13, fe14, fe15, fe16, fe17, fe18] := L18.snoc (e := fe18) f18
  have f19 : Fk P w mg base W 29 fe19.x fe19.n fe19.kws fe19.sp := def_rule (g := [.int (-1)]) (gls := gls) (bl := bl) D.d19 sc__law_worth L19 G chk__law_worth fun ds S Q h _ => r_law_worth h
  have L20 : Fks P w mg base W 29 [fe0, fe1, fe2, fe3, fe4, fe5, fe6, fe7, fe8, fe9, fe10, fe11, fe12, fe13, fe14, fe15, fe16, fe17, fe18, fe19] := L19.snoc (e := fe19) f19
  have f20 : Fk P w mg base W 30 fe20.x fe20.n fe20.kws fe20.sp := def_rule (g := [.int (-1)]) (gls := gls) (bl := bl) D.d20 sc__law_int L20 G chk__law_int fun ds S Q h _ => r_int h
  have L21 : Fks P w mg base W 30 [fe0, fe1, fe2, fe3, fe4, fe5, fe6, fe7, fe8, fe9, fe10, fe11, fe12, fe13, fe14, fe15, fe16, fe17, fe18, fe19, fe20] := L20.snoc (e := fe20) f20
  have f21 : Fk P w mg base W 31 fe21.x fe21.n fe21.kws fe21.sp := def_rule (g := [.int (-1)]) (gls := gls) (bl := bl) D.d21 sc__law_is_sum L21 G chk__law_is_sum fun ds S Q h _ => r_law_is_sum rfl h
  have L22 : Fks P w mg base W 31 [fe0, fe1, fe2, fe3, fe4, fe5, fe6, fe7, fe8, fe9, fe10, fe11, fe12, fe13, fe14, fe15, fe16, fe17, fe18, fe19, fe20, fe21] := L21.snoc (e := fe21) f21
  have f22 : Fk P w mg base W 32 fe22.x fe22.n fe22.kws fe22.sp := def_rule (g := [.int (-1)]) (gls := gls) (bl := bl) D.d22 sc__law_draw_sum L22 G chk__law_draw_sum fun ds S Q h _ => r_draw rfl rfl h
  have L23 : Fks P w mg base W 32 [fe0, fe1, fe2, fe3, fe4, fe5, fe6, fe7, fe8, fe9, fe10, fe11, fe12, fe13, fe14, fe15, fe16, fe17, fe18, fe19, fe20, fe21, fe22] := L22.snoc (e := fe22) f22
  have f23 : Fk P w mg base W 33 fe23.x fe23.n fe23.kws fe23.sp := def_rule (g := [.int (-1)]) (gls := gls) (bl := bl) D.d23 sc__law_names_of L23 G chk__law_names_of fun ds S Q h _ => r_law_names_of h
  have L24 : Fks P w mg base W 33 [fe0, fe1, fe2, fe3, fe4, fe5, fe6, fe7, fe8, fe9, fe10, fe11, fe12, fe13, fe14, fe15, fe16, fe17, fe18, fe19, fe20, fe21, fe22, fe23] := L23.snoc (e := fe23) f23
  have f24 : Fk P w mg base W 34 fe24.x fe24.n fe24.kws fe24.sp := def_rule (g := [.int (-1)]) (gls := gls) (bl := bl) D.d24 sc__law_odd L24 G chk__law_odd fun ds S Q h _ => r_odd rfl h
  have L25 : Fks P w mg base W 34 [fe0, fe1, fe2, fe3, fe4, fe5, fe6, fe7, fe8, fe9, fe10, fe11, fe12, fe13, fe14, fe15, fe16, fe17, fe18, fe19, fe20, fe21, fe22, fe23, fe24] := L24.snoc (e := fe24) f24
  have f25 : Fk P w mg base W 35 fe25.x fe25.n fe25.kws fe25.sp := def_rule (g := [.int (-1)]) (gls := gls) (bl := bl) D.d25 sc__law_values L25 G chk__law_values fun ds S Q h _ => r_values rfl h
  have L26 : Fks P w mg base W 35 [fe0, fe1, fe2, fe3, fe4, fe5, fe6, fe7, fe8, fe9, fe10, fe11, fe12, fe13, fe14, fe15, fe16, fe17, fe18, fe19, fe20, fe21, fe22, fe23, fe24, fe25] := L25.snoc (e := fe25) f25
  have f26 : Fk P w mg base W 36 fe26.x fe26.n fe26.kws fe26.sp := def_rule (g := [.int (-1)]) (gls := gls) (bl := bl) D.d26 sc__law_sums_right L26 G chk__law_sums_right fun ds S Q h _ => r_sums_right ⟨rfl, rfl, rfl, rfl, rfl, rfl, rfl, rfl, rfl, rfl, rfl, rfl, rfl, rfl, rfl⟩ rfl h
  have L27 : Fks P w mg base W 36 [fe0, fe1, fe2, fe3, fe4, fe5, fe6, fe7, fe8, fe9, fe10, fe11, fe12, fe13, fe14, fe15, fe16, fe17, fe18, fe19, fe20, fe21, fe22, fe23, fe24, fe25, fe26] := L26.snoc (e := fe26) f26
  have f27 : Fk P w mg base W 37 fe27.x fe27.n fe27.kws fe27.sp := def_rule (g := [.int (-1)]) (gls := gls) (bl := bl) D.d27 sc__law_swaps_right L27 G chk__law_swaps_right fun ds S Q h _ => r_swaps ⟨rfl, rfl, rfl, rfl, rfl, rfl, rfl, rfl, rfl, rfl, rfl, rfl, rfl, rfl, rfl⟩ rfl h
  have L28 : Fks P w mg base W 37 [fe0, fe1, fe2, fe3, fe4, fe5, fe6, fe7, fe8, fe9, fe10, fe11, fe12, fe13, fe14, fe15, fe16, fe17, fe18, fe19, fe20, fe21, fe22, fe23, fe24, fe25, fe26, fe27] := L27.snoc (e := fe27) f27
  have f : FnOk P w W.K mg base CX0 38 a fd ["script"] (LSp W 1 (spLawD 63)) := def_fn (g := [.int (-1)]) (gls := gls) (bl := bl) F sc_law L28 G chk_law fun ds S Q h _ => r_law ⟨⟨rfl, rfl, rfl, rfl, rfl, rfl, rfl, rfl, rfl, rfl, rfl, rfl, rfl, rfl, rfl⟩, rfl, rfl, rfl, rfl, rfl, rfl, rfl, rfl, rfl, rfl, rfl, rfl, rfl, rfl, rfl⟩ h
  exact f.mono (by decide)
end
theorem all_mk {l : PySem.W.OpenLaw} {w : World} {K : PySem.W.Frag} {h : Heap} {mg : Str → Option Value} {fa : Addr} (X : K.In h) (G : h.Ns mainGlobals mg) (hfa : mg "law" = some (.ref fa))
    {g0 : Addr} {od0 an0 : Option Addr} {sl0 : Array (Option Value)} {oc0 kV0 dc0 pm0 cd0 ct0 : Value}
    (a0 : PySem.W.nsIn K mainGlobals "is_whole" = some (some (.ref g0))) (l0 : K.lookup g0 = some ⟨oc0, od0, .func (PySem.W.fnOf "is_whole" "is_whole" (defArgs (top 1)) (defBody (top 1)) (defScope (top 1)) .none kV0 dc0 pm0 an0 cd0 ct0), sl0⟩) (c0 : PySem.W.codeIn K cd0 "is_whole" = true) (k0 : PySem.W.keepIn K (.ref g0) = true)
    {g1 : Addr} {od1 an1 : Option Addr} {sl1 : Array (Option Value)} {oc1 kV1 dc1 pm1 cd1 ct1 : Value}
    (a1 : PySem.W.nsIn K mainGlobals "is_pair" = some (some (.ref g1))) (l1 : K.lookup g1 = some ⟨oc1, od1, .func (PySem.W.fnOf "is_pair" "is_pair" (defArgs (top 4)) (defBody (top 4)) (defScope (top 4)) .none kV1 dc1 pm1 an1 cd1 ct1), sl1⟩) (c1 : PySem.W.codeIn K cd1 "is_pair" = true) (k1 : PySem.W.keepIn K (.ref g1) = true)
    {g2 : Addr} {od2 an2 : Option Addr} {sl2 : Array (Option Value)} {oc2 kV2 dc2 pm2 cd2 ct2 : Value}
    (a2 : PySem.W.nsIn K mainGlobals "is_sum" = some (some (.ref g2))) (l2 : K.lookup g2 = some ⟨oc2, od2, .func (PySem.W.fnOf "is_sum" "is_sum" (defArgs (top 5)) (defBody (top 5)) (defScope (top 5)) .none kV2 dc2 pm2 an2 cd2 ct2), sl2⟩) (c2 : PySem.W.codeIn K cd2 "is_sum" = true) (k2 : PySem.W.keepIn K (.ref g2) = true)
    {g3 : Addr} {od3 an3 : Option Addr} {sl3 : Array (Option Value)} {oc3 kV3 dc3 pm3 cd3 ct3 : Value}
    (a3 : PySem.W.nsIn K mainGlobals "sum_with" = some (some (.ref g3))) (l3 : K.lookup g3 = some ⟨oc3, od3, .func (PySem.W.fnOf "sum_with" "sum_with" (defArgs (top 6)) (defBody (top 6)) (defScope (top 6)) .none kV3 dc3 pm3 an3 cd3 ct3), sl3⟩) (c3 : PySem.W.codeIn K cd3 "sum_with" = true) (k3 : PySem.W.keepIn K (.ref g3) = true)
    {g4 : Addr} {od4 an4 : Option Addr} {sl4 : Array (Option Value)} {oc4 kV4 dc4 pm4 cd4 ct4 : Value}
    (a4 : PySem.W.nsIn K mainGlobals "sum_of" = some (some (.ref g4))) (l4 : K.lookup g4 = some ⟨oc4, od4, .func (PySem.W.fnOf "sum_of" "sum_of" (defArgs (top 7)) (defBody (top 7)) (defScope (top 7)) .none kV4 dc4 pm4 an4 cd4 ct4), sl4⟩) (c4 : PySem.W.codeIn K cd4 "sum_of" = true) (k4 : PySem.W.keepIn K (.ref g4) = true)
    {g5 : Addr} {od5 an5 : Option Addr} {sl5 : Array (Option Value)} {oc5 kV5 dc5 pm5 cd5 ct5 : Value}
    (a5 : PySem.W.nsIn K mainGlobals "added" = some (some (.ref g5))) (l5 : K.lookup g5 = some ⟨oc5, od5, .func (PySem.W.fnOf "added" "added" (defArgs (top 8)) (defBody (top 8)) (defScope (top 8)) .none kV5 dc5 pm5 an5 cd5 ct5), sl5⟩) (c5 : PySem.W.codeIn K cd5 "added" = true) (k5 : PySem.W.keepIn K (.ref g5) = true)
    {g6 : Addr} {od6 an6 : Option Addr} {sl6 : Array (Option Value)} {oc6 kV6 dc6 pm6 cd6 ct6 : Value}
    (a6 : PySem.W.nsIn K mainGlobals "times" = some (some (.ref g6))) (l6 : K.lookup g6 = some ⟨oc6, od6, .func (PySem.W.fnOf "times" "times" (defArgs (top 9)) (defBody (top 9)) (defScope (top 9)) .none kV6 dc6 pm6 an6 cd6 ct6), sl6⟩) (c6 : PySem.W.codeIn K cd6 "times" = true) (k6 : PySem.W.keepIn K (.ref g6) = true)
    {g7 : Addr} {od7 an7 : Option Addr} {sl7 : Array (Option Value)} {oc7 kV7 dc7 pm7 cd7 ct7 : Value}
    (a7 : PySem.W.nsIn K mainGlobals "without" = some (some (.ref g7))) (l7 : K.lookup g7 = some ⟨oc7, od7, .func (PySem.W.fnOf "without" "without" (defArgs (top 10)) (defBody (top 10)) (defScope (top 10)) .none kV7 dc7 pm7 an7 cd7 ct7), sl7⟩) (c7 : PySem.W.codeIn K cd7 "without" = true) (k7 : PySem.W.keepIn K (.ref g7) = true)
    {g8 : Addr} {od8 an8 : Option Addr} {sl8 : Array (Option Value)} {oc8 kV8 dc8 pm8 cd8 ct8 : Value}
    (a8 : PySem.W.nsIn K mainGlobals "put_in" = some (some (.ref g8))) (l8 : K.lookup g8 = some ⟨oc8, od8, .func (PySem.W.fnOf "put_in" "put_in" (defArgs (top 11)) (defBody (top 11)) (defScope (top 11)) .none kV8 dc8 pm8 an8 cd8 ct8), sl8⟩) (c8 : PySem.W.codeIn K cd8 "put_in" = true) (k8 : PySem.W.keepIn K (.ref g8) = true)
    {g9 : Addr} {od9 an9 : Option Addr} {sl9 : Array (Option Value)} {oc9 kV9 dc9 pm9 cd9 ct9 : Value}
    (a9 : PySem.W.nsIn K mainGlobals "worth" = some (some (.ref g9))) (l9 : K.lookup g9 = some ⟨oc9, od9, .func (PySem.W.fnOf "worth" "worth" (defArgs (top 12)) (defBody (top 12)) (defScope (top 12)) .none kV9 dc9 pm9 an9 cd9 ct9), sl9⟩) (c9 : PySem.W.codeIn K cd9 "worth" = true) (k9 : PySem.W.keepIn K (.ref g9) = true)
    {g10 : Addr} {od10 an10 : Option Addr} {sl10 : Array (Option Value)} {oc10 kV10 dc10 pm10 cd10 ct10 : Value}
    (a10 : PySem.W.nsIn K mainGlobals "names_of" = some (some (.ref g10))) (l10 : K.lookup g10 = some ⟨oc10, od10, .func (PySem.W.fnOf "names_of" "names_of" (defArgs (top 13)) (defBody (top 13)) (defScope (top 13)) .none kV10 dc10 pm10 an10 cd10 ct10), sl10⟩) (c10 : PySem.W.codeIn K cd10 "names_of" = true) (k10 : PySem.W.keepIn K (.ref g10) = true)
    {g11 : Addr} {od11 an11 : Option Addr} {sl11 : Array (Option Value)} {oc11 kV11 dc11 pm11 cd11 ct11 : Value}
    (a11 : PySem.W.nsIn K mainGlobals "names_in" = some (some (.ref g11))) (l11 : K.lookup g11 = some ⟨oc11, od11, .func (PySem.W.fnOf "names_in" "names_in" (defArgs (top 14)) (defBody (top 14)) (defScope (top 14)) .none kV11 dc11 pm11 an11 cd11 ct11), sl11⟩) (c11 : PySem.W.codeIn K cd11 "names_in" = true) (k11 : PySem.W.keepIn K (.ref g11) = true)
    {g12 : Addr} {od12 an12 : Option Addr} {sl12 : Array (Option Value)} {oc12 kV12 dc12 pm12 cd12 ct12 : Value}
    (a12 : PySem.W.nsIn K mainGlobals "_law_cell" = some (some (.ref g12))) (l12 : K.lookup g12 = some ⟨oc12, od12, .func (PySem.W.fnOf "_law_cell" "_law_cell" (defArgs (top 16)) (defBody (top 16)) (defScope (top 16)) .none kV12 dc12 pm12 an12 cd12 ct12), sl12⟩) (c12 : PySem.W.codeIn K cd12 "_law_cell" = true) (k12 : PySem.W.keepIn K (.ref g12) = true)
    {g13 : Addr} {od13 an13 : Option Addr} {sl13 : Array (Option Value)} {oc13 kV13 dc13 pm13 cd13 ct13 : Value}
    (a13 : PySem.W.nsIn K mainGlobals "_law_take" = some (some (.ref g13))) (l13 : K.lookup g13 = some ⟨oc13, od13, .func (PySem.W.fnOf "_law_take" "_law_take" (defArgs (top 17)) (defBody (top 17)) (defScope (top 17)) .none kV13 dc13 pm13 an13 cd13 ct13), sl13⟩) (c13 : PySem.W.codeIn K cd13 "_law_take" = true) (k13 : PySem.W.keepIn K (.ref g13) = true)
    {g14 : Addr} {od14 an14 : Option Addr} {sl14 : Array (Option Value)} {oc14 kV14 dc14 pm14 cd14 ct14 : Value}
    (a14 : PySem.W.nsIn K mainGlobals "_law_box" = some (some (.ref g14))) (l14 : K.lookup g14 = some ⟨oc14, od14, .func (PySem.W.fnOf "_law_box" "_law_box" (defArgs (top 18)) (defBody (top 18)) (defScope (top 18)) .none kV14 dc14 pm14 an14 cd14 ct14), sl14⟩) (c14 : PySem.W.codeIn K cd14 "_law_box" = true) (k14 : PySem.W.keepIn K (.ref g14) = true)
    {g15 : Addr} {od15 an15 : Option Addr} {sl15 : Array (Option Value)} {oc15 kV15 dc15 pm15 cd15 ct15 : Value}
    (a15 : PySem.W.nsIn K mainGlobals "_law_same" = some (some (.ref g15))) (l15 : K.lookup g15 = some ⟨oc15, od15, .func (PySem.W.fnOf "_law_same" "_law_same" (defArgs (top 19)) (defBody (top 19)) (defScope (top 19)) .none kV15 dc15 pm15 an15 cd15 ct15), sl15⟩) (c15 : PySem.W.codeIn K cd15 "_law_same" = true) (k15 : PySem.W.keepIn K (.ref g15) = true)
    {g16 : Addr} {od16 an16 : Option Addr} {sl16 : Array (Option Value)} {oc16 kV16 dc16 pm16 cd16 ct16 : Value}
    (a16 : PySem.W.nsIn K mainGlobals "_law_sum" = some (some (.ref g16))) (l16 : K.lookup g16 = some ⟨oc16, od16, .func (PySem.W.fnOf "_law_sum" "_law_sum" (defArgs (top 20)) (defBody (top 20)) (defScope (top 20)) .none kV16 dc16 pm16 an16 cd16 ct16), sl16⟩) (c16 : PySem.W.codeIn K cd16 "_law_sum" = true) (k16 : PySem.W.keepIn K (.ref g16) = true)
    {g17 : Addr} {od17 an17 : Option Addr} {sl17 : Array (Option Value)} {oc17 kV17 dc17 pm17 cd17 ct17 : Value}
    (a17 : PySem.W.nsIn K mainGlobals "_law_plus" = some (some (.ref g17))) (l17 : K.lookup g17 = some ⟨oc17, od17, .func (PySem.W.fnOf "_law_plus" "_law_plus" (defArgs (top 21)) (defBody (top 21)) (defScope (top 21)) .none kV17 dc17 pm17 an17 cd17 ct17), sl17⟩) (c17 : PySem.W.codeIn K cd17 "_law_plus" = true) (k17 : PySem.W.keepIn K (.ref g17) = true)
    {g18 : Addr} {od18 an18 : Option Addr} {sl18 : Array (Option Value)} {oc18 kV18 dc18 pm18 cd18 ct18 : Value}
    (a18 : PySem.W.nsIn K mainGlobals "_law_swap" = some (some (.ref g18))) (l18 : K.lookup g18 = some ⟨oc18, od18, .func (PySem.W.fnOf "_law_swap" "_law_swap" (defArgs (top 22)) (defBody (top 22)) (defScope (top 22)) .none kV18 dc18 pm18 an18 cd18 ct18), sl18⟩) (c18 : PySem.W.codeIn K cd18 "_law_swap" = true) (k18 : PySem.W.keepIn K (.ref g18) = true)
    {g19 : Addr} {od19 an19 : Option Addr} {sl19 : Array (Option Value)} {oc19 kV19 dc19 pm19 cd19 ct19 : Value}
    (a19 : PySem.W.nsIn K mainGlobals "_law_worth" = some (some (.ref g19))) (l19 : K.lookup g19 = some ⟨oc19, od19, .func (PySem.W.fnOf "_law_worth" "_law_worth" (defArgs (top 23)) (defBody (top 23)) (defScope (top 23)) .none kV19 dc19 pm19 an19 cd19 ct19), sl19⟩) (c19 : PySem.W.codeIn K cd19 "_law_worth" = true) (k19 : PySem.W.keepIn K (.ref g19) = true)
    {g20 : Addr} {od20 an20 : Option Addr} {sl20 : Array (Option Value)} {oc20 kV20 dc20 pm20 cd20 ct20 : Value}
    (a20 : PySem.W.nsIn K mainGlobals "_law_int" = some (some (.ref g20))) (l20 : K.lookup g20 = some ⟨oc20, od20, .func (PySem.W.fnOf "_law_int" "_law_int" (defArgs (top 27)) (defBody (top 27)) (defScope (top 27)) .none kV20 dc20 pm20 an20 cd20 ct20), sl20⟩) (c20 : PySem.W.codeIn K cd20 "_law_int" = true) (k20 : PySem.W.keepIn K (.ref g20) = true)
    {g21 : Addr} {od21 an21 : Option Addr} {sl21 : Array (Option Value)} {oc21 kV21 dc21 pm21 cd21 ct21 : Value}
    (a21 : PySem.W.nsIn K mainGlobals "_law_is_sum" = some (some (.ref g21))) (l21 : K.lookup g21 = some ⟨oc21, od21, .func (PySem.W.fnOf "_law_is_sum" "_law_is_sum" (defArgs (top 24)) (defBody (top 24)) (defScope (top 24)) .none kV21 dc21 pm21 an21 cd21 ct21), sl21⟩) (c21 : PySem.W.codeIn K cd21 "_law_is_sum" = true) (k21 : PySem.W.keepIn K (.ref g21) = true)
    {g22 : Addr} {od22 an22 : Option Addr} {sl22 : Array (Option Value)} {oc22 kV22 dc22 pm22 cd22 ct22 : Value}
    (a22 : PySem.W.nsIn K mainGlobals "_law_draw_sum" = some (some (.ref g22))) (l22 : K.lookup g22 = some ⟨oc22, od22, .func (PySem.W.fnOf "_law_draw_sum" "_law_draw_sum" (defArgs (top 25)) (defBody (top 25)) (defScope (top 25)) .none kV22 dc22 pm22 an22 cd22 ct22), sl22⟩) (c22 : PySem.W.codeIn K cd22 "_law_draw_sum" = true) (k22 : PySem.W.keepIn K (.ref g22) = true)
    {g23 : Addr} {od23 an23 : Option Addr} {sl23 : Array (Option Value)} {oc23 kV23 dc23 pm23 cd23 ct23 : Value}
    (a23 : PySem.W.nsIn K mainGlobals "_law_names_of" = some (some (.ref g23))) (l23 : K.lookup g23 = some ⟨oc23, od23, .func (PySem.W.fnOf "_law_names_of" "_law_names_of" (defArgs (top 26)) (defBody (top 26)) (defScope (top 26)) .none kV23 dc23 pm23 an23 cd23 ct23), sl23⟩) (c23 : PySem.W.codeIn K cd23 "_law_names_of" = true) (k23 : PySem.W.keepIn K (.ref g23) = true)
    {g24 : Addr} {od24 an24 : Option Addr} {sl24 : Array (Option Value)} {oc24 kV24 dc24 pm24 cd24 ct24 : Value}
    (a24 : PySem.W.nsIn K mainGlobals "_law_odd" = some (some (.ref g24))) (l24 : K.lookup g24 = some ⟨oc24, od24, .func (PySem.W.fnOf "_law_odd" "_law_odd" (defArgs (top 28)) (defBody (top 28)) (defScope (top 28)) .none kV24 dc24 pm24 an24 cd24 ct24), sl24⟩) (c24 : PySem.W.codeIn K cd24 "_law_odd" = true) (k24 : PySem.W.keepIn K (.ref g24) = true)
    {g25 : Addr} {od25 an25 : Option Addr} {sl25 : Array (Option Value)} {oc25 kV25 dc25 pm25 cd25 ct25 : Value}
    (a25 : PySem.W.nsIn K mainGlobals "_law_values" = some (some (.ref g25))) (l25 : K.lookup g25 = some ⟨oc25, od25, .func (PySem.W.fnOf "_law_values" "_law_values" (defArgs (top 29)) (defBody (top 29)) (defScope (top 29)) .none kV25 dc25 pm25 an25 cd25 ct25), sl25⟩) (c25 : PySem.W.codeIn K cd25 "_law_values" = true) (k25 : PySem.W.keepIn K (.ref g25) = true)
    {g26 : Addr} {od26 an26 : Option Addr} {sl26 : Array (Option Value)} {oc26 kV26 dc26 pm26 cd26 ct26 : Value}
    (a26 : PySem.W.nsIn K mainGlobals "_law_sums_right" = some (some (.ref g26))) (l26 : K.lookup g26 = some ⟨oc26, od26, .func (PySem.W.fnOf "_law_sums_right" "_law_sums_right" (defArgs (top 30)) (defBody (top 30)) (defScope (top 30)) .none kV26 dc26 pm26 an26 cd26 ct26), sl26⟩) (c26 : PySem.W.codeIn K cd26 "_law_sums_right" = true) (k26 : PySem.W.keepIn K (.ref g26) = true)
    {g27 : Addr} {od27 an27 : Option Addr} {sl27 : Array (Option Value)} {oc27 kV27 dc27 pm27 cd27 ct27 : Value}
    (a27 : PySem.W.nsIn K mainGlobals "_law_swaps_right" = some (some (.ref g27))) (l27 : K.lookup g27 = some ⟨oc27, od27, .func (PySem.W.fnOf "_law_swaps_right" "_law_swaps_right" (defArgs (top 31)) (defBody (top 31)) (defScope (top 31)) .none kV27 dc27 pm27 an27 cd27 ct27), sl27⟩) (c27 : PySem.W.codeIn K cd27 "_law_swaps_right" = true) (k27 : PySem.W.keepIn K (.ref g27) = true)
    {g28 : Addr} {od28 an28 : Option Addr} {sl28 : Array (Option Value)} {oc28 kV28 dc28 pm28 cd28 ct28 : Value}
    (a28 : PySem.W.nsIn K mainGlobals "law" = some (some (.ref g28))) (l28 : K.lookup g28 = some ⟨oc28, od28, .func (PySem.W.fnOf "law" "law" (defArgs (top 32)) (defBody (top 32)) (defScope (top 32)) .none kV28 dc28 pm28 an28 cd28 ct28), sl28⟩) (c28 : PySem.W.codeIn K cd28 "law" = true) (k28 : PySem.W.keepIn K (.ref g28) = true)
    (z0 : PySem.W.nsIn K mainGlobals "abs" = some none)
    (z1 : PySem.W.nsIn K mainGlobals "all" = some none)
    (z2 : PySem.W.nsIn K mainGlobals "bool" = some none)
    (z3 : PySem.W.nsIn K mainGlobals "dict" = some none)
    (z4 : PySem.W.nsIn K mainGlobals "int" = some none)
    (z5 : PySem.W.nsIn K mainGlobals "isinstance" = some none)
    (z6 : PySem.W.nsIn K mainGlobals "len" = some none)
    (z7 : PySem.W.nsIn K mainGlobals "list" = some none)
    (z8 : PySem.W.nsIn K mainGlobals "max" = some none)
    (z9 : PySem.W.nsIn K mainGlobals "min" = some none)
    (z10 : PySem.W.nsIn K mainGlobals "range" = some none)
    (z11 : PySem.W.nsIn K mainGlobals "set" = some none)
    (z12 : PySem.W.nsIn K mainGlobals "sorted" = some none)
    (z13 : PySem.W.nsIn K mainGlobals "str" = some none)
    (z14 : PySem.W.nsIn K mainGlobals "sum" = some none)
    (z15 : PySem.W.nsIn K mainGlobals "tuple" = some none)
    {rv : Value} (rA : PySem.W.nsIn K mainGlobals "RESULT" = some (some rv)) (rI : RelV (.int (-1)) rv) :
    ∃ fd : FuncData, (∀ (s : Shared) (v : Value), BindsTo s fd ⟨[v], []⟩ [("script", v)]) ∧ ∀ base : Heap, K.In base → base.Ns mainGlobals mg → FnOk l.prog w K mg base CX0 40 fa fd ["script"] (spLaw0 63 K) := by
  have GG : Gs mg ⟨K, fun _ => none⟩ gls [.int (-1)] bl := by
    refine ⟨fun j x d h1 h2 => ?_, fun x hx => ?_⟩
    · match j, h1, h2 with
      | 0, h1, h2 => cases h1; cases h2; exact ⟨rv, .int (-1), PySem.W.mg_of X G rA, rI, fun F => .int (-1)⟩
      | _ + 1, h1, _ => cases h1
    · have hx := List.contains_iff_mem.mp hx
      simp only [bl, List.mem_cons, List.not_mem_nil, or_false] at hx
      rcases hx with rfl | rfl | rfl | rfl | rfl | rfl | rfl | rfl | rfl | rfl | rfl | rfl | rfl | rfl | rfl | rfl
      · exact PySem.W.mg_none_of X G z0
      · exact PySem.W.mg_none_of X G z1
      · exact PySem.W.mg_none_of X G z2
      · exact PySem.W.mg_none_of X G z3
      · exact PySem.W.mg_none_of X G z4
      · exact PySem.W.mg_none_of X G z5
      · exact PySem.W.mg_none_of X G z6
      · exact PySem.W.mg_none_of X G z7
      · exact PySem.W.mg_none_of X G z8
      · exact PySem.W.mg_none_of X G z9
      · exact PySem.W.mg_none_of X G z10
      · exact PySem.W.mg_none_of X G z11
      · exact PySem.W.mg_none_of X G z12
      · exact PySem.W.mg_none_of X G z13
      · exact PySem.W.mg_none_of X G z14
      · exact PySem.W.mg_none_of X G z15
  have DS : Dds K mg := by
    constructor
    · exact dd_mk X G a0 l0 c0 k0 (fun _ _ _ _ _ _ us hl => match us, hl with | [_], _ => rfl) (fun kp h => (by cases h))
    · exact dd_mk X G a1 l1 c1 k1 (fun _ _ _ _ _ _ us hl => match us, hl with | [_], _ => rfl) (fun kp h => (by cases h))
    · exact dd_mk X G a2 l2 c2 k2 (fun _ _ _ _ _ _ us hl => match us, hl with | [_], _ => rfl) (fun kp h => (by cases List.mem_singleton.mp h; exact fun _ _ _ _ _ _ ws hl => match ws, hl with | [_], _ => rfl))
    · exact dd_mk X G a3 l3 c3 k3 (fun _ _ _ _ _ _ us hl => match us, hl with | [_, _], _ => rfl) (fun kp h => (by cases h))
    · exact dd_mk X G a4 l4 c4 k4 (fun _ _ _ _ _ _ us hl => match us, hl with | [_], _ => rfl) (fun kp h => (by cases List.mem_singleton.mp h; exact fun _ _ _ _ _ _ ws hl => match ws, hl with | [_], _ => rfl))
    · exact dd_mk X G a5 l5 c5 k5 (fun _ _ _ _ _ _ us hl => match us, hl with | [_, _], _ => rfl) (fun kp h => (by cases List.mem_singleton.mp h; exact fun _ _ _ _ _ _ ws hl => match ws, hl with | [_, _], _ => rfl))
    · exact dd_mk X G a6 l6 c6 k6 (fun _ _ _ _ _ _ us hl => match us, hl with | [_, _], _ => rfl) (fun kp h => (by cases List.mem_singleton.mp h; exact fun _ _ _ _ _ _ ws hl => match ws, hl with | [_, _], _ => rfl))
    · exact dd_mk X G a7 l7 c7 k7 (fun _ _ _ _ _ _ us hl => match us, hl with | [_, _], _ => rfl) (fun kp h => (by cases h))
    · exact dd_mk X G a8 l8 c8 k8 (fun _ _ _ _ _ _ us hl => match us, hl with | [_, _], _ => rfl) (fun kp h => (by cases List.mem_singleton.mp h; exact fun _ _ _ _ _ _ ws hl => match ws, hl with | [_, _], _ => rfl))
    · exact dd_mk X G a9 l9 c9 k9 (fun _ _ _ _ _ _ us hl => match us, hl with | [_, _], _ => rfl) (fun kp h => (by cases List.mem_singleton.mp h; exact fun _ _ _ _ _ _ ws hl => match ws, hl with | [_, _], _ => rfl))
    · exact dd_mk X G a10 l10 c10 k10 (fun _ _ _ _ _ _ us hl => match us, hl with | [_], _ => rfl) (fun kp h => (by cases h))
    · exact dd_mk X G a11 l11 c11 k11 (fun _ _ _ _ _ _ us hl => match us, hl with | [_], _ => rfl) (fun kp h => (by cases List.mem_singleton.mp h; exact fun _ _ _ _ _ _ ws hl => match ws, hl with | [_], _ => rfl))
    · exact dd_mk X G a12 l12 c12 k12 (fun _ _ _ _ _ _ us hl => match us, hl with | [_, _], _ => rfl) (fun kp h => (by cases h))
    · exact dd_mk X G a13 l13 c13 k13 (fun _ _ _ _ _ _ us hl => match us, hl with | [_, _], _ => rfl) (fun kp h => (by cases h))
    · exact dd_mk X G a14 l14 c14 k14 (fun _ _ _ _ _ _ us hl => match us, hl with | [_], _ => rfl) (fun kp h => (by cases h))
    · exact dd_mk X G a15 l15 c15 k15 (fun _ _ _ _ _ _ us hl => match us, hl with | [_, _], _ => rfl) (fun kp h => (by cases h))
    · exact dd_mk X G a16 l16 c16 k16 (fun _ _ _ _ _ _ us hl => match us, hl with | [_, _], _ => rfl) (fun kp h => (by cases h))
    · exact dd_mk X G a17 l17 c17 k17 (fun _ _ _ _ _ _ us hl => match us, hl with | [_, _, _], _ => rfl) (fun kp h => (by cases h))
    · exact dd_mk X G a18 l18 c18 k18 (fun _ _ _ _ _ _ us hl => match us, hl with | [_, _], _ => rfl) (fun kp h => (by cases h))
    · exact dd_mk X G a19 l19 c19 k19 (fun _ _ _ _ _ _ us hl => match us, hl with | [_, _], _ => rfl) (fun kp h => (by cases h))
    · exact dd_mk X G a20 l20 c20 k20 (fun _ _ _ _ _ _ us hl => match us, hl with | [_], _ => rfl) (fun kp h => (by cases h))
    · exact dd_mk X G a21 l21 c21 k21 (fun _ _ _ _ _ _ us hl => match us, hl with | [_], _ => rfl) (fun kp h => (by cases h))
    · exact dd_mk X G a22 l22 c22 k22 (fun _ _ _ _ _ _ us hl => match us, hl with | [_, _, _], _ => rfl) (fun kp h => (by cases h))
    · exact dd_mk X G a23 l23 c23 k23 (fun _ _ _ _ _ _ us hl => match us, hl with | [_], _ => rfl) (fun kp h => (by cases h))
    · exact dd_mk X G a24 l24 c24 k24 (fun _ _ _ _ _ _ us hl => match us, hl with | [_, _], _ => rfl) (fun kp h => (by cases h))
    · exact dd_mk X G a25 l25 c25 k25 (fun _ _ _ _ _ _ us hl => match us, hl with | [_, _], _ => rfl) (fun kp h => (by cases h))
    · exact dd_mk X G a26 l26 c26 k26 (fun _ _ _ _ _ _ us hl => match us, hl with | [_, _, _, _], _ => rfl) (fun kp h => (by cases h))
    · exact dd_mk X G a27 l27 c27 k27 (fun _ _ _ _ _ _ us hl => match us, hl with | [_, _, _], _ => rfl) (fun kp h => (by cases h))
  exact law_end (W := ⟨K, fun _ => none⟩) X G hfa a28 l28 (fun _ _ _ _ _ _ us hl => match us, hl with | [_], _ => rfl) c28 k28 fun base a fd _ _ F => all_fk DS GG F
end K00
open PySem PySem.W PyProof.Rows
set_option maxRecDepth 100000 in
set_option maxHeartbeats 0 in
theorem PySem.Challenge.cw_everystepheld_k00_sums_judged_and_added_holds : PySem.Challenge.rw_everystepheld_k00_sums_judged_and_added.Holds := by
  w_on; o_law; k_head; (case hw => w_witness2)
  k_fill
  refine DL.law_walk (l := PySem.Challenge.rw_everystepheld_k00_sums_judged_and_added) (k := 40) (cm := fun _ _ => none) rfl rfl ⟨rfl, by decide, by decide⟩ (fun w h Y => PySem.W.kIn_of Y) ?F
  case F =>
    intro w mg fa h KX G hmg
    refine' K00.all_mk KX G hmg ?a0 ?l0 ?c0 ?k0 ?a1 ?l1 ?c1 ?k1 ?a2 ?l2 ?c2 ?k2 ?a3 ?l3 ?c3 ?k3 ?a4 ?l4 ?c4 ?k4 ?a5 ?l5 ?c5 ?k5 ?a6 ?l6 ?c6 ?k6 ?a7 ?l7 ?c7 ?k7 ?a8 ?l8 ?c8 ?k8 ?a9 ?l9 ?c9 ?k9 ?a10 ?l10 ?c10 ?k10 ?a11 ?l11 ?c11 ?k11 ?a12 ?l12 ?c12 ?k12 ?a13 ?l13 ?c13 ?k13 ?a14 ?l14 ?c14 ?k14 ?a15 ?l15 ?c15 ?k15 ?a16 ?l16 ?c16 ?k16 ?a17 ?l17 ?c17 ?k17 ?a18 ?l18 ?c18 ?k18 ?a19 ?l19 ?c19 ?k19 ?a20 ?l20 ?c20 ?k20 ?a21 ?l21 ?c21 ?k21 ?a22 ?l22 ?c22 ?k22 ?a23 ?l23 ?c23 ?k23 ?a24 ?l24 ?c24 ?k24 ?a25 ?l25 ?c25 ?k25 ?a26 ?l26 ?c26 ?k26 ?a27 ?l27 ?c27 ?k27 ?a28 ?l28 ?c28 ?k28 ?z0 ?z1 ?z2 ?z3 ?z4 ?z5 ?z6 ?z7 ?z8 ?z9 ?z10 ?z11 ?z12 ?z13 ?z14 ?z15 ?rA ?rI
    (case a0 => k_is); (case l0 => k_is); (case c0 => k_is); (case k0 => k_is)
    (case a1 => k_is); (case l1 => k_is); (case c1 => k_is); (case k1 => k_is)
    (case a2 => k_is); (case l2 => k_is); (case c2 => k_is); (case k2 => k_is)
    (case a3 => k_is); (case l3 => k_is); (case c3 => k_is); (case k3 => k_is)
    (case a4 => k_is); (case l4 => k_is); (case c4 => k_is); (case k4 => k_is)
    (case a5 => k_is); (case l5 => k_is); (case c5 => k_is); (case k5 => k_is)
    (case a6 => k_is); (case l6 => k_is); (case c6 => k_is); (case k6 => k_is)
    (case a7 => k_is); (case l7 => k_is); (case c7 => k_is); (case k7 => k_is)
    (case a8 => k_is); (case l8 => k_is); (case c8 => k_is); (case k8 => k_is)
    (case a9 => k_is); (case l9 => k_is); (case c9 => k_is); (case k9 => k_is)
    (case a10 => k_is); (case l10 => k_is); (case c10 => k_is); (case k10 => k_is)
    (case a11 => k_is); (case l11 => k_is); (case c11 => k_is); (case k11 => k_is)
    (case a12 => k_is); (case l12 => k_is); (case c12 => k_is); (case k12 => k_is)
    (case a13 => k_is); (case l13 => k_is); (case c13 => k_is); (case k13 => k_is)
    (case a14 => k_is); (case l14 => k_is); (case c14 => k_is); (case k14 => k_is)
    (case a15 => k_is); (case l15 => k_is); (case c15 => k_is); (case k15 => k_is)
    (case a16 => k_is); (case l16 => k_is); (case c16 => k_is); (case k16 => k_is)
    (case a17 => k_is); (case l17 => k_is); (case c17 => k_is); (case k17 => k_is)
    (case a18 => k_is); (case l18 => k_is); (case c18 => k_is); (case k18 => k_is)
    (case a19 => k_is); (case l19 => k_is); (case c19 => k_is); (case k19 => k_is)
    (case a20 => k_is); (case l20 => k_is); (case c20 => k_is); (case k20 => k_is)
    (case a21 => k_is); (case l21 => k_is); (case c21 => k_is); (case k21 => k_is)
    (case a22 => k_is); (case l22 => k_is); (case c22 => k_is); (case k22 => k_is)
    (case a23 => k_is); (case l23 => k_is); (case c23 => k_is); (case k23 => k_is)
    (case a24 => k_is); (case l24 => k_is); (case c24 => k_is); (case k24 => k_is)
    (case a25 => k_is); (case l25 => k_is); (case c25 => k_is); (case k25 => k_is)
    (case a26 => k_is); (case l26 => k_is); (case c26 => k_is); (case k26 => k_is)
    (case a27 => k_is); (case l27 => k_is); (case c27 => k_is); (case k27 => k_is)
    (case a28 => k_is); (case l28 => k_is); (case c28 => k_is); (case k28 => k_is)
    (case z0 => k_is)
    (case z1 => k_is)
    (case z2 => k_is)
    (case z3 => k_is)
    (case z4 => k_is)
    (case z5 => k_is)
    (case z6 => k_is)
    (case z7 => k_is)
    (case z8 => k_is)
    (case z9 => k_is)
    (case z10 => k_is)
    (case z11 => k_is)
    (case z12 => k_is)
    (case z13 => k_is)
    (case z14 => k_is)
    (case z15 => k_is)
    (case rA => k_is); (case rI => exact ⟨_, rfl⟩)
#print axioms PySem.Challenge.cw_everystepheld_k00_sums_judged_and_added_holds
