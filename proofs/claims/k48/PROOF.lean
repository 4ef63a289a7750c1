import PyProof.Rows.All
import Wide.All
import OpenK.AllK
import Wide.FinOn
import PySem.Challenge.RW_saltvault_k48_shares
import HandS.ForMost
import HandS.ForExc
import HandS.TupAny
import HandS.TupMul
import HandS.IsInst
import HandS.Dict
import HandS.Iter
import HandS.Defaults
import HandS.HeadEnd
import KE.KRevSl
import HandS.Style
import HandS.Conv
import HandS.List
import KE.KTupSum
import HandS.Small
import HandS.Zip
import KE.GoesEnumKw
import HandS.HeadHook1
import HandS.HeadHook2
import PyProof.ReprRoads
import KE.DataMinMax
import HandS.SortKw
import PyProof.Rows.ChunkLeaf
import HandS.SetKeys
import HandS.SortInts
import HandS.More
import KE.DataCmp
import KE.SortData
import HandS.DictComp
import HandS.HeadHook4
import HandS.New
import HandS.SetFor
import HandS.Strs
import PyProof.AutoSeq1
import KE.KDictZip
import HandS.SetBool
import KE.KDictList
import KE.GoesEnum
import KE.KDictSum
import HandS.Finally
import HandS.ListItems
import HandS.DeepEq
import KE.KEqDict
import HandS.Wide
import HandS.Head0
import HandS.Head1
import HandS.Head2
import HandS.HeadHook3

/-! ## DLa -/
set_option Elab.async false
set_option linter.all false
set_option maxRecDepth 100000
set_option maxHeartbeats 4000000
namespace DL
open PySem PySem.Spec PyProof.Rows L2

/-- plain data, and names of things -/
inductive D where
  | non | bl (b : Bool) | int (i : Int) | str (x : Str)
  | tup (xs : List D) | lst (xs : List D) | dic (t : Bool) (kvs : List (D × D)) | ref (n : Nat) | raw (v : V) | scr (ns : List Int)
inductive Ob where
  | lst (xs : List D) | dic (t : Bool) (kvs : List (D × D)) | ins (c : Str) (fs : List (Str × D))
abbrev Sto := List (Option Ob)
inductive R (α : Type) where
  | ok (a : α) (S : Sto) | exc (c : Str) (p : D) (S : Sto) | bad
def R.bind {α β : Type} (r : R α) (g : α → Sto → R β) : R β := match r with
  | .ok a S => g a S
  | .exc c p S => .exc c p S
  | .bad => .bad
abbrev Ev := List (Option D)
abbrev Ex := Ev → Sto → R D

/-- a list that is read, not written by us -/
def SqF (K : PySem.W.Frag) (H : Hp) (Fb : Addr → Prop) (a : Addr) (xs : List V) : Prop :=
  (Rd H a (.lst xs) ∧ ¬ Fb a) ∨ ∃ (o : Obj) (its : Array Value) (n : Nat), K.lookup a = some o ∧ o.cls = .type "list" ∧ o.dict = none ∧ o.data = .seq its n ∧ its.size ≤ sizeLine ∧ Vals xs its.toList
theorem SqF.sq {K : PySem.W.Frag} {H : Hp} {Fb : Addr → Prop} {a : Addr} {xs : List V} (h : SqF K H Fb a xs) : SqL K H a xs := h.elim (fun h => .inl h.1) .inr
/-- locked for ever -/
def Lk (H : Hp) (a : Addr) (u : HO) : Prop := ∃ o, H a = some (.frz o u)
def Fixd : HO → Prop
  | .tup _ => True
  | .frz _ _ => True
  | _ => False
def keyD : Key → D
  | .inl i => .int i
  | .inr x => .str x
def keyT (ks : List Key) : D := .tup (ks.map keyD)

mutual
inductive Rep (K : PySem.W.Frag) (H : Hp) (Fb : Addr → Prop) (m : List Addr) : V → D → Prop
  | non : Rep K H Fb m .non .non
  | bl (b : Bool) : Rep K H Fb m (.bl b) (.bl b)
  | int (i : Int) : Rep K H Fb m (.int i) (.int i)
  | str (x : Str) : Rep K H Fb m (.str x) (.str x)
  | tup {a : Addr} {vs : List V} {ds : List D} : SqT K H a vs → vs.length ≤ sizeLine → RepA K H Fb m vs ds → Rep K H Fb m (.ref a) (.tup ds)
  | lst {a : Addr} {vs : List V} {ds : List D} : H a = some (.lst vs) → ¬ Fb a → vs.length ≤ sizeLine → RepA K H Fb m vs ds → Rep K H Fb m (.ref a) (.lst ds)
  | dK {a : Addr} {kv : List (Key × V)} {kvs : List (D × D)} : Lk H a (.dK kv) → kv.length ≤ sizeLine → kvs.map (·.1) = kv.map (fun p => keyD p.1) → RepA K H Fb m (kv.map (·.2)) (kvs.map (·.2)) → Rep K H Fb m (.ref a) (.dic false kvs)
  | dT {a : Addr} {kv : List (List Key × V)} {kvs : List (D × D)} : Lk H a (.dT kv) → kv.length ≤ sizeLine → kvs.map (·.1) = kv.map (fun p => keyT p.1) → RepA K H Fb m (kv.map (·.2)) (kvs.map (·.2)) → Rep K H Fb m (.ref a) (.dic true kvs)
  | ref {n : Nat} {a : Addr} : m[n]? = some a → Rep K H Fb m (.ref a) (.ref n)
  | raw (v : V) : Rep K H Fb m v (.raw v)
  | scr {a : Addr} {ns : List Int} : SqF K H Fb a (ns.map V.int) → ns.length ≤ sizeLine → Rep K H Fb m (.ref a) (.scr ns)
inductive RepA (K : PySem.W.Frag) (H : Hp) (Fb : Addr → Prop) (m : List Addr) : List V → List D → Prop
  | nil : RepA K H Fb m [] []
  | cons {v : V} {vs : List V} {d : D} {ds : List D} : Rep K H Fb m v d → RepA K H Fb m vs ds → RepA K H Fb m (v :: vs) (d :: ds)
end

/-- what a state keeps of another -/
structure Kp (H H' : Hp) (Fb Fb' : Addr → Prop) (m m' : List Addr) : Prop where
  lst : ∀ a xs, H a = some (.lst xs) → ¬ Fb a → H' a = some (.lst xs)
  obj : ∀ a u, Rd H a u → ¬ Fb a → Rd H' a u
  fix : ∀ a o, Fixd o → H a = some o → H' a = some o
  fb : ∀ a u, Rd H a u → ¬ Fb a → ¬ Fb' a
  ix : ∀ (n : Nat) a, m[n]? = some a → m'[n]? = some a

section
variable {K : PySem.W.Frag} {H H' : Hp} {Fb Fb' : Addr → Prop} {m m' : List Addr}
theorem Kp.tup (k : Kp H H' Fb Fb' m m') (a : Addr) (xs : List V) (h : Rd H a (.tup xs)) : Rd H' a (.tup xs) := h.elim (fun h => .inl (k.fix _ _ trivial h)) fun ⟨o, h⟩ => .inr ⟨o, k.fix _ _ trivial h⟩
theorem Kp.lk (k : Kp H H' Fb Fb' m m') {a : Addr} {u : HO} (h : Lk H a u) : Lk H' a u := h.imp fun _ h => k.fix _ _ trivial h
theorem Kp.sqT (k : Kp H H' Fb Fb' m m') {a : Addr} {xs : List V} (h : SqT K H a xs) : SqT K H' a xs := by
  rcases h with h | h
  · exact .inl (k.tup a xs h)
  · exact .inr h
mutual
theorem Rep.kp (k : Kp H H' Fb Fb' m m') : ∀ {v : V} {d : D}, Rep K H Fb m v d → Rep K H' Fb' m' v d
  | _, _, .non => .non
  | _, _, .bl b => .bl b
  | _, _, .int i => .int i
  | _, _, .str x => .str x
  | _, _, .tup h z r => .tup (k.sqT h) z (RepA.kp k r)
  | _, _, .lst h f z r => .lst (k.lst _ _ h f) (k.fb _ _ (.inl h) f) z (RepA.kp k r)
  | _, _, .dK h z e r => .dK (k.lk h) z e (RepA.kp k r)
  | _, _, .dT h z e r => .dT (k.lk h) z e (RepA.kp k r)
  | _, _, .ref h => .ref (k.ix _ _ h)
  | _, _, .raw v => .raw v
  | _, _, .scr h z => .scr (h.imp (fun h => ⟨k.obj _ _ h.1 h.2, k.fb _ _ h.1 h.2⟩) id) z
theorem RepA.kp (k : Kp H H' Fb Fb' m m') : ∀ {vs : List V} {ds : List D}, RepA K H Fb m vs ds → RepA K H' Fb' m' vs ds
  | _, _, .nil => .nil
  | _, _, .cons h r => .cons (Rep.kp k h) (RepA.kp k r)
end
end

def Liv (m : List Addr) (S : Sto) (a : Addr) : Prop := ∃ (n : Nat) (o : Ob), m[n]? = some a ∧ S[n]? = some (some o)
def Fo (B : Addr → Prop) (m : List Addr) (S : Sto) (a : Addr) : Prop := B a ∨ Liv m S a

/-- what stands for a live object -/
inductive ObR (K : PySem.W.Frag) (mg : Str → Option Value) (H : Hp) (Fb : Addr → Prop) (m : List Addr) (a : Addr) : Ob → Prop
  | lst {vs : List V} {ds : List D} : H a = some (.lst vs) → vs.length ≤ sizeLine → RepA K H Fb m vs ds → ObR K mg H Fb m a (.lst ds)
  | dK {kv : List (Key × V)} {kvs : List (D × D)} : H a = some (.dK kv) → kv.length ≤ sizeLine → kvs.map (·.1) = kv.map (fun p => keyD p.1) → RepA K H Fb m (kv.map (·.2)) (kvs.map (·.2)) → ObR K mg H Fb m a (.dic false kvs)
  | dT {kv : List (List Key × V)} {kvs : List (D × D)} : H a = some (.dT kv) → kv.length ≤ sizeLine → kvs.map (·.1) = kv.map (fun p => keyT p.1) → RepA K H Fb m (kv.map (·.2)) (kvs.map (·.2)) → ObR K mg H Fb m a (.dic true kvs)
  | ins {c : Str} {C dx : Addr} {fv : List (Str × V)} {fs : List (Str × D)} : mg c = some (.ref C) → H a = some (.ins C dx fv) → fs.map (·.1) = fv.map (·.1) → RepA K H Fb m (fv.map (·.2)) (fs.map (·.2)) → ObR K mg H Fb m a (.ins c fs)

structure Rl (K : PySem.W.Frag) (mg : Str → Option Value) (B : Addr → Prop) (m : List Addr) (H : Hp) (S : Sto) : Prop where
  len : m.length = S.length
  nod : m.Nodup
  nb : ∀ a, Liv m S a → ¬ B a
  bt : ∀ a, B a → H a ≠ none
  mt : ∀ a, a ∈ m → H a ≠ none
  obj : ∀ (n : Nat) a o, m[n]? = some a → S[n]? = some (some o) → ObR K mg H (Fo B m S) m a o

structure Post (K : PySem.W.Frag) (mg : Str → Option Value) (B : Addr → Prop) (m : List Addr) (S : Sto) (H : Hp) (m' : List Addr) (S' : Sto) (H' : Hp) : Prop where
  ext : ∃ l, m' = m ++ l ∧ ∀ a, a ∈ l → H a = none
  keep : ∀ a o, H a = some o → ¬ Liv m S a → H' a = some o
  smm : ∀ a, H a ≠ none → H' a ≠ none
  rl : Rl K mg B m' H' S'
  liv : ∀ a, Liv m' S' a → Liv m S a ∨ H a = none

section
variable {K : PySem.W.Frag} {mg : Str → Option Value} {B : Addr → Prop} {m m' m1 m2 : List Addr} {S S' S1 S2 : Sto} {H H' H1 H2 : Hp}
theorem ObR.not_fix {Fb : Addr → Prop} {a : Addr} {o : Ob} (h : ObR K mg H Fb m a o) {u : HO} (f : Fixd u) (e : H a = some u) : False := by
  cases h with
  | lst h _ _ => rw [h] at e; cases e; exact f
  | dK h _ _ _ => rw [h] at e; cases e; exact f
  | dT h _ _ _ => rw [h] at e; cases e; exact f
  | ins _ h _ _ => rw [h] at e; cases e; exact f
theorem ObR.not_tup {Fb : Addr → Prop} {a : Addr} {o : Ob} (h : ObR K mg H Fb m a o) {xs : List V} (t : Rd H a (.tup xs)) : False := by
  cases h <;> rcases t with t | ⟨u, t⟩ <;> simp_all
theorem Post.refl (r : Rl K mg B m H S) : Post K mg B m S H m S H :=
  ⟨⟨[], by simp, fun a h => by simp at h⟩, fun _ _ h _ => h, fun _ h => h, r, fun _ h => .inl h⟩
theorem Post.trans (p : Post K mg B m S H m1 S1 H1) (q : Post K mg B m1 S1 H1 m2 S2 H2) : Post K mg B m S H m2 S2 H2 := by
  refine ⟨?_, fun a o h hl => ?_, fun a h => q.smm a (p.smm a h), q.rl, fun a h => ?_⟩
  · obtain ⟨l, e, f⟩ := p.ext
    obtain ⟨l', e', f'⟩ := q.ext
    refine ⟨l ++ l', by rw [e', e, List.append_assoc], fun a h => ?_⟩
    rcases List.mem_append.mp h with h | h
    · exact f a h
    · have z := f' a h
      cases q2 : H a with
      | none => rfl
      | some o => exact absurd z (p.smm a (by rw [q2]; simp))
  · refine q.keep a o (p.keep a o h hl) fun l1 => ?_
    rcases p.liv a l1 with z | z
    · exact hl z
    · rw [h] at z; cases z
  · rcases q.liv a h with z | z
    · exact p.liv a z
    · right
      cases q2 : H a with
      | none => rfl
      | some o => exact absurd z (p.smm a (by rw [q2]; simp))
theorem rd_some {a : Addr} {u : HO} (h : Rd H a u) : ∃ o, H a = some o := by
  rcases h with h | ⟨o, h⟩
  · exact ⟨_, h⟩
  · exact ⟨_, h⟩
theorem Post.kp (r : Rl K mg B m H S) (p : Post K mg B m S H m' S' H') : Kp H H' (Fo B m S) (Fo B m' S') m m' := by
  refine ⟨fun a xs h f => p.keep _ _ h fun z => f (.inr z), fun a u h f => ?_, fun a o f h => ?_, fun a u h f => ?_, fun n a h => ?_⟩
  · have nl : ¬ Liv m S a := fun z => f (.inr z)
    rcases h with h | ⟨o, h⟩
    · exact .inl (p.keep _ _ h nl)
    · exact .inr ⟨o, p.keep _ _ h nl⟩
  · exact p.keep _ _ h fun ⟨n, o, e1, e2⟩ => (r.obj n a o e1 e2).not_fix f h
  · rintro (z | z)
    · exact f (.inl z)
    · rcases p.liv a z with y | y
      · exact f (.inr y)
      · obtain ⟨o, e⟩ := rd_some h
        rw [y] at e; cases e
  · obtain ⟨l, e, _⟩ := p.ext
    rw [e, List.getElem?_append_left (List.getElem?_eq_some_iff.mp h).1]
    exact h
/-- the heap has grown -/
theorem Rl.grow (r : Rl K mg B m H S) (s : Same H H') : Rl K mg B m H' S := by
  have kp : Kp H H' (Fo B m S) (Fo B m S) m m := ⟨fun a xs h _ => s _ _ h, fun a u h _ => h.elim (fun h => .inl (s _ _ h)) fun ⟨o, h⟩ => .inr ⟨o, s _ _ h⟩, fun a o _ h => s _ _ h, fun _ _ _ f => f, fun _ _ h => h⟩
  have sm : ∀ a, H a ≠ none → H' a ≠ none := fun a h => by
    cases e : H a with
    | none => exact absurd e h
    | some o => rw [s _ _ e]; simp
  refine ⟨r.len, r.nod, r.nb, fun a h => sm a (r.bt a h), fun a h => sm a (r.mt a h), fun n a o e1 e2 => ?_⟩
  cases r.obj n a o e1 e2 with
  | lst h z q => exact .lst (s _ _ h) z (q.kp kp)
  | dK h z e q => exact .dK (s _ _ h) z e (q.kp kp)
  | dT h z e q => exact .dT (s _ _ h) z e (q.kp kp)
  | ins g h e q => exact .ins g (s _ _ h) e (q.kp kp)
theorem Post.grow (r : Rl K mg B m H S) (s : Same H H') : Post K mg B m S H m S H' :=
  ⟨⟨[], by simp, fun a h => by simp at h⟩, fun _ _ h _ => s _ _ h, fun a h => by
    cases e : H a with
    | none => exact absurd e h
    | some o => rw [s _ _ e]; simp, r.grow s, fun _ h => .inl h⟩
theorem same_upd {a : Addr} {o : HO} (h : H a = none) : Same H (upd H a o) := fun b u e => by
  rw [upd_ne (ne_of_none e h)]; exact e
end

/-- the slots -/
def RepE (K : PySem.W.Frag) (H : Hp) (Fb : Addr → Prop) (m : List Addr) (σ : L2.St) (ρ : Ev) : Prop :=
  σ.length = ρ.length ∧ ∀ (i : Nat) d, ρ[i]? = some (some d) → ∃ v, σ[i]? = some (some v) ∧ Rep K H Fb m v d
theorem RepE.kp {K : PySem.W.Frag} {H H' : Hp} {Fb Fb' : Addr → Prop} {m m' : List Addr} {σ : L2.St} {ρ : Ev} (k : Kp H H' Fb Fb' m m') (h : RepE K H Fb m σ ρ) : RepE K H' Fb' m' σ ρ :=
  ⟨h.1, fun i d e => let ⟨v, e1, r⟩ := h.2 i d e; ⟨v, e1, r.kp k⟩⟩
theorem RepE.set {K : PySem.W.Frag} {H : Hp} {Fb : Addr → Prop} {m : List Addr} {σ : L2.St} {ρ : Ev} {i : Nat} {v : V} {d : D} (h : RepE K H Fb m σ ρ) (r : Rep K H Fb m v d) : RepE K H Fb m (σ.set i (some v)) (ρ.set i (some d)) := by
  refine ⟨by simp [h.1], fun j e q => ?_⟩
  by_cases hj : j = i
  · subst hj
    have hl : j < ρ.length := by
      have := (List.getElem?_eq_some_iff.mp q).1
      simpa using this
    rw [List.getElem?_set_self hl] at q
    cases q
    exact ⟨v, List.getElem?_set_self (by rw [h.1]; exact hl), r⟩
  · rw [List.getElem?_set_ne (Ne.symm hj)] at q
    obtain ⟨w, e1, r1⟩ := h.2 j e q
    exact ⟨w, by rw [List.getElem?_set_ne (Ne.symm hj)]; exact e1, r1⟩

/-- an exception's class, its payload -/
def XcR (K : PySem.W.Frag) (mg : Str → Option Value) (H : Hp) (Fb : Addr → Prop) (m : List Addr) (c : Str) (p : D) (cls : Value) (dd : Option Addr) : Prop :=
  ∃ C, mg c = some (.ref C) ∧ cls = .ref C ∧ ((p = .non ∧ dd = none) ∨ ∃ a f v, dd = some a ∧ H a = some (.xd [(f, v)]) ∧ Rep K H Fb m v p)

section
variable (K : PySem.W.Frag) (mg : Str → Option Value) (W : WX)
/-- what is left of a result, from (m, S, H) -/
def fin (B : Addr → Prop) (m : List Addr) (S : Sto) (σ : L2.St) (H : Hp) (r : R D) (Q : VK) : Prop := match r with
  | .ok d S' => ∀ m' H' v, Post K mg B m S H m' S' H' → Rep K H' (Fo B m' S') m' v d → Q v H'
  | .exc c p S' => ∀ m' H' cls dd, Post K mg B m S H m' S' H' → XcR K mg H' (Fo B m' S') m' c p cls dd → W cls dd σ H'
  | .bad => False
def up (f : Ex) : TE := fun σ H Q => ∃ B m ρ S, Rl K mg B m H S ∧ RepE K H (Fo B m S) m σ ρ ∧ fin K mg W B m S σ H (f ρ S) Q
end
section
variable {K : PySem.W.Frag} {mg : Str → Option Value} {W : WX} {B : Addr → Prop} {m m' m1 : List Addr} {S S' S1 : Sto} {H H' H1 : Hp} {σ : L2.St} {ρ : Ev}
/-- a later state -/
theorem fin.later (p : Post K mg B m S H m1 S1 H1) {r : R D} {Q : VK} (h : fin K mg W B m S σ H r Q) : fin K mg W B m1 S1 σ H1 r Q := by
  cases r with
  | ok d S' => exact fun m' H' v q => h m' H' v (p.trans q)
  | exc c p' S' => exact fun m' H' cls dd q => h m' H' cls dd (p.trans q)
  | bad => exact h
theorem fin.mono {r : R D} {Q Q' : VK} (h : fin K mg W B m S σ H r Q) (k : ∀ v H, Q v H → Q' v H) : fin K mg W B m S σ H r Q' := by
  cases r with
  | ok d S' => exact fun m' H' v p r => k _ _ (h m' H' v p r)
  | exc c p' S' => exact h
  | bad => exact h
/-- one step, then the rest -/
theorem fin.bind {r : R D} {g : D → Sto → R D} {Q : VK} (h : fin K mg W B m S σ H (r.bind g) Q) :
    fin K mg W B m S σ H r (fun v H1 => ∃ m1 S1 d, Post K mg B m S H m1 S1 H1 ∧ Rep K H1 (Fo B m1 S1) m1 v d ∧ fin K mg W B m1 S1 σ H1 (g d S1) Q) := by
  cases r with
  | ok d S' => exact fun m' H' v p r => ⟨m', S', d, p, r, fin.later p h⟩
  | exc c p' S' => exact h
  | bad => exact h
/-- a value at once -/
theorem fin.ok {d : D} {Q : VK} (r : Rl K mg B m H S) (h : fin K mg W B m S σ H (.ok d S) Q) {H' : Hp} {v : V} (s : Same H H') (q : Rep K H' (Fo B m S) m v d) : Q v H' := h m H' v (Post.grow r s) q
end

/-- an expression has a denotation -/
def EV (X : Cx) (W : WX) (e : Expr) (f : Ex) : Prop := PE X e (up X.K X.mg W f)
theorem pe_imp {X : Cx} {e : Expr} {t t' : TE} (h : PE X e t) (k : ∀ σ H Q, t' σ H Q → t σ H Q) : PE X e t' := ⟨fun pins s σ H Q I q => h.run pins s σ H Q I (k σ H Q q)⟩

def eVar (i : Nat) : Ex := fun ρ S => match ρ[i]? with
  | some (some d) => .ok d S
  | _ => .bad
def eC (d : D) : Ex := fun _ S => .ok d S
section
variable {X : Cx} {W : WX}
theorem ev_var {i : Nat} {x : Str} {pos : Pos} (hN : X.N[i]? = some x := by rfl) (hv : Vis X.env.scope x := by first | exact Or.inl rfl | exact Or.inr (Or.inl rfl) | exact Or.inr (Or.inr rfl)) (hd : (x == ("__debug__" : Str)) = false := by decide)
    (hcd : (x == ("__classdict__" : Str)) = false := by decide) : EV X W (.Name x pos) (eVar i) := by
  refine pe_imp (pe_var hN hv hd hcd) fun σ H Q h => ?_
  obtain ⟨B, m, ρ, S, r, re, f⟩ := h
  unfold eVar at f
  split at f
  · rename_i d e
    obtain ⟨v, e1, q⟩ := re.2 i d e
    exact ⟨v, e1, f.ok r (Same.refl H) q⟩
  · exact f.elim
theorem ev_int {i : Int} {j : Nat} {pos : Pos} : EV X W (.Constant (.int i) j pos) (eC (.int i)) := pe_imp pe_int fun σ H Q ⟨B, m, ρ, S, r, re, f⟩ => fin.ok r f (Same.refl H) (.int i)
theorem ev_bl {b : Bool} {j : Nat} {pos : Pos} : EV X W (.Constant (.bool b) j pos) (eC (.bl b)) := pe_imp pe_bl fun σ H Q ⟨B, m, ρ, S, r, re, f⟩ => fin.ok r f (Same.refl H) (.bl b)
theorem ev_non {j : Nat} {pos : Pos} : EV X W (.Constant .none j pos) (eC .non) := pe_imp pe_non fun σ H Q ⟨B, m, ρ, S, r, re, f⟩ => fin.ok r f (Same.refl H) .non
theorem ev_str {x : Str} {j : Nat} {pos : Pos} : EV X W (.Constant (.str x) j pos) (eC (.str x)) := pe_imp pe_str fun σ H Q ⟨B, m, ρ, S, r, re, f⟩ => fin.ok r f (Same.refl H) (.str x)
end
end DL

/-! ## DLb -/
set_option Elab.async false
set_option linter.all false
set_option maxRecDepth 100000
set_option maxHeartbeats 4000000
namespace DL
open PySem PySem.Spec PyProof.Rows L2

/-- what a value reads as -/
def view (S : Sto) : D → D
  | .ref n => match S[n]? with
    | some (some (.lst xs)) => .lst xs
    | some (some (.dic t kvs)) => .dic t kvs
    | _ => .ref n
  | d => d
inductive Vw (K : PySem.W.Frag) (H : Hp) (Fb : Addr → Prop) (m : List Addr) : V → D → Prop
  | lst {a : Addr} {vs : List V} {ds : List D} : H a = some (.lst vs) → vs.length ≤ sizeLine → RepA K H Fb m vs ds → Vw K H Fb m (.ref a) (.lst ds)
  | dK {a : Addr} {kv : List (Key × V)} {kvs : List (D × D)} : Rd H a (.dK kv) → kv.length ≤ sizeLine → kvs.map (·.1) = kv.map (fun p => keyD p.1) → RepA K H Fb m (kv.map (·.2)) (kvs.map (·.2)) → Vw K H Fb m (.ref a) (.dic false kvs)
  | dT {a : Addr} {kv : List (List Key × V)} {kvs : List (D × D)} : Rd H a (.dT kv) → kv.length ≤ sizeLine → kvs.map (·.1) = kv.map (fun p => keyT p.1) → RepA K H Fb m (kv.map (·.2)) (kvs.map (·.2)) → Vw K H Fb m (.ref a) (.dic true kvs)
  | oth {v : V} {d : D} : Rep K H Fb m v d → Vw K H Fb m v d
section
variable {K : PySem.W.Frag} {mg : Str → Option Value} {B : Addr → Prop} {m : List Addr} {S : Sto} {H H' : Hp} {Fb : Addr → Prop} {v : V} {d : D}
theorem vw (r : Rl K mg B m H S) (h : Rep K H (Fo B m S) m v d) : Vw K H (Fo B m S) m v (view S d) := by
  cases d with
  | ref n =>
    simp only [view]
    cases h with
    | ref e1 =>
      cases e : S[n]? with
      | none => exact .oth (.ref e1)
      | some o =>
        cases o with
        | none => exact .oth (.ref e1)
        | some o =>
          have ob := r.obj n _ _ e1 e
          cases ob with
          | lst h z q => exact .lst h z q
          | dK h z q1 q => exact .dK (.inl h) z q1 q
          | dT h z q1 q => exact .dT (.inl h) z q1 q
          | ins _ _ _ _ => exact .oth (.ref e1)
  | _ => exact .oth h
theorem Vw.asL {xs : List D} (h : Vw K H Fb m v (.lst xs)) : ∃ a vs, v = .ref a ∧ H a = some (.lst vs) ∧ vs.length ≤ sizeLine ∧ RepA K H Fb m vs xs := by
  cases h with
  | lst h z q => exact ⟨_, _, rfl, h, z, q⟩
  | oth h => cases h with
    | lst h f z q => exact ⟨_, _, rfl, h, z, q⟩
theorem Vw.asT {xs : List D} (h : Vw K H Fb m v (.tup xs)) : ∃ a vs, v = .ref a ∧ SqT K H a vs ∧ vs.length ≤ sizeLine ∧ RepA K H Fb m vs xs := by
  cases h with
  | oth h => cases h with
    | tup h z q => exact ⟨_, _, rfl, h, z, q⟩
theorem Vw.asI {i : Int} (h : Vw K H Fb m v (.int i)) : v = .int i := by
  cases h with
  | oth h => cases h; rfl
theorem Vw.asB {b : Bool} (h : Vw K H Fb m v (.bl b)) : v = .bl b := by
  cases h with
  | oth h => cases h; rfl
theorem Vw.asS {x : Str} (h : Vw K H Fb m v (.str x)) : v = .str x := by
  cases h with
  | oth h => cases h; rfl
theorem RepA.length {vs : List V} {ds : List D} (h : RepA K H Fb m vs ds) : vs.length = ds.length := by
  induction vs generalizing ds with
  | nil => cases h; rfl
  | cons v vs ih => cases h with
    | cons h t => simp [ih t]
theorem RepA.append {vs ws : List V} {ds es : List D} (h : RepA K H Fb m vs ds) (h' : RepA K H Fb m ws es) : RepA K H Fb m (vs ++ ws) (ds ++ es) := by
  induction vs generalizing ds with
  | nil => cases h; exact h'
  | cons v vs ih => cases h with
    | cons h t => exact .cons h (ih t)
theorem RepA.get {vs : List V} {ds : List D} (h : RepA K H Fb m vs ds) {i : Nat} {d : D} (e : ds[i]? = some d) : ∃ v, vs[i]? = some v ∧ Rep K H Fb m v d := by
  induction vs generalizing ds i with
  | nil => cases h; simp at e
  | cons v vs ih => cases h with
    | cons h t =>
      cases i with
      | zero => simp at e; subst e; exact ⟨v, rfl, h⟩
      | succ i => obtain ⟨w, e1, r⟩ := ih t (by simpa using e); exact ⟨w, by simpa using e1, r⟩
theorem RepA.getV {vs : List V} {ds : List D} (h : RepA K H Fb m vs ds) {i : Nat} {v : V} (e : vs[i]? = some v) : ∃ d, ds[i]? = some d ∧ Rep K H Fb m v d := by
  induction vs generalizing ds i with
  | nil => simp at e
  | cons w vs ih => cases h with
    | cons h t =>
      cases i with
      | zero => simp at e; subst e; exact ⟨_, rfl, h⟩
      | succ i => obtain ⟨w, e1, r⟩ := ih t (by simpa using e); exact ⟨w, by simpa using e1, r⟩
theorem RepA.drop {vs : List V} {ds : List D} (h : RepA K H Fb m vs ds) (n : Nat) : RepA K H Fb m (vs.drop n) (ds.drop n) := by
  induction n generalizing vs ds with
  | zero => simpa using h
  | succ n ih => cases h with
    | nil => simpa using RepA.nil
    | cons h t => simpa using ih t
theorem RepA.take {vs : List V} {ds : List D} (h : RepA K H Fb m vs ds) (n : Nat) : RepA K H Fb m (vs.take n) (ds.take n) := by
  induction n generalizing vs ds with
  | zero => simpa using RepA.nil
  | succ n ih => cases h with
    | nil => simpa using RepA.nil
    | cons h t => simpa using RepA.cons h (ih t)
theorem RepA.set {vs : List V} {ds : List D} (h : RepA K H Fb m vs ds) (n : Nat) {v : V} {d : D} (r : Rep K H Fb m v d) : RepA K H Fb m (vs.set n v) (ds.set n d) := by
  induction n generalizing vs ds with
  | zero => cases h with
    | nil => exact .nil
    | cons h t => exact .cons r t
  | succ n ih => cases h with
    | nil => exact .nil
    | cons h t => exact .cons h (ih t)
theorem RepA.reverse {vs : List V} {ds : List D} (h : RepA K H Fb m vs ds) : RepA K H Fb m vs.reverse ds.reverse := by
  induction vs generalizing ds with
  | nil => cases h; exact .nil
  | cons v vs ih => cases h with
    | cons h t => simpa using (ih t).append (.cons h .nil)
theorem RepA.eraseIdx {vs : List V} {ds : List D} (h : RepA K H Fb m vs ds) (n : Nat) : RepA K H Fb m (vs.eraseIdx n) (ds.eraseIdx n) := by
  induction n generalizing vs ds with
  | zero => cases h with
    | nil => exact .nil
    | cons h t => exact t
  | succ n ih => cases h with
    | nil => exact .nil
    | cons h t => exact .cons h (ih t)
theorem RepA.rep {vs : List V} {ds : List D} (h : RepA K H Fb m vs ds) (n : Nat) : RepA K H Fb m (List.replicate n vs).flatten (List.replicate n ds).flatten := by
  induction n with
  | zero => exact .nil
  | succ n ih => simpa [List.replicate_succ] using h.append ih
theorem kp_same (s : Same H H') : Kp H H' Fb Fb m m := ⟨fun a xs h _ => s _ _ h, fun a u h _ => h.elim (fun h => .inl (s _ _ h)) fun ⟨o, h⟩ => .inr ⟨o, s _ _ h⟩, fun a o _ h => s _ _ h, fun _ _ _ f => f, fun _ _ h => h⟩
theorem fr_of (r : Rl K mg B m H S) : ∀ p, H p = none → ¬ Fo B m S p := fun p e z => by
  rcases z with z | ⟨n, o, e1, _⟩
  · exact r.bt p z e
  · exact r.mt p (List.mem_of_getElem? e1) e
end

section
variable {K : PySem.W.Frag} {mg : Str → Option Value} {W : WX} {σ : L2.St} {H : Hp} {Q : VK}
theorem up_one {fa : Ex} {g : D → Ev → Sto → R D} (h : up K mg W (fun ρ S => (fa ρ S).bind fun x S => g x ρ S) σ H Q) :
    up K mg W fa σ H fun x H1 => ∃ B m ρ S dx, Rl K mg B m H1 S ∧ RepE K H1 (Fo B m S) m σ ρ ∧ Rep K H1 (Fo B m S) m x dx ∧ fin K mg W B m S σ H1 (g dx ρ S) Q := by
  obtain ⟨B, m, ρ, S, r, re, f⟩ := h
  refine ⟨B, m, ρ, S, r, re, fin.mono (fin.bind f) fun v H1 => ?_⟩
  rintro ⟨m1, S1, d, p, q, f1⟩
  exact ⟨B, m1, ρ, S1, d, p.rl, re.kp (p.kp r), q, f1⟩
theorem up_two {fa fb : Ex} {g : D → D → Ev → Sto → R D} (h : up K mg W (fun ρ S => (fa ρ S).bind fun x S => (fb ρ S).bind fun y S => g x y ρ S) σ H Q) :
    up K mg W fa σ H fun x H1 => up K mg W fb σ H1 fun y H2 => ∃ B m ρ S dx dy, Rl K mg B m H2 S ∧ RepE K H2 (Fo B m S) m σ ρ ∧ Rep K H2 (Fo B m S) m x dx ∧ Rep K H2 (Fo B m S) m y dy ∧ fin K mg W B m S σ H2 (g dx dy ρ S) Q := by
  obtain ⟨B, m, ρ, S, r, re, f⟩ := h
  refine ⟨B, m, ρ, S, r, re, fin.mono (fin.bind f) fun v H1 => ?_⟩
  rintro ⟨m1, S1, d, p, q, f1⟩
  refine ⟨B, m1, ρ, S1, p.rl, re.kp (p.kp r), fin.mono (fin.bind f1) fun v2 H2 => ?_⟩
  rintro ⟨m2, S2, d2, p2, q2, f2⟩
  exact ⟨B, m2, ρ, S2, d, d2, p2.rl, (re.kp (p.kp r)).kp (p2.kp p.rl), q.kp (p2.kp p.rl), q2, f2⟩
end

/-- an answer without a change -/
def ans (S : Sto) : Option D → R D
  | some d => .ok d S
  | none => .bad
def eOp2 (g : D → D → Option D) (a b : Ex) : Ex := fun ρ S => (a ρ S).bind fun x S => (b ρ S).bind fun y S => ans S (g (view S x) (view S y))
def eOp1 (g : D → Option D) (a : Ex) : Ex := fun ρ S => (a ρ S).bind fun x S => ans S (g (view S x))

/-- what is asked of a rule by values: from readable arguments -/
def rG2 (K : PySem.W.Frag) (g : D → D → Option D) : R2 := fun x y H Q => ∃ Fb m dx dy d, (∀ p, H p = none → ¬ Fb p) ∧ Vw K H Fb m x dx ∧ Vw K H Fb m y dy ∧ g dx dy = some d ∧ ∀ H' z, Same H H' → Rep K H' Fb m z d → Q z H'
def rG1 (K : PySem.W.Frag) (g : D → Option D) : V → Hp → VK → Prop := fun x H Q => ∃ Fb m dx d, (∀ p, H p = none → ¬ Fb p) ∧ Vw K H Fb m x dx ∧ g dx = some d ∧ ∀ H' z, Same H H' → Rep K H' Fb m z d → Q z H'
section
variable {X : Cx} {W : WX} {a b : Expr} {fa fb : Ex} {pos : Pos}
theorem two_of {K : PySem.W.Frag} {mg : Str → Option Value} {W : WX} {σ : L2.St} {H : Hp} {Q : VK} {g : D → D → Option D} (h : up K mg W (eOp2 g fa fb) σ H Q) : tOp (rG2 K g) (up K mg W fa) (up K mg W fb) σ H Q := by
  obtain ⟨B, m, ρ, S, r, re, f⟩ := up_two (g := fun x y ρ S => ans S (g (view S x) (view S y))) h
  refine ⟨B, m, ρ, S, r, re, f.mono fun x H1 => ?_⟩
  rintro ⟨B, m, ρ, S, r, re, f⟩
  refine ⟨B, m, ρ, S, r, re, f.mono fun y H2 => ?_⟩
  rintro ⟨B, m, ρ, S, dx, dy, r, re, rx, ry, f⟩
  cases e : g (view S dx) (view S dy) with
  | none => rw [e] at f; exact f.elim
  | some d =>
    rw [e] at f
    exact ⟨_, m, _, _, d, fr_of r, vw r rx, vw r ry, e, fun H' z s q => f.ok r s q⟩
theorem one_of {K : PySem.W.Frag} {mg : Str → Option Value} {W : WX} {σ : L2.St} {H : Hp} {Q : VK} {g : D → Option D} (h : up K mg W (eOp1 g fa) σ H Q) : up K mg W fa σ H fun x H1 => rG1 K g x H1 Q := by
  obtain ⟨B, m, ρ, S, r, re, f⟩ := up_one (g := fun x ρ S => ans S (g (view S x))) h
  refine ⟨B, m, ρ, S, r, re, f.mono fun x H1 => ?_⟩
  rintro ⟨B, m, ρ, S, dx, r, re, rx, f⟩
  cases e : g (view S dx) with
  | none => rw [e] at f; exact f.elim
  | some d =>
    rw [e] at f
    exact ⟨_, m, _, d, fr_of r, vw r rx, e, fun H' z s q => f.ok r s q⟩
theorem ev_op {op : Operator} {g : D → D → Option D} (ho : OpR X (binaryOp op) (rG2 X.K g)) (ha : EV X W a fa) (hb : EV X W b fb) : EV X W (.BinOp a op b pos) (eOp2 g fa fb) := pe_imp (pe_op ho ha hb) fun σ H Q h => two_of h
theorem ev_cmp {op : CmpOp} {g : D → D → Option D} (ho : OpR X (compareOp op) (rG2 X.K g)) (ha : EV X W a fa) (hb : EV X W b fb) (hm : behindInMarks op b = false) : EV X W (.Compare a [op] [b] pos) (eOp2 g fa fb) := pe_imp (pe_cmpR ho ha hb hm) fun σ H Q h => two_of h
theorem ev_un {op : UnaryOp} {g : D → Option D} (ho : UnR X (unaryOp op) (rG1 X.K g)) (ha : EV X W a fa) : EV X W (.UnaryOp op a pos) (eOp1 g fa) := pe_imp (pe_un ho ha) fun σ H Q h => one_of h
end

/-! ### arithmetic -/
def addD : D → D → Option D
  | .int i, .int j => some (.int (i + j))
  | .str x, .str y => if x.length + y.length ≤ sizeLine then some (.str (x ++ y)) else none
  | .tup xs, .tup ys => if xs.length + ys.length ≤ sizeLine then some (.tup (xs ++ ys)) else none
  | .lst xs, .lst ys => if xs.length + ys.length ≤ sizeLine then some (.lst (xs ++ ys)) else none
  | _, _ => none
def subD : D → D → Option D
  | .int i, .int j => some (.int (i - j))
  | _, _ => none
def mulD : D → D → Option D
  | .int i, .int j => if (-(2 ^ 64) < i ∧ i < 2 ^ 64) ∨ (-(2 ^ 64) < j ∧ j < 2 ^ 64) then some (.int (i * j)) else none
  | .tup xs, .int k => if k ≤ 1000000 ∧ -1000000 ≤ k ∧ xs.length * k.toNat ≤ sizeLine then some (.tup (List.replicate k.toNat xs).flatten) else none
  | .lst xs, .int k => if k ≤ 1000000 ∧ -1000000 ≤ k ∧ xs.length * k.toNat ≤ sizeLine then some (.lst (List.replicate k.toNat xs).flatten) else none
  | _, _ => none
def modD : D → D → Option D
  | .int i, .int j => if 0 < j then some (.int (i % j)) else none
  | _, _ => none
def divD : D → D → Option D
  | .int i, .int j => if 0 < j ∧ j < 1073741824 then some (.int (i / j)) else none
  | _, _ => none
def powD : D → D → Option D
  | .int i, .int j => if 0 ≤ j ∧ j ≤ 1000000 ∧ i.natAbs < 2 ^ 64 then some (.int (i ^ j.toNat)) else none
  | _, _ => none
section
variable {X : Cx}
/-- two ints: by the layer's own rule -/
theorem og_int {f : Value → Value → Sem Value} {g : D → D → Option D} {r : R2} (h : OpR X f r)
    (hg : ∀ dx dy d, g dx dy = some d → ∃ i j z, dx = .int i ∧ dy = .int j ∧ d = z ∧ ∀ (H : Hp) (Q : VK), (∀ v, (∀ (H : Hp) Fb m, Rep X.K H Fb m v d) → Q v H) → r (.int i) (.int j) H Q) : OpR X f (rG2 X.K g) := by
  intro pins s σ H x y v u Q I rx ry ⟨Fb, m, dx, dy, d, fr, vx, vy, e, k⟩
  obtain ⟨i, j, z, rfl, rfl, rfl, q⟩ := hg dx dy d e
  cases vx.asI
  cases vy.asI
  exact h pins s σ H _ _ v u Q I rx ry (q H Q fun v hv => k H v (Same.refl H) (hv _ _ _))
theorem og_sub : OpR X (binaryOp .Sub) (rG2 X.K subD) := og_int op_sub fun dx dy d e => by
  unfold subD at e
  split at e
  · rename_i i j
    cases e
    exact ⟨i, j, _, rfl, rfl, rfl, fun H Q k => ⟨i, j, rfl, rfl, k _ fun _ _ _ => .int _⟩⟩
  · cases e
theorem og_mod : OpR X (binaryOp .Mod) (rG2 X.K modD) := og_int op_mod fun dx dy d e => by
  unfold modD at e
  split at e
  · rename_i i j
    split at e
    · rename_i hj
      cases e
      exact ⟨i, j, _, rfl, rfl, rfl, fun H Q k => ⟨i, j, rfl, rfl, hj, k _ fun _ _ _ => .int _⟩⟩
    · cases e
  · cases e
theorem og_div : OpR X (binaryOp .FloorDiv) (rG2 X.K divD) := og_int op_fdiv fun dx dy d e => by
  unfold divD at e
  split at e
  · rename_i i j
    split at e
    · rename_i hj
      cases e
      exact ⟨i, j, _, rfl, rfl, rfl, fun H Q k => ⟨i, j, rfl, rfl, hj, k _ fun _ _ _ => .int _⟩⟩
    · cases e
  · cases e
theorem og_pow : OpR X (binaryOp .Pow) (rG2 X.K powD) := og_int op_pow fun dx dy d e => by
  unfold powD at e
  split at e
  · rename_i i j
    split at e
    · rename_i hj
      cases e
      exact ⟨i, j, _, rfl, rfl, rfl, fun H Q k => ⟨i, j, rfl, rfl, hj, k _ fun _ _ _ => .int _⟩⟩
    · cases e
  · cases e
theorem og_add : OpR X (binaryOp .Add) (rG2 X.K addD) := by
  intro pins s σ H x y v u Q I rx ry ⟨Fb, m, dx, dy, d, fr, vx, vy, e, k⟩
  unfold addD at e
  split at e
  · rename_i i j
    cases e
    cases vx.asI; cases vy.asI
    exact op_add pins s σ H _ _ v u Q I rx ry ⟨i, j, rfl, rfl, k H _ (Same.refl H) (.int _)⟩
  · rename_i i j
    split at e
    · rename_i hl
      cases e
      cases vx.asS; cases vy.asS
      exact op_add_str pins s σ H _ _ v u Q I rx ry ⟨i, j, rfl, rfl, hl, k H _ (Same.refl H) (.str _)⟩
    · cases e
  · rename_i xs ys
    split at e
    · rename_i hl
      cases e
      obtain ⟨a, vs, rfl, h1, z1, q1⟩ := vx.asT
      obtain ⟨b, ws, rfl, h2, z2, q2⟩ := vy.asT
      refine op_catA pins s σ H _ _ v u Q I rx ry ⟨a, b, vs, ws, rfl, rfl, h1, h2, by rw [q1.length, q2.length]; exact hl, ?_, ?_, ?_⟩
      · rintro rfl
        cases q1
        exact k H _ (Same.refl H) (.tup h2 z2 q2)
      · intro _ e2
        subst e2
        cases q2
        exact k H _ (Same.refl H) (by simpa using Rep.tup h1 z1 q1)
      · intro _ _ p hp
        exact k _ _ (same_upd hp) (.tup (.of upd_same) (by rw [List.length_append, q1.length, q2.length]; exact hl) ((q1.append q2).kp (kp_same (same_upd hp))))
    · cases e
  · rename_i xs ys
    split at e
    · rename_i hl
      cases e
      obtain ⟨a, vs, rfl, h1, z1, q1⟩ := vx.asL
      obtain ⟨b, ws, rfl, h2, z2, q2⟩ := vy.asL
      refine op_cat pins s σ H _ _ v u Q I rx ry ⟨a, b, vs, ws, rfl, rfl, h1, h2, by rw [q1.length, q2.length]; exact hl, fun p hp => ?_⟩
      exact k _ _ (same_upd hp) (.lst upd_same (fr p hp) (by rw [List.length_append, q1.length, q2.length]; exact hl) ((q1.append q2).kp (kp_same (same_upd hp))))
    · cases e
  · cases e
end
end DL

/-! ## DLc -/
set_option Elab.async false
set_option linter.all false
set_option maxRecDepth 100000
set_option maxHeartbeats 4000000
namespace DL
open PySem PySem.Spec PyProof.Rows L2

theorem tuple_mul_same (l : Addr) (items : Array Value) (n : Nat) (dd : Option Addr) (sl : Array (Option Value)) (x : Int) (u : Tok) (c0 : (decide (x < -(2 ^ 63)) || decide (x ≥ 2 ^ 63)) = false) (c1 : (items.isEmpty || x == 1) = true) :
    Meets (Builtin.«tuple.__mul__» ⟨[.ref l, .int x u], []⟩) (fun _ R s => s.heap.get? l = some { cls := .type "tuple", dict := dd, data := .seq items n, slots := sl } ∧
      R (.ok (.ret (Value.ref l))) s) :=
  .of_wp fun prog w A R s h => by
    obtain ⟨hp, g, d, tk, os⟩ := s
    obtain ⟨hl, h⟩ := h
    have f1 := AutoSeq1.idx_int
    wp_walk using wpAny_loadPart' hl
    repeat (first
      | (refine wpAny_ite_false (decide_eq_false (by rw [c0]; exact Bool.false_ne_true)) ?_; wp_walk using wpAny_loadPart' hl)
      | (refine wpAny_ite_true (decide_eq_true c1) ?_; wp_walk using wpAny_loadPart' hl))
    first
      | exact ⟨_, rfl, h⟩
      | exact h
theorem tuple_mul_none (l : Addr) (items : Array Value) (n : Nat) (dd : Option Addr) (sl : Array (Option Value)) (x : Int) (u : Tok) (c0 : (decide (x < -(2 ^ 63)) || decide (x ≥ 2 ^ 63)) = false) (c1 : (items.isEmpty || x == 1) = false) (c2 : (decide (x ≤ 0) || items.isEmpty) = true) :
    Meets (Builtin.«tuple.__mul__» ⟨[.ref l, .int x u], []⟩) (fun _ R s => s.heap.get? l = some { cls := .type "tuple", dict := dd, data := .seq items n, slots := sl } ∧
      R (.ok (.ret (Value.ref s.heap.objs.size))) { s with heap := s.heap.push { cls := Value.type "tuple", data := Data.seq #[] }, toks := s.toks }) :=
  .of_wp fun prog w A R s h => by
    obtain ⟨hp, g, d, tk, os⟩ := s
    obtain ⟨hl, h⟩ := h
    have f1 := AutoSeq1.idx_int
    wp_walk using wpAny_loadPart' hl
    repeat (first
      | (refine wpAny_ite_false (decide_eq_false (by rw [c0]; exact Bool.false_ne_true)) ?_; wp_walk using wpAny_loadPart' hl)
      | (refine wpAny_ite_false (decide_eq_false (by rw [c1]; exact Bool.false_ne_true)) ?_; wp_walk using wpAny_loadPart' hl)
      | (refine wpAny_ite_true (decide_eq_true c2) ?_; wp_walk using wpAny_loadPart' hl))
    first
      | exact ⟨_, rfl, h⟩
      | exact h

section
variable {X : Cx}
def rRepA (K : PySem.W.Frag) : R2 := fun x y H Q => ∃ l k xs, x = .ref l ∧ y = .int k ∧ SqT K H l xs ∧ k ≤ 1000000 ∧ -1000000 ≤ k ∧ xs.length * k.toNat ≤ sizeLine ∧
  (xs = [] ∨ k = 1 → Q (.ref l) H) ∧ (∀ p, H p = none → Q (.ref p) (upd H p (.tup (List.replicate k.toNat xs).flatten)))
theorem op_repA : OpR X (binaryOp .Mult) (rRepA X.K) := by
  intro pins s σ H x y v u Q I rx ry h
  obtain ⟨l, k, xs, rfl, rfl, hT, h1, h2, hz, q1, q⟩ := h
  cases rx
  obtain ⟨t, rfl⟩ := ry
  obtain ⟨its, r, ⟨⟨cls, dd, data, sl⟩, ho, hc, n, hd⟩, hs⟩ := I.tuple hT
  simp only at hc hd
  subst hc hd
  have hle : its.length = xs.length := r.length.symm
  have hsz0 : its.toArray.size = xs.length := by rw [List.size_toArray, hle]
  have c0 : (decide (k < -(2 ^ 63)) || decide (k ≥ 2 ^ 63)) = false := by
    rw [decide_eq_false (by omega), decide_eq_false (by omega)] <;> rfl
  by_cases c1 : (its.toArray.isEmpty || k == 1) = true
  · refine wpAny_binaryOp_repeat_ref (T := "tuple") (U := "int") (by decide) ⟨_, ho, rfl⟩ (fun s' => typeIs_int s' k t) noFill_tuple_mul F.fills_int_mul F.slot_int_rmul repeat_tuple F.slot_int_index.lookup
      (call_meets F.slot_int_rmul (typeIs_int s k t) F.entry_int_rmul (F.args_int_rmul_2 _ _) (int_rmul_tuple k t l its.toArray n dd sl)
        ⟨ho, rfl, ⟨_, ho, rfl⟩, call_meets F.slot_tuple_mul ⟨_, ho, rfl⟩ F.entry_tuple_mul (F.args_tuple_mul_2 _ _) (tuple_mul_same l its.toArray n dd sl k t c0 c1) ⟨ho, ?_⟩⟩)
    refine ⟨.ref l, H, I, rfl, q1 ?_⟩
    rcases Bool.or_eq_true_iff.mp c1 with z | z
    · left
      have : its = [] := by cases its with
        | nil => rfl
        | cons a b => simp at z
      rw [this] at hle
      exact List.eq_nil_of_length_eq_zero hle.symm
    · right
      exact beq_iff_eq.mp z
  · have c1' : (its.toArray.isEmpty || k == 1) = false := by simpa using c1
    by_cases c2 : (decide (k ≤ 0) || its.toArray.isEmpty) = true
    · refine wpAny_binaryOp_repeat_ref (T := "tuple") (U := "int") (by decide) ⟨_, ho, rfl⟩ (fun s' => typeIs_int s' k t) noFill_tuple_mul F.fills_int_mul F.slot_int_rmul repeat_tuple F.slot_int_index.lookup
        (call_meets F.slot_int_rmul (typeIs_int s k t) F.entry_int_rmul (F.args_int_rmul_2 _ _) (int_rmul_tuple k t l its.toArray n dd sl)
          ⟨ho, rfl, ⟨_, ho, rfl⟩, call_meets F.slot_tuple_mul ⟨_, ho, rfl⟩ F.entry_tuple_mul (F.args_tuple_mul_2 _ _) (tuple_mul_none l its.toArray n dd sl k t c0 c1' c2) ⟨ho, ?_⟩⟩)
      have hk : k ≤ 0 := by
        rcases Bool.or_eq_true_iff.mp c2 with z | z
        · exact of_decide_eq_true z
        · rw [z] at c1'; simp at c1'
      have e0 : k.toNat = 0 := by omega
      have q' := q s.heap.objs.size (I.hok.fresh (Nat.le_refl _))
      rw [e0] at q'
      refine ⟨.ref s.heap.objs.size, _, I.laid (t' := s.toks) (o := .tup []) (fun b ob q => Heap.get?_push_of_some _ q) (Nat.le_refl _) ?_, rfl, q'⟩
      exact ⟨by simp, _, .nil, IsTup.new _ _⟩
    · have c2' : (decide (k ≤ 0) || its.toArray.isEmpty) = false := by simpa using c2
      have hk : 0 < k := by
        have := (Bool.or_eq_false_iff.mp c2').1
        simpa using this
      have hm : ((its.toArray.size : Nat) : Int) * k ≤ sizeLine := by
        rw [hsz0]
        have e : k = ((k.toNat : Nat) : Int) := by omega
        rw [e, ← Int.natCast_mul]
        exact Int.ofNat_le.mpr hz
      rw [sizeLine_eq] at hm
      have flen : (List.replicate k.toNat its).flatten.length ≤ sizeLine := by
        rw [PyProof.Rows.lm_len_rep_flat, hle, Nat.mul_comm]
        exact hz
      have c4 : Builtin.Tuple.tupleTooMany (((its.toArray.size : Nat) : Int) * k) = false := by
        unfold Builtin.Tuple.tupleTooMany
        rw [sizeLine_eq]
        exact decide_eq_false (by omega)
      refine wpAny_binaryOp_repeat_ref (T := "tuple") (U := "int") (by decide) ⟨_, ho, rfl⟩ (fun s' => typeIs_int s' k t) noFill_tuple_mul F.fills_int_mul F.slot_int_rmul repeat_tuple F.slot_int_index.lookup
        (call_meets F.slot_int_rmul (typeIs_int s k t) F.entry_int_rmul (F.args_int_rmul_2 _ _) (int_rmul_tuple k t l its.toArray n dd sl)
          ⟨ho, rfl, ⟨_, ho, rfl⟩, call_meets F.slot_tuple_mul ⟨_, ho, rfl⟩ F.entry_tuple_mul (F.args_tuple_mul_2 _ _) (tuple_mulW l its.toArray n dd sl k t c0 c1' c2' (by omega) c4 (by rw [size_rep, List.size_toArray]; exact flen)) ⟨ho, ?_⟩⟩)
      rw [size_rep]
      refine ⟨.ref s.heap.objs.size, _, I.laid (t' := s.toks) (o := .tup (List.replicate k.toNat xs).flatten) (fun b ob q => Heap.get?_push_of_some _ q) (Nat.le_refl _) ?_, rfl, q _ (I.hok.fresh (Nat.le_refl _))⟩
      exact ⟨by rw [PyProof.Rows.lm_len_rep_flat, Nat.mul_comm]; exact hz, _, r.rep k.toNat, IsTup.new _ _⟩
theorem flat_rep_one {α : Type} (xs : List α) : (List.replicate 1 xs).flatten = xs := by simp
theorem og_mul : OpR X (binaryOp .Mult) (rG2 X.K mulD) := by
  intro pins s σ H x y v u Q I rx ry ⟨Fb, m, dx, dy, d, fr, vx, vy, e, k⟩
  unfold mulD at e
  split at e
  · rename_i i j
    split at e
    · rename_i hc
      cases e
      cases vx.asI; cases vy.asI
      exact op_mul pins s σ H _ _ v u Q I rx ry ⟨i, j, rfl, rfl, hc, k H _ (Same.refl H) (.int _)⟩
    · cases e
  · rename_i xs n
    split at e
    · rename_i hl
      cases e
      obtain ⟨a, vs, rfl, h1, z1, q1⟩ := vx.asT
      cases vy.asI
      refine op_repA pins s σ H _ _ v u Q I rx ry ⟨a, n, vs, rfl, rfl, h1, hl.1, hl.2.1, by rw [q1.length]; exact hl.2.2, ?_, fun p hp => ?_⟩
      · intro z
        refine k H _ (Same.refl H) ?_
        rcases z with z | z
        · subst z
          cases q1
          have e0 : (List.replicate n.toNat ([] : List D)).flatten = [] := by simp
          rw [e0]
          exact .tup h1 z1 .nil
        · subst z
          rw [show (1 : Int).toNat = 1 from rfl, flat_rep_one]
          exact .tup h1 z1 q1
      · exact k _ _ (same_upd hp) (.tup (.of upd_same) (by rw [PyProof.Rows.lm_len_rep_flat, Nat.mul_comm, q1.length]; exact hl.2.2) ((q1.rep _).kp (kp_same (same_upd hp))))
    · cases e
  · rename_i xs n
    split at e
    · rename_i hl
      cases e
      obtain ⟨a, vs, rfl, h1, z1, q1⟩ := vx.asL
      cases vy.asI
      refine op_rep pins s σ H _ _ v u Q I rx ry ⟨a, n, vs, rfl, rfl, h1, by omega, by omega, by rw [q1.length]; exact hl.2.2, fun p hp => ?_⟩
      exact k _ _ (same_upd hp) (.lst upd_same (fr p hp) (by rw [PyProof.Rows.lm_len_rep_flat, Nat.mul_comm, q1.length]; exact hl.2.2) ((q1.rep _).kp (kp_same (same_upd hp))))
    · cases e
  · cases e
end
end DL

/-! ## DLd -/
set_option Elab.async false
set_option linter.all false
set_option maxRecDepth 100000
set_option maxHeartbeats 4000000
namespace DL
open PySem PySem.Spec PyProof.Rows L2

/-! ### argument lists -/
def evL : List Ex → Ev → Sto → R (List D)
  | [], _, S => .ok [] S
  | f :: fs, ρ, S => (f ρ S).bind fun d S => (evL fs ρ S).bind fun ds S => .ok (d :: ds) S
section
variable (K : PySem.W.Frag) (mg : Str → Option Value) (W : WX)
def finA (B : Addr → Prop) (m : List Addr) (S : Sto) (σ : L2.St) (H : Hp) (r : R (List D)) (Q : List V → Hp → Prop) : Prop := match r with
  | .ok ds S' => ∀ m' H' vs, Post K mg B m S H m' S' H' → RepA K H' (Fo B m' S') m' vs ds → Q vs H'
  | .exc c p S' => ∀ m' H' cls dd, Post K mg B m S H m' S' H' → XcR K mg H' (Fo B m' S') m' c p cls dd → W cls dd σ H'
  | .bad => False
def upA (f : Ev → Sto → R (List D)) : TA := fun σ H Q => ∃ B m ρ S, Rl K mg B m H S ∧ RepE K H (Fo B m S) m σ ρ ∧ finA K mg W B m S σ H (f ρ S) Q
end
section
variable {K : PySem.W.Frag} {mg : Str → Option Value} {W : WX} {B : Addr → Prop} {m m' m1 : List Addr} {S S' S1 : Sto} {H H' H1 : Hp} {σ : L2.St} {ρ : Ev}
theorem finA.later (p : Post K mg B m S H m1 S1 H1) {r : R (List D)} {Q : List V → Hp → Prop} (h : finA K mg W B m S σ H r Q) : finA K mg W B m1 S1 σ H1 r Q := by
  cases r with
  | ok d S' => exact fun m' H' v q => h m' H' v (p.trans q)
  | exc c p' S' => exact fun m' H' cls dd q => h m' H' cls dd (p.trans q)
  | bad => exact h
theorem finA.mono {r : R (List D)} {Q Q' : List V → Hp → Prop} (h : finA K mg W B m S σ H r Q) (k : ∀ v H, Q v H → Q' v H) : finA K mg W B m S σ H r Q' := by
  cases r with
  | ok d S' => exact fun m' H' v p r => k _ _ (h m' H' v p r)
  | exc c p' S' => exact h
  | bad => exact h
theorem fin.bindA {r : R D} {g : D → Sto → R (List D)} {Q : List V → Hp → Prop} (h : finA K mg W B m S σ H (r.bind g) Q) :
    fin K mg W B m S σ H r (fun v H1 => ∃ m1 S1 d, Post K mg B m S H m1 S1 H1 ∧ Rep K H1 (Fo B m1 S1) m1 v d ∧ finA K mg W B m1 S1 σ H1 (g d S1) Q) := by
  cases r with
  | ok d S' => exact fun m' H' v p r => ⟨m', S', d, p, r, finA.later p h⟩
  | exc c p' S' => exact h
  | bad => exact h
theorem finA.bindA {r : R (List D)} {g : List D → Sto → R (List D)} {Q : List V → Hp → Prop} (h : finA K mg W B m S σ H (r.bind g) Q) :
    finA K mg W B m S σ H r (fun v H1 => ∃ m1 S1 d, Post K mg B m S H m1 S1 H1 ∧ RepA K H1 (Fo B m1 S1) m1 v d ∧ finA K mg W B m1 S1 σ H1 (g d S1) Q) := by
  cases r with
  | ok d S' => exact fun m' H' v p r => ⟨m', S', d, p, r, finA.later p h⟩
  | exc c p' S' => exact h
  | bad => exact h
theorem finA.bind {r : R (List D)} {g : List D → Sto → R D} {Q : VK} (h : fin K mg W B m S σ H (r.bind g) Q) :
    finA K mg W B m S σ H r (fun v H1 => ∃ m1 S1 d, Post K mg B m S H m1 S1 H1 ∧ RepA K H1 (Fo B m1 S1) m1 v d ∧ fin K mg W B m1 S1 σ H1 (g d S1) Q) := by
  cases r with
  | ok d S' => exact fun m' H' v p r => ⟨m', S', d, p, r, fin.later p h⟩
  | exc c p' S' => exact h
  | bad => exact h
theorem upA_nil {Q : List V → Hp → Prop} (h : upA K mg W (evL []) σ H Q) : tNil σ H Q := by
  obtain ⟨B, m, ρ, S, r, re, f⟩ := h
  exact f m H [] (Post.refl r) .nil
theorem upA_cons {fa : Ex} {fs : List Ex} {Q : List V → Hp → Prop} (h : upA K mg W (evL (fa :: fs)) σ H Q) : tCons (up K mg W fa) (upA K mg W (evL fs)) σ H Q := by
  obtain ⟨B, m, ρ, S, r, re, f⟩ := h
  refine ⟨B, m, ρ, S, r, re, fin.mono (fin.bindA f) fun v H1 => ?_⟩
  rintro ⟨m1, S1, d, p, q, f1⟩
  refine ⟨B, m1, ρ, S1, p.rl, re.kp (p.kp r), finA.mono (finA.bindA f1) fun vs H2 => ?_⟩
  rintro ⟨m2, S2, ds, p2, q2, f2⟩
  exact f2 m2 H2 (v :: vs) (Post.refl p2.rl) (.cons (q.kp (p2.kp p.rl)) q2)
theorem upA_one {f : Ev → Sto → R (List D)} {g : List D → Ev → Sto → R D} {Q : VK} (h : up K mg W (fun ρ S => (f ρ S).bind fun x S => g x ρ S) σ H Q) :
    upA K mg W f σ H fun xs H1 => ∃ B m ρ S ds, Rl K mg B m H1 S ∧ RepE K H1 (Fo B m S) m σ ρ ∧ RepA K H1 (Fo B m S) m xs ds ∧ fin K mg W B m S σ H1 (g ds ρ S) Q := by
  obtain ⟨B, m, ρ, S, r, re, f⟩ := h
  refine ⟨B, m, ρ, S, r, re, finA.mono (finA.bind f) fun v H1 => ?_⟩
  rintro ⟨m1, S1, d, p, q, f1⟩
  exact ⟨B, m1, ρ, S1, d, p.rl, re.kp (p.kp r), q, f1⟩
end
def EVA (X : Cx) (W : WX) (es : List Expr) (fs : List Ex) : Prop := PA X es (upA X.K X.mg W (evL fs))
theorem pa_imp {X : Cx} {es : List Expr} {t t' : TA} (h : PA X es t) (k : ∀ σ H Q, t' σ H Q → t σ H Q) : PA X es t' := ⟨fun pos pins s σ H Q I q => h.run pos pins s σ H Q I (k σ H Q q)⟩
section
variable {X : Cx} {W : WX} {e : Expr} {es : List Expr} {fa : Ex} {fs : List Ex} {pos : Pos}
theorem ea_nil : EVA X W [] [] := pa_imp pa_nil fun σ H Q h => upA_nil h
theorem ea_cons (ha : EV X W e fa) (hr : EVA X W es fs) (hs : starEach (e :: es) X.env = (false, eval e X.env) :: starEach es X.env := by rfl) : EVA X W (e :: es) (fa :: fs) := pa_imp (pa_cons ha hr hs) fun σ H Q h => upA_cons h
end

/-! ### displays -/
def eTup (fs : List Ex) : Ex := fun ρ S => (evL fs ρ S).bind fun ds S => if ds.length ≤ sizeLine then .ok (.tup ds) S else .bad
def eLst (fs : List Ex) : Ex := fun ρ S => (evL fs ρ S).bind fun ds S => if ds.length ≤ sizeLine then .ok (.lst ds) S else .bad
/-- a list that will be written: a new object -/
def eLstM (fs : List Ex) : Ex := fun ρ S => (evL fs ρ S).bind fun ds S => if ds.length ≤ sizeLine then .ok (.ref S.length) (S ++ [some (.lst ds)]) else .bad
section
variable {K : PySem.W.Frag} {mg : Str → Option Value} {B : Addr → Prop} {m : List Addr} {S : Sto} {H : Hp}
theorem liv_app {m : List Addr} {S : Sto} {p : Addr} {x : Option Ob} (hl : m.length = S.length) {a : Addr} (h : Liv (m ++ [p]) (S ++ [x]) a) : Liv m S a ∨ (a = p ∧ ∃ o, x = some o) := by
  obtain ⟨n, o, e1, e2⟩ := h
  by_cases hn : n < m.length
  · rw [List.getElem?_append_left hn] at e1
    rw [List.getElem?_append_left (by omega)] at e2
    exact .inl ⟨n, o, e1, e2⟩
  · rw [List.getElem?_append_right (by omega)] at e1
    rw [List.getElem?_append_right (by omega)] at e2
    have hz : n - m.length = 0 := by
      have := (List.getElem?_eq_some_iff.mp e1).1
      simp at this
      omega
    rw [hz] at e1
    rw [show n - S.length = 0 by omega] at e2
    simp at e1 e2
    exact .inr ⟨e1.symm, o, e2⟩
theorem liv_left {m : List Addr} {S : Sto} {p : Addr} {x : Option Ob} (hl : m.length = S.length) {a : Addr} (h : Liv m S a) : Liv (m ++ [p]) (S ++ [x]) a := by
  obtain ⟨n, o, e1, e2⟩ := h
  have h1 := (List.getElem?_eq_some_iff.mp e1).1
  exact ⟨n, o, by rw [List.getElem?_append_left h1]; exact e1, by rw [List.getElem?_append_left (by omega)]; exact e2⟩
/-- a new object of ours -/
theorem kp_new (r : Rl K mg B m H S) {p : Addr} (hp : H p = none) {ho : HO} {o : Ob} : Kp H (upd H p ho) (Fo B m S) (Fo B (m ++ [p]) (S ++ [some o])) m (m ++ [p]) := by
  have s := same_upd (o := ho) hp
  refine ⟨fun a xs h _ => s _ _ h, fun a u h _ => h.elim (fun h => .inl (s _ _ h)) fun ⟨o, h⟩ => .inr ⟨o, s _ _ h⟩, fun a o _ h => s _ _ h, fun a u h f z => ?_, fun n a h => ?_⟩
  · rcases z with z | z
    · exact f (.inl z)
    · rcases liv_app r.len z with z | ⟨z, _⟩
      · exact f (.inr z)
      · obtain ⟨o, e⟩ := rd_some h
        rw [z, hp] at e; cases e
  · rw [List.getElem?_append_left (List.getElem?_eq_some_iff.mp h).1]; exact h
theorem Post.new (r : Rl K mg B m H S) {p : Addr} (hp : H p = none) {ho : HO} {o : Ob} (no : ObR K mg (upd H p ho) (Fo B (m ++ [p]) (S ++ [some o])) (m ++ [p]) p o) : Post K mg B m S H (m ++ [p]) (S ++ [some o]) (upd H p ho) := by
  have s := same_upd (o := ho) hp
  have sm : ∀ a, H a ≠ none → upd H p ho a ≠ none := fun a h => by
    cases e : H a with
    | none => exact absurd e h
    | some o => rw [s _ _ e]; simp
  have kp := kp_new (ho := ho) (o := o) r hp
  refine ⟨⟨[p], rfl, fun a h => by simp at h; rw [h]; exact hp⟩, fun a u h _ => s _ _ h, sm, ⟨by simp [r.len], ?_, fun a h => ?_, fun a h => sm a (r.bt a h), fun a h => ?_, fun n a u e1 e2 => ?_⟩, fun a h => ?_⟩
  · refine List.nodup_append.mpr ⟨r.nod, by simp, fun a h1 b h2 e => ?_⟩
    simp at h2
    subst h2
    subst e
    exact r.mt _ h1 hp
  · intro z
    rcases liv_app r.len h with h | ⟨h, _⟩
    · exact r.nb a h z
    · exact r.bt a z (h ▸ hp)
  · rcases List.mem_append.mp h with h | h
    · exact sm a (r.mt a h)
    · simp at h
      subst h
      rw [upd_same]; simp
  · by_cases hn : n < m.length
    · rw [List.getElem?_append_left hn] at e1
      rw [List.getElem?_append_left (by rw [← r.len]; exact hn)] at e2
      cases r.obj n a u e1 e2 with
      | lst h z q => exact .lst (s _ _ h) z (q.kp kp)
      | dK h z e q => exact .dK (s _ _ h) z e (q.kp kp)
      | dT h z e q => exact .dT (s _ _ h) z e (q.kp kp)
      | ins g h e q => exact .ins g (s _ _ h) e (q.kp kp)
    · rw [List.getElem?_append_right (by omega)] at e1
      have hl := r.len
      rw [List.getElem?_append_right (by omega)] at e2
      have hz : n - m.length = 0 := by
        have := (List.getElem?_eq_some_iff.mp e1).1
        simp at this
        omega
      rw [hz] at e1
      rw [show n - S.length = 0 by omega] at e2
      simp at e1 e2
      subst e1 e2
      exact no
  · rcases liv_app r.len h with h | ⟨h, _⟩
    · exact .inl h
    · right; rw [h]; exact hp
theorem rep_new (r : Rl K mg B m H S) {p : Addr} {H' : Hp} {Fb : Addr → Prop} : Rep K H' Fb (m ++ [p]) (.ref p) (.ref S.length) := .ref (by rw [List.getElem?_append_right (by rw [r.len]; exact Nat.le_refl _), r.len]; simp)
end
section
variable {X : Cx} {W : WX} {es : List Expr} {fs : List Ex} {pos : Pos}
theorem ev_tup {k : Nat} (h : EVA X W es fs) : EV X W (.Tuple es k pos) (eTup fs) := by
  refine pe_imp (pe_tup h) fun σ H Q h => ?_
  obtain ⟨B, m, ρ, S, r, re, f⟩ := upA_one (g := fun ds ρ S => if ds.length ≤ sizeLine then .ok (.tup ds) S else .bad) h
  refine ⟨B, m, ρ, S, r, re, finA.mono f fun vs H1 => ?_⟩
  rintro ⟨B, m, ρ, S, ds, r, re, q, f⟩
  split at f
  · rename_i hl
    refine ⟨by rw [q.length]; exact hl, fun p hp => f.ok r (same_upd hp) (.tup (.of upd_same) (by rw [q.length]; exact hl) (q.kp (kp_same (same_upd hp))))⟩
  · exact f.elim
theorem ev_lst (h : EVA X W es fs) : EV X W (.List es pos) (eLst fs) := by
  refine pe_imp (pe_lst h) fun σ H Q h => ?_
  obtain ⟨B, m, ρ, S, r, re, f⟩ := upA_one (g := fun ds ρ S => if ds.length ≤ sizeLine then .ok (.lst ds) S else .bad) h
  refine ⟨B, m, ρ, S, r, re, finA.mono f fun vs H1 => ?_⟩
  rintro ⟨B, m, ρ, S, ds, r, re, q, f⟩
  split at f
  · rename_i hl
    refine ⟨by rw [q.length]; exact hl, fun p hp => f.ok r (same_upd hp) (.lst upd_same (fr_of r p hp) (by rw [q.length]; exact hl) (q.kp (kp_same (same_upd hp))))⟩
  · exact f.elim
theorem ev_lstM (h : EVA X W es fs) : EV X W (.List es pos) (eLstM fs) := by
  refine pe_imp (pe_lst h) fun σ H Q h => ?_
  obtain ⟨B, m, ρ, S, r, re, f⟩ := upA_one (g := fun ds ρ S => if ds.length ≤ sizeLine then .ok (.ref S.length) (S ++ [some (.lst ds)]) else .bad) h
  refine ⟨B, m, ρ, S, r, re, finA.mono f fun vs H1 => ?_⟩
  rintro ⟨B, m, ρ, S, ds, r, re, q, f⟩
  split at f
  · rename_i hl
    refine ⟨by rw [q.length]; exact hl, fun p hp => f (m ++ [p]) _ _ (Post.new r hp (.lst upd_same (by rw [q.length]; exact hl) (q.kp (kp_new r hp)))) (rep_new r)⟩
  · exact f.elim
end

/-! ### calls of built-ins, by values -/
inductive VwA (K : PySem.W.Frag) (H : Hp) (Fb : Addr → Prop) (m : List Addr) : List V → List D → Prop
  | nil : VwA K H Fb m [] []
  | cons {v : V} {vs : List V} {d : D} {ds : List D} : Vw K H Fb m v d → VwA K H Fb m vs ds → VwA K H Fb m (v :: vs) (d :: ds)
theorem vwA {K : PySem.W.Frag} {mg : Str → Option Value} {B : Addr → Prop} {m : List Addr} {S : Sto} {H : Hp} (r : Rl K mg B m H S) : ∀ {vs : List V} {ds : List D}, RepA K H (Fo B m S) m vs ds → VwA K H (Fo B m S) m vs (ds.map (view S))
  | _, _, .nil => .nil
  | _, _, .cons h t => .cons (vw r h) (vwA r t)
def eCall (g : List D → Option D) (fs : List Ex) : Ex := fun ρ S => (evL fs ρ S).bind fun ds S => ans S (g (ds.map (view S)))
def rGn (K : PySem.W.Frag) (g : List D → Option D) : List V → Hp → VK → Prop := fun xs H Q => ∃ Fb m ds d, (∀ p, H p = none → ¬ Fb p) ∧ VwA K H Fb m xs ds ∧ g ds = some d ∧ ∀ H' z, Same H H' → Rep K H' Fb m z d → Q z H'
theorem n_of {K : PySem.W.Frag} {mg : Str → Option Value} {W : WX} {σ : L2.St} {H : Hp} {Q : VK} {g : List D → Option D} {fs : List Ex} (h : up K mg W (eCall g fs) σ H Q) : upA K mg W (evL fs) σ H fun xs H1 => rGn K g xs H1 Q := by
  obtain ⟨B, m, ρ, S, r, re, f⟩ := upA_one (g := fun ds ρ S => ans S (g (ds.map (view S)))) h
  refine ⟨B, m, ρ, S, r, re, finA.mono f fun vs H1 => ?_⟩
  rintro ⟨B, m, ρ, S, ds, r, re, q, f⟩
  cases e : g (ds.map (view S)) with
  | none => rw [e] at f; exact f.elim
  | some d =>
    rw [e] at f
    exact ⟨_, m, _, d, fr_of r, vwA r q, e, fun H' z s q => f.ok r s q⟩
section
variable {X : Cx} {W : WX} {e : Expr} {es : List Expr} {fs : List Ex} {pos p : Pos} {x : Str}
theorem ev_callB {id : String} {g : List D → Option D} (hc : CallR X (.builtin id) (rGn X.K g)) (hg : Gl X x) (hm : X.mg x = none) (hv : bootBuiltins x = some (.builtin id)) (ha : EVA X W (e :: es) fs) (hn : x ≠ "__name__" := by decide) (hdb : (x == ("__debug__" : Str)) = false := by decide)
    (he : starEach (e :: es) X.env = (false, eval e X.env) :: starEach es X.env := by rfl) (hpl : (backTo pos (starEach es X.env)).any (·.1) = false := by rfl) : EV X W (.Call (.Name x p) (e :: es) [] pos) (eCall g fs) :=
  pe_imp (pe_callB hc hg hm hv ha hn hdb he hpl) fun σ H Q h => n_of h
theorem ev_callTy {T : String} {g : List D → Option D} (hc : CallR X (.type T) (rGn X.K g)) (hg : Gl X x) (hm : X.mg x = none) (hv : bootBuiltins x = some (.type T)) (ha : EVA X W (e :: es) fs) (hn : x ≠ "__name__" := by decide) (hdb : (x == ("__debug__" : Str)) = false := by decide)
    (he : starEach (e :: es) X.env = (false, eval e X.env) :: starEach es X.env := by rfl) (hpl : (backTo pos (starEach es X.env)).any (·.1) = false := by rfl) : EV X W (.Call (.Name x p) (e :: es) [] pos) (eCall g fs) :=
  pe_imp (pe_callTy hc hg hm hv ha hn hdb he hpl) fun σ H Q h => n_of h
end
end DL

/-! ## DLe -/
set_option Elab.async false
set_option linter.all false
set_option maxRecDepth 100000
set_option maxHeartbeats 4000000
namespace DL
open PySem PySem.Spec PyProof.Rows L2

/-! ### statements -/
inductive Fl where
  | nx (ρ : Ev) | rt (d : D) | bk (ρ : Ev) | ct (ρ : Ev)
inductive RS where
  | fl (f : Fl) (S : Sto) | exc (c : Str) (p : D) (ρ : Ev) (S : Sto) | bad
abbrev Sx := Ev → Sto → RS
/-- an expression's answer, then a statement -/
def R.bindS {α : Type} (r : R α) (ρ : Ev) (g : α → Sto → RS) : RS := match r with
  | .ok a S => g a S
  | .exc c p S => .exc c p ρ S
  | .bad => .bad
section
variable (K : PySem.W.Frag) (mg : Str → Option Value) (W : WX)
def finS (B : Addr → Prop) (m : List Addr) (S : Sto) (H : Hp) (r : RS) (E : Ends) : Prop := match r with
  | .fl (.nx ρ') S' => ∀ m' H' σ', Post K mg B m S H m' S' H' → RepE K H' (Fo B m' S') m' σ' ρ' → E.nx σ' H'
  | .fl (.bk ρ') S' => ∀ m' H' σ', Post K mg B m S H m' S' H' → RepE K H' (Fo B m' S') m' σ' ρ' → E.bk σ' H'
  | .fl (.ct ρ') S' => ∀ m' H' σ', Post K mg B m S H m' S' H' → RepE K H' (Fo B m' S') m' σ' ρ' → E.ct σ' H'
  | .fl (.rt d) S' => ∀ m' H' v, Post K mg B m S H m' S' H' → Rep K H' (Fo B m' S') m' v d → E.rt v H'
  | .exc c p ρ' S' => ∀ m' H' σ' cls dd, Post K mg B m S H m' S' H' → RepE K H' (Fo B m' S') m' σ' ρ' → XcR K mg H' (Fo B m' S') m' c p cls dd → W cls dd σ' H'
  | .bad => False
def upS (f : Sx) : TS := fun E σ H => ∃ B m ρ S, Rl K mg B m H S ∧ RepE K H (Fo B m S) m σ ρ ∧ finS K mg W B m S H (f ρ S) E
end
section
variable {K : PySem.W.Frag} {mg : Str → Option Value} {W : WX} {B : Addr → Prop} {m m' m1 : List Addr} {S S' S1 : Sto} {H H' H1 : Hp} {σ : L2.St} {ρ : Ev} {E : Ends}
theorem finS.later (p : Post K mg B m S H m1 S1 H1) {r : RS} (h : finS K mg W B m S H r E) : finS K mg W B m1 S1 H1 r E := by
  cases r with
  | fl f S' => cases f with
    | nx ρ => exact fun m' H' σ' q => h m' H' σ' (p.trans q)
    | bk ρ => exact fun m' H' σ' q => h m' H' σ' (p.trans q)
    | ct ρ => exact fun m' H' σ' q => h m' H' σ' (p.trans q)
    | rt d => exact fun m' H' v q => h m' H' v (p.trans q)
  | exc c p' ρ S' => exact fun m' H' σ' cls dd q => h m' H' σ' cls dd (p.trans q)
  | bad => exact h
theorem fin.bindS {r : R D} {g : D → Sto → RS} (re : RepE K H (Fo B m S) m σ ρ) (rl : Rl K mg B m H S) (h : finS K mg W B m S H (r.bindS ρ g) E) :
    fin K mg W B m S σ H r (fun v H1 => ∃ m1 S1 d, Post K mg B m S H m1 S1 H1 ∧ Rep K H1 (Fo B m1 S1) m1 v d ∧ finS K mg W B m1 S1 H1 (g d S1) E) := by
  cases r with
  | ok d S' => exact fun m' H' v p r => ⟨m', S', d, p, r, finS.later p h⟩
  | exc c p' S' => exact fun m' H' cls dd p x => h m' H' σ cls dd p (re.kp (p.kp rl)) x
  | bad => exact h
/-- an expression, then a statement's rest -/
theorem upS_one {fa : Ex} {g : D → Ev → Sto → RS} (h : upS K mg W (fun ρ S => (fa ρ S).bindS ρ fun x S => g x ρ S) E σ H) :
    up K mg W fa σ H fun x H1 => ∃ B m ρ S dx, Rl K mg B m H1 S ∧ RepE K H1 (Fo B m S) m σ ρ ∧ Rep K H1 (Fo B m S) m x dx ∧ finS K mg W B m S H1 (g dx ρ S) E := by
  obtain ⟨B, m, ρ, S, r, re, f⟩ := h
  refine ⟨B, m, ρ, S, r, re, fin.mono (fin.bindS re r f) fun v H1 => ?_⟩
  rintro ⟨m1, S1, d, p, q, f1⟩
  exact ⟨B, m1, ρ, S1, d, p.rl, re.kp (p.kp r), q, f1⟩
end
def SV (X : Cx) (W : WX) (st : Stmt) (f : Sx) : Prop := PS X st (upS X.K X.mg W f)
def SVs (X : Cx) (W : WX) (st : List Stmt) (f : Sx) : Prop := PSs X st (upS X.K X.mg W f)
theorem ps_imp {X : Cx} {st : Stmt} {t t' : TS} (h : PS X st t) (k : ∀ E σ H, t' E σ H → t E σ H) : PS X st t' := ⟨fun pins s σ H E I q => h.run pins s σ H E I (k E σ H q)⟩
theorem pss_imp {X : Cx} {st : List Stmt} {t t' : TS} (h : PSs X st t) (k : ∀ E σ H, t' E σ H → t E σ H) : PSs X st t' := ⟨fun pins s σ H E I q => h.run pins s σ H E I (k E σ H q)⟩

def sSkip : Sx := fun ρ S => .fl (.nx ρ) S
def sSeq (a b : Sx) : Sx := fun ρ S => match a ρ S with
  | .fl (.nx ρ') S' => b ρ' S'
  | r => r
def sRet (e : Ex) : Sx := fun ρ S => (e ρ S).bindS ρ fun d S => .fl (.rt d) S
def sRetN : Sx := fun ρ S => .fl (.rt .non) S
def sExpr (e : Ex) : Sx := fun ρ S => (e ρ S).bindS ρ fun _ S => .fl (.nx ρ) S
def sAsg (i : Nat) (e : Ex) : Sx := fun ρ S => (e ρ S).bindS ρ fun d S => .fl (.nx (ρ.set i (some d))) S
def sBrk : Sx := fun ρ S => .fl (.bk ρ) S
def sCont : Sx := fun ρ S => .fl (.ct ρ) S
section
variable {X : Cx} {W : WX} {st : Stmt} {sts : List Stmt} {a b : Sx} {e : Expr} {fe : Ex} {pos : Pos}
theorem sv_nil : SVs X W [] sSkip := pss_imp pss_nil fun E σ H ⟨B, m, ρ, S, r, re, f⟩ => f m H σ (Post.refl r) re
theorem sv_cons (h1 : SV X W st a) (h2 : SVs X W sts b) : SVs X W (st :: sts) (sSeq a b) := by
  refine pss_imp (pss_cons h1 h2) fun E σ H h => ?_
  obtain ⟨B, m, ρ, S, r, re, f⟩ := h
  refine ⟨B, m, ρ, S, r, re, ?_⟩
  unfold sSeq at f
  cases e1 : a ρ S with
  | bad => rw [e1] at f; exact f
  | exc c p ρ' S' => rw [e1] at f; exact f
  | fl fl S' =>
    rw [e1] at f
    cases fl with
    | nx ρ' => exact fun m' H' σ' p q => ⟨B, m', ρ', S', p.rl, q, finS.later p f⟩
    | rt d => exact f
    | bk ρ' => exact f
    | ct ρ' => exact f
theorem sv_one (h1 : SV X W st a) : SVs X W [st] a := pss_one h1
theorem sv_ret (h : EV X W e fe) : SV X W (.Return (some e) pos) (sRet fe) := by
  refine ps_imp (ps_ret h) fun E σ H h => ?_
  obtain ⟨B, m, ρ, S, r, re, f⟩ := upS_one (g := fun d ρ S => .fl (.rt d) S) h
  refine ⟨B, m, ρ, S, r, re, f.mono fun x H1 => ?_⟩
  rintro ⟨B, m, ρ, S, dx, r, re, rx, f⟩
  exact f m H1 x (Post.refl r) rx
theorem sv_retN : SV X W (.Return none pos) sRetN := ps_imp ps_retN fun E σ H ⟨B, m, ρ, S, r, re, f⟩ => f m H .non (Post.refl r) .non
theorem sv_expr (h : EV X W e fe) (hs : swapsWith e none pos.line X.env = pure false := by rfl) : SV X W (.Expr e pos) (sExpr fe) := by
  refine ps_imp (ps_expr h hs) fun E σ H h => ?_
  obtain ⟨B, m, ρ, S, r, re, f⟩ := upS_one (g := fun d ρ S => .fl (.nx ρ) S) h
  refine ⟨B, m, ρ, S, r, re, f.mono fun x H1 => ?_⟩
  rintro ⟨B, m, ρ, S, dx, r, re, rx, f⟩
  exact f m H1 σ (Post.refl r) re
theorem sv_asg {i : Nat} {x : Str} {pos' : Pos} (hN : X.N.Nodup) (hi : X.N[i]? = some x) (hx : Loc X.env.scope x) (h : EV X W e fe) (hs : swapsWith e (some (.Name x pos')) pos.line X.env = pure false := by rfl) (hf : X.fn x = true ∨ X.env.scope.names.lookup x = some .local := by first | exact .inl rfl | exact .inr rfl | assumption) :
    SV X W (.Assign [.Name x pos'] e pos) (sAsg i fe) := by
  refine ps_imp (ps_set hN hi hx h hs hf) fun E σ H h => ?_
  obtain ⟨B, m, ρ, S, r, re, f⟩ := upS_one (g := fun d ρ S => .fl (.nx (ρ.set i (some d))) S) h
  refine ⟨B, m, ρ, S, r, re, f.mono fun x H1 => ?_⟩
  rintro ⟨B, m, ρ, S, dx, r, re, rx, f⟩
  exact f m H1 _ (Post.refl r) (re.set rx)
theorem sv_pass : SV X W (.Pass pos) sSkip := ps_imp ps_pass fun E σ H ⟨B, m, ρ, S, r, re, f⟩ => f m H σ (Post.refl r) re
theorem sv_brk : SV X W (.Break pos) sBrk := ps_imp ps_break fun E σ H ⟨B, m, ρ, S, r, re, f⟩ => f m H σ (Post.refl r) re
theorem sv_cont : SV X W (.Continue pos) sCont := ps_imp ps_continue fun E σ H ⟨B, m, ρ, S, r, re, f⟩ => f m H σ (Post.refl r) re
end

/-! ### tests -/
/-- the truth of what was reckoned -/
def truD (S : Sto) (d : D) : Option Bool := match view S d with
  | .non => some false
  | .bl b => some b
  | .int i => some (i != 0)
  | .str x => if x.length ≤ sizeLine then some (x.length != 0) else none
  | .tup xs => some (!xs.isEmpty)
  | .lst xs => some (!xs.isEmpty)
  | _ => none
abbrev Tx := Ev → Sto → R Bool
def tVal (e : Ex) : Tx := fun ρ S => (e ρ S).bind fun d S => match d with
  | .bl b => .ok b S
  | _ => .bad
def tNotX (t : Tx) : Tx := fun ρ S => (t ρ S).bind fun b S => .ok (!b) S
def tAndX (t u : Tx) : Tx := fun ρ S => (t ρ S).bind fun b S => if b = true then u ρ S else .ok false S
def tOrX (t u : Tx) : Tx := fun ρ S => (t ρ S).bind fun b S => if b = true then .ok true S else u ρ S
section
variable (K : PySem.W.Frag) (mg : Str → Option Value) (W : WX)
def finT (B : Addr → Prop) (m : List Addr) (S : Sto) (σ : L2.St) (H : Hp) (r : R Bool) (Q : Bool → Hp → Prop) : Prop := match r with
  | .ok b S' => ∀ m' H', Post K mg B m S H m' S' H' → Q b H'
  | .exc c p S' => ∀ m' H' cls dd, Post K mg B m S H m' S' H' → XcR K mg H' (Fo B m' S') m' c p cls dd → W cls dd σ H'
  | .bad => False
def upT (f : Tx) : TT := fun σ H Q => ∃ B m ρ S, Rl K mg B m H S ∧ RepE K H (Fo B m S) m σ ρ ∧ finT K mg W B m S σ H (f ρ S) Q
end
section
variable {K : PySem.W.Frag} {mg : Str → Option Value} {W : WX} {B : Addr → Prop} {m m' m1 : List Addr} {S S' S1 : Sto} {H H' H1 : Hp} {σ : L2.St} {ρ : Ev} {E : Ends}
theorem finT.later (p : Post K mg B m S H m1 S1 H1) {r : R Bool} {Q : Bool → Hp → Prop} (h : finT K mg W B m S σ H r Q) : finT K mg W B m1 S1 σ H1 r Q := by
  cases r with
  | ok d S' => exact fun m' H' q => h m' H' (p.trans q)
  | exc c p' S' => exact fun m' H' cls dd q => h m' H' cls dd (p.trans q)
  | bad => exact h
theorem finT.mono {r : R Bool} {Q Q' : Bool → Hp → Prop} (h : finT K mg W B m S σ H r Q) (k : ∀ v H, Q v H → Q' v H) : finT K mg W B m S σ H r Q' := by
  cases r with
  | ok d S' => exact fun m' H' p => k _ _ (h m' H' p)
  | exc c p' S' => exact h
  | bad => exact h
theorem fin.bindT {r : R D} {g : D → Sto → R Bool} {Q : Bool → Hp → Prop} (h : finT K mg W B m S σ H (r.bind g) Q) :
    fin K mg W B m S σ H r (fun v H1 => ∃ m1 S1 d, Post K mg B m S H m1 S1 H1 ∧ Rep K H1 (Fo B m1 S1) m1 v d ∧ finT K mg W B m1 S1 σ H1 (g d S1) Q) := by
  cases r with
  | ok d S' => exact fun m' H' v p r => ⟨m', S', d, p, r, finT.later p h⟩
  | exc c p' S' => exact h
  | bad => exact h
theorem finT.bindT {r : R Bool} {g : Bool → Sto → R Bool} {Q : Bool → Hp → Prop} (h : finT K mg W B m S σ H (r.bind g) Q) :
    finT K mg W B m S σ H r (fun b H1 => ∃ m1 S1, Post K mg B m S H m1 S1 H1 ∧ finT K mg W B m1 S1 σ H1 (g b S1) Q) := by
  cases r with
  | ok d S' => exact fun m' H' p => ⟨m', S', p, finT.later p h⟩
  | exc c p' S' => exact h
  | bad => exact h
theorem finT.bindS {r : R Bool} {g : Bool → Sto → RS} (re : RepE K H (Fo B m S) m σ ρ) (rl : Rl K mg B m H S) (h : finS K mg W B m S H (r.bindS ρ g) E) :
    finT K mg W B m S σ H r (fun b H1 => ∃ m1 S1, Post K mg B m S H m1 S1 H1 ∧ finS K mg W B m1 S1 H1 (g b S1) E) := by
  cases r with
  | ok d S' => exact fun m' H' p => ⟨m', S', p, finS.later p h⟩
  | exc c p' S' => exact fun m' H' cls dd p x => h m' H' σ cls dd p (re.kp (p.kp rl)) x
  | bad => exact h
theorem finT.bind {r : R Bool} {g : Bool → Sto → R D} {Q : VK} (h : fin K mg W B m S σ H (r.bind g) Q) :
    finT K mg W B m S σ H r (fun b H1 => ∃ m1 S1, Post K mg B m S H m1 S1 H1 ∧ fin K mg W B m1 S1 σ H1 (g b S1) Q) := by
  cases r with
  | ok d S' => exact fun m' H' p => ⟨m', S', p, fin.later p h⟩
  | exc c p' S' => exact h
  | bad => exact h
end
def TV (X : Cx) (W : WX) (e : Expr) (f : Tx) : Prop := PT X e (upT X.K X.mg W f)
def WV (X : Cx) (W : WX) (e : Expr) (f : Tx) : Prop := PW X e (upT X.K X.mg W f)
theorem pt_imp {X : Cx} {e : Expr} {t t' : TT} (h : PT X e t) (k : ∀ σ H Q, t' σ H Q → t σ H Q) : PT X e t' := ⟨fun pins s σ H Q I q => h.run pins s σ H Q I (k σ H Q q)⟩
theorem pw_imp {X : Cx} {e : Expr} {t t' : TT} (h : PW X e t) (k : ∀ σ H Q, t' σ H Q → t σ H Q) : PW X e t' := ⟨fun wh pins s σ H Q I q => h.run wh pins s σ H Q I (k σ H Q q)⟩
section
variable {X : Cx} {W : WX} {e e2 : Expr} {es : List Expr} {f : Ex} {t u : Tx} {pos : Pos}
theorem tval_of {K : PySem.W.Frag} {mg : Str → Option Value} {σ : L2.St} {H : Hp} {Q : Bool → Hp → Prop} (h : upT K mg W (tVal f) σ H Q) : up K mg W f σ H fun x H1 => ∃ c, x = .bl c ∧ Q c H1 := by
  obtain ⟨B, m, ρ, S, r, re, g⟩ := h
  refine ⟨B, m, ρ, S, r, re, fin.mono (fin.bindT g) fun v H1 => ?_⟩
  rintro ⟨m1, S1, d, p, q, g1⟩
  cases d with
  | bl b => cases q; exact ⟨b, rfl, g1 m1 H1 (Post.refl p.rl)⟩
  | _ => exact g1.elim
/-- an expression whose value is a truth -/
theorem tv_val (h : EV X W e f) (he : ∀ whole, isTrue e X.env whole = (do let v ← whole; standAt e.pos; holding [v] (truthy v)) := by intro _; rfl) : TV X W e (tVal f) := pt_imp (pt_val h he) fun σ H Q h => tval_of h
theorem tv_cmp {op : CmpOp} {a b : Expr} {fa fb : Ex} {g : D → D → Option D} (ho : OpR X (compareOp op) (rG2 X.K g)) (ha : EV X W a fa) (hb : EV X W b fb) (hm : behindInMarks op b = false) : TV X W (.Compare a [op] [b] pos) (tVal (eOp2 g fa fb)) := by
  refine pt_imp (pt_cmpR ho ha hb hm) fun σ H Q h => ?_
  obtain ⟨B, m, ρ, S, r, re, g⟩ := tval_of h
  exact two_of ⟨B, m, ρ, S, r, re, g⟩
theorem tv_not (h : TV X W e t) : TV X W (.UnaryOp .Not e pos) (tNotX t) := by
  refine pt_imp (pt_not h) fun σ H Q h => ?_
  obtain ⟨B, m, ρ, S, r, re, g⟩ := h
  refine ⟨B, m, ρ, S, r, re, finT.mono (finT.bindT g) fun b H1 => ?_⟩
  rintro ⟨m1, S1, p, g1⟩
  exact g1 m1 H1 (Post.refl p.rl)
theorem wv_and1 (h : TV X W e t) : WV X W (.BoolOp .And [e] pos) t := pw_and1 h
theorem wv_or1 (h : TV X W e t) : WV X W (.BoolOp .Or [e] pos) t := pw_or1 h
theorem wv_and (h : TV X W e t) (h2 : WV X W (.BoolOp .And (e2 :: es) pos) u) : WV X W (.BoolOp .And (e :: e2 :: es) pos) (tAndX t u) := by
  refine pw_imp (pw_and h h2) fun σ H Q h => ?_
  obtain ⟨B, m, ρ, S, r, re, g⟩ := h
  refine ⟨B, m, ρ, S, r, re, finT.mono (finT.bindT g) fun b H1 => ?_⟩
  rintro ⟨m1, S1, p, g1⟩
  cases b with
  | true =>
    rw [if_pos rfl] at g1 ⊢
    exact ⟨B, m1, ρ, S1, p.rl, re.kp (p.kp r), g1⟩
  | false =>
    rw [if_neg Bool.false_ne_true] at g1 ⊢
    exact g1 m1 H1 (Post.refl p.rl)
theorem wv_or (h : TV X W e t) (h2 : WV X W (.BoolOp .Or (e2 :: es) pos) u) : WV X W (.BoolOp .Or (e :: e2 :: es) pos) (tOrX t u) := by
  refine pw_imp (pw_or h h2) fun σ H Q h => ?_
  obtain ⟨B, m, ρ, S, r, re, g⟩ := h
  refine ⟨B, m, ρ, S, r, re, finT.mono (finT.bindT g) fun b H1 => ?_⟩
  rintro ⟨m1, S1, p, g1⟩
  cases b with
  | false =>
    rw [if_neg Bool.false_ne_true] at g1 ⊢
    exact ⟨B, m1, ρ, S1, p.rl, re.kp (p.kp r), g1⟩
  | true =>
    rw [if_pos rfl] at g1 ⊢
    exact g1 m1 H1 (Post.refl p.rl)
theorem tv_w (h : WV X W e t) : TV X W e t := PW.pt h
end
/-- a test as a value -/
def eAndX (a b : Ex) : Ex := fun ρ S => (a ρ S).bind fun d S => match d with
  | .bl true => b ρ S
  | .bl false => .ok (.bl false) S
  | _ => .bad
def eOrX (a b : Ex) : Ex := fun ρ S => (a ρ S).bind fun d S => match d with
  | .bl true => .ok (.bl true) S
  | .bl false => b ρ S
  | _ => .bad
def eNotX (a : Ex) : Ex := fun ρ S => (a ρ S).bind fun d S => match d with
  | .bl b => .ok (.bl (!b)) S
  | _ => .bad
def eIfX (t : Tx) (a b : Ex) : Ex := fun ρ S => (t ρ S).bind fun c S => if c = true then a ρ S else b ρ S
def sIf (t : Tx) (a b : Sx) : Sx := fun ρ S => (t ρ S).bindS ρ fun c S => if c = true then a ρ S else b ρ S
section
variable {X : Cx} {W : WX} {e e2 c : Expr} {es : List Expr} {f g : Ex} {t u : Tx} {pos : Pos} {op : BoolOp}
theorem ev_one (h : EV X W e f) : EV X W (.BoolOp op [e] pos) f := pe_one h
theorem ev_and (h : EV X W e f) (h2 : EV X W (.BoolOp .And (e2 :: es) pos) g) : EV X W (.BoolOp .And (e :: e2 :: es) pos) (eAndX f g) := by
  refine pe_imp (pe_and h h2) fun σ H Q h => ?_
  obtain ⟨B, m, ρ, S, r, re, k⟩ := h
  refine ⟨B, m, ρ, S, r, re, fin.mono (fin.bind k) fun v H1 => ?_⟩
  rintro ⟨m1, S1, d, p, q, g1⟩
  cases d with
  | bl b =>
    cases q
    refine ⟨b, rfl, ?_⟩
    cases b with
    | true => rw [if_pos rfl]; exact ⟨B, m1, ρ, S1, p.rl, re.kp (p.kp r), g1⟩
    | false => rw [if_neg Bool.false_ne_true]; exact g1 m1 H1 _ (Post.refl p.rl) (.bl false)
  | _ => exact g1.elim
theorem ev_or (h : EV X W e f) (h2 : EV X W (.BoolOp .Or (e2 :: es) pos) g) : EV X W (.BoolOp .Or (e :: e2 :: es) pos) (eOrX f g) := by
  refine pe_imp (pe_or h h2) fun σ H Q h => ?_
  obtain ⟨B, m, ρ, S, r, re, k⟩ := h
  refine ⟨B, m, ρ, S, r, re, fin.mono (fin.bind k) fun v H1 => ?_⟩
  rintro ⟨m1, S1, d, p, q, g1⟩
  cases d with
  | bl b =>
    cases q
    refine ⟨b, rfl, ?_⟩
    cases b with
    | false => rw [if_neg Bool.false_ne_true]; exact ⟨B, m1, ρ, S1, p.rl, re.kp (p.kp r), g1⟩
    | true => rw [if_pos rfl]; exact g1 m1 H1 _ (Post.refl p.rl) (.bl true)
  | _ => exact g1.elim
theorem ev_not (h : EV X W e f) : EV X W (.UnaryOp .Not e pos) (eNotX f) := by
  refine pe_imp (pe_not h) fun σ H Q h => ?_
  obtain ⟨B, m, ρ, S, r, re, k⟩ := h
  refine ⟨B, m, ρ, S, r, re, fin.mono (fin.bind k) fun v H1 => ?_⟩
  rintro ⟨m1, S1, d, p, q, g1⟩
  cases d with
  | bl b => cases q; exact ⟨b, rfl, g1 m1 H1 _ (Post.refl p.rl) (.bl _)⟩
  | _ => exact g1.elim
theorem ev_ifx (hc : TV X W c t) (ha : EV X W e f) (hb : EV X W e2 g) : EV X W (.IfExp c e e2 pos) (eIfX t f g) := by
  refine pe_imp (pe_ifExp hc ha hb) fun σ H Q h => ?_
  obtain ⟨B, m, ρ, S, r, re, k⟩ := h
  refine ⟨B, m, ρ, S, r, re, finT.mono (finT.bind k) fun b H1 => ?_⟩
  rintro ⟨m1, S1, p, g1⟩
  cases b with
  | true => rw [if_pos rfl] at g1 ⊢; exact ⟨B, m1, ρ, S1, p.rl, re.kp (p.kp r), g1⟩
  | false => rw [if_neg Bool.false_ne_true] at g1 ⊢; exact ⟨B, m1, ρ, S1, p.rl, re.kp (p.kp r), g1⟩
theorem sv_if {a b : List Stmt} {sa sb : Sx} (hc : TV X W c t) (ha : SVs X W a sa) (hb : SVs X W b sb) : SV X W (.If c a b pos) (sIf t sa sb) := by
  refine ps_imp (ps_if hc ha hb) fun E σ H h => ?_
  obtain ⟨B, m, ρ, S, r, re, k⟩ := h
  refine ⟨B, m, ρ, S, r, re, finT.mono (finT.bindS re r k) fun b H1 => ?_⟩
  rintro ⟨m1, S1, p, g1⟩
  cases b with
  | true => rw [if_pos rfl] at g1 ⊢; exact ⟨B, m1, ρ, S1, p.rl, re.kp (p.kp r), g1⟩
  | false => rw [if_neg Bool.false_ne_true] at g1 ⊢; exact ⟨B, m1, ρ, S1, p.rl, re.kp (p.kp r), g1⟩
end
end DL

/-! ## DLo -/
set_option Elab.async false
set_option linter.all false
set_option maxRecDepth 100000
set_option maxHeartbeats 4000000
namespace DL
open PySem PySem.Spec PyProof.Rows L2
/-! ### tables -/
def unK : D → Option Key
  | .int i => some (.inl i)
  | .str x => some (.inr x)
  | _ => none
theorem unK_keyD (k : Key) : unK (keyD k) = some k := by cases k <;> rfl
def valD (kvs : List (D × D)) (k : Key) : Option D := (kvs.find? fun p => decide (unK p.1 = some k)).map (·.2)
def putD (kvs : List (D × D)) (k : Key) (d : D) : List (D × D) :=
  if (kvs.any fun p => decide (unK p.1 = some k)) = true then kvs.map (fun p => if unK p.1 = some k then (p.1, d) else p) else kvs ++ [(keyD k, d)]
def dropD (kvs : List (D × D)) (k : Key) : List (D × D) := kvs.filter fun p => decide (unK p.1 ≠ some k)
inductive KR (K : PySem.W.Frag) (H : Hp) (Fb : Addr → Prop) (m : List Addr) : List (Key × V) → List (D × D) → Prop
  | nil : KR K H Fb m [] []
  | cons {k : Key} {v : V} {d : D} {kv : List (Key × V)} {kvs : List (D × D)} : Rep K H Fb m v d → KR K H Fb m kv kvs → KR K H Fb m ((k, v) :: kv) ((keyD k, d) :: kvs)
section
variable {K : PySem.W.Frag} {H H' : Hp} {Fb Fb' : Addr → Prop} {m m' : List Addr}
theorem kr_of : ∀ {kv : List (Key × V)} {kvs : List (D × D)}, kvs.map (·.1) = kv.map (fun p => keyD p.1) → RepA K H Fb m (kv.map (·.2)) (kvs.map (·.2)) → KR K H Fb m kv kvs
  | [], [], _, _ => .nil
  | [], _ :: _, e, _ => by simp at e
  | _ :: _, [], e, _ => by simp at e
  | (k, v) :: kv, (x, d) :: kvs, e, q => by
    simp only [List.map_cons, List.cons.injEq] at e
    obtain ⟨rfl, e⟩ := e
    cases q with
    | cons q1 q2 => exact .cons q1 (kr_of e q2)
theorem KR.keys {kv : List (Key × V)} {kvs : List (D × D)} (h : KR K H Fb m kv kvs) : kvs.map (·.1) = kv.map (fun p => keyD p.1) := by
  induction h with
  | nil => rfl
  | cons _ _ ih => simp [ih]
theorem KR.vals {kv : List (Key × V)} {kvs : List (D × D)} (h : KR K H Fb m kv kvs) : RepA K H Fb m (kv.map (·.2)) (kvs.map (·.2)) := by
  induction h with
  | nil => exact .nil
  | cons r _ ih => exact .cons r ih
theorem KR.length {kv : List (Key × V)} {kvs : List (D × D)} (h : KR K H Fb m kv kvs) : kv.length = kvs.length := by
  induction h with
  | nil => rfl
  | cons _ _ ih => simp [ih]
theorem KR.kp (k : Kp H H' Fb Fb' m m') {kv : List (Key × V)} {kvs : List (D × D)} (h : KR K H Fb m kv kvs) : KR K H' Fb' m' kv kvs := by
  induction h with
  | nil => exact .nil
  | cons r _ ih => exact .cons (r.kp k) ih
theorem KR.val {kv : List (Key × V)} {kvs : List (D × D)} (h : KR K H Fb m kv kvs) (k : Key) : (∃ v d, valV kv k = some v ∧ valD kvs k = some d ∧ Rep K H Fb m v d) ∨ (valV kv k = none ∧ valD kvs k = none) := by
  induction h with
  | nil => exact .inr ⟨rfl, rfl⟩
  | @cons j v d kv kvs r h ih =>
    by_cases e : j = k
    · refine .inl ⟨v, d, valV_pos e, ?_, r⟩
      simp [valD, List.find?_cons, unK_keyD, e]
    · have e1 : valD ((keyD j, d) :: kvs) k = valD kvs k := by simp [valD, List.find?_cons, unK_keyD, e]
      rw [valV_neg (p := (j, v)) e, e1]
      exact ih
theorem KR.some {kv : List (Key × V)} {kvs : List (D × D)} (h : KR K H Fb m kv kvs) {k : Key} {d : D} (e : valD kvs k = some d) : ∃ v, valV kv k = some v ∧ Rep K H Fb m v d := by
  rcases h.val k with ⟨v, d', e1, e2, r⟩ | ⟨_, e2⟩
  · rw [e] at e2; cases e2; exact ⟨v, e1, r⟩
  · rw [e] at e2; cases e2
theorem KR.none {kv : List (Key × V)} {kvs : List (D × D)} (h : KR K H Fb m kv kvs) {k : Key} (e : valD kvs k = none) : valV kv k = none := by
  rcases h.val k with ⟨v, d', e1, e2, r⟩ | ⟨e1, _⟩
  · rw [e] at e2; cases e2
  · exact e1
theorem KR.isSome {kv : List (Key × V)} {kvs : List (D × D)} (h : KR K H Fb m kv kvs) (k : Key) : (valV kv k).isSome = (valD kvs k).isSome := by
  rcases h.val k with ⟨v, d', e1, e2, r⟩ | ⟨e1, e2⟩ <;> rw [e1, e2] <;> rfl
theorem KR.any {kv : List (Key × V)} {kvs : List (D × D)} (h : KR K H Fb m kv kvs) (k : Key) : (kv.any fun p => decide (p.1 = k)) = (kvs.any fun p => decide (unK p.1 = .some k)) := by
  induction h with
  | nil => rfl
  | cons r h ih => simp [List.any_cons, unK_keyD, ih]
theorem KR.repl {kv : List (Key × V)} {kvs : List (D × D)} (h : KR K H Fb m kv kvs) (k : Key) {v : V} {d : D} (r : Rep K H Fb m v d) : KR K H Fb m (kv.map fun p => if p.1 = k then (p.1, v) else p) (kvs.map fun p => if unK p.1 = .some k then (p.1, d) else p) := by
  induction h with
  | nil => exact .nil
  | @cons j w e kv kvs rw h ih =>
    simp only [List.map_cons, unK_keyD, Option.some.injEq]
    by_cases ej : j = k
    · rw [if_pos ej, if_pos ej]; exact .cons r ih
    · rw [if_neg ej, if_neg ej]; exact .cons rw ih
theorem KR.snoc {kv : List (Key × V)} {kvs : List (D × D)} (h : KR K H Fb m kv kvs) (k : Key) {v : V} {d : D} (r : Rep K H Fb m v d) : KR K H Fb m (kv ++ [(k, v)]) (kvs ++ [(keyD k, d)]) := by
  induction h with
  | nil => exact .cons r .nil
  | cons rw h ih => exact .cons rw ih
theorem KR.put {kv : List (Key × V)} {kvs : List (D × D)} (h : KR K H Fb m kv kvs) (k : Key) {v : V} {d : D} (r : Rep K H Fb m v d) : KR K H Fb m (putK kv k v) (putD kvs k d) := by
  unfold putK putD
  rw [h.any k]
  split
  · exact h.repl k r
  · exact h.snoc k r
theorem KR.drop {kv : List (Key × V)} {kvs : List (D × D)} (h : KR K H Fb m kv kvs) (k : Key) : KR K H Fb m (dropK kv k) (dropD kvs k) := by
  unfold dropK dropD
  induction h with
  | nil => exact .nil
  | @cons j w e kv kvs rw h ih =>
    by_cases ej : j = k
    · simpa [List.filter_cons, unK_keyD, ej] using ih
    · simp only [List.filter_cons, unK_keyD, ej, Option.some.injEq, ne_eq, not_false_eq_true, decide_true, if_true]
      exact .cons rw ih
theorem putD_len (kvs : List (D × D)) (k : Key) (d : D) : (putD kvs k d).length ≤ kvs.length + 1 := by
  unfold putD
  split <;> simp
theorem Vw.asD {v : V} {kvs : List (D × D)} (h : Vw K H Fb m v (.dic false kvs)) : ∃ a kv, v = .ref a ∧ Rd H a (.dK kv) ∧ kv.length ≤ sizeLine ∧ KR K H Fb m kv kvs := by
  cases h with
  | dK h z e q => exact ⟨_, _, rfl, h, z, kr_of e q⟩
  | oth h => cases h with
    | dK h z e q => exact ⟨_, _, rfl, .inr h, z, kr_of e q⟩
theorem Vw.key {v : V} {d : D} {k : Key} (h : Vw K H Fb m v d) (e : unK d = .some k) : v = kV k := by
  cases d with
  | int i => cases e; cases h.asI; rfl
  | str x => cases e; cases h.asS; rfl
  | _ => simp [unK] at e
theorem Rep.key {v : V} {d : D} {k : Key} (h : Rep K H Fb m v d) (e : unK d = .some k) : v = kV k := Vw.key (.oth h) e
end
/-- what a dict tells of a key -/
def dgetD (x y : D) : Option D := match x with
  | .dic false kvs => (unK y).bind (valD kvs)
  | _ => none
def dhasD (x y : D) : Option Bool := match x with
  | .dic false kvs => (unK y).map fun k => (valD kvs k).isSome
  | _ => none
section
variable {K : PySem.W.Frag} {H : Hp} {Fb : Addr → Prop} {m : List Addr} {x y : V} {dx dy d : D}
theorem dget_ok (vx : Vw K H Fb m x dx) (vy : Vw K H Fb m y dy) (e : dgetD dx dy = some d) : ∃ a w, x = .ref a ∧ DGet H a y (some w) ∧ Rep K H Fb m w d := by
  unfold dgetD at e
  split at e
  · obtain ⟨k, e1, e2⟩ := Option.bind_eq_some_iff.mp e
    obtain ⟨a, kv, rfl, h1, z1, q1⟩ := vx.asD
    obtain ⟨w, e3, r⟩ := q1.some e2
    exact ⟨a, w, rfl, .inl ⟨kv, k, h1, vy.key e1, e3.symm⟩, r⟩
  · cases e
theorem dhas_ok {b : Bool} (vx : Vw K H Fb m x dx) (vy : Vw K H Fb m y dy) (e : dhasD dx dy = some b) : ∃ a o, x = .ref a ∧ DGet H a y o ∧ o.isSome = b := by
  unfold dhasD at e
  split at e
  · obtain ⟨k, e1, rfl⟩ := Option.map_eq_some_iff.mp e
    obtain ⟨a, kv, rfl, h1, z1, q1⟩ := vx.asD
    exact ⟨a, _, rfl, .inl ⟨kv, k, h1, vy.key e1, rfl⟩, q1.isSome k⟩
  · cases e
end
section
variable {X : Cx}
/-- d[y] by values -/
theorem ix_dict (hu : X.A.units + 1 < cLine) : IxR X (fun x y H Q => ∃ a v, x = .ref a ∧ DGet H a y (some v) ∧ Q v H) := by
  intro value slice pins s σ H x y o i Q I rx ry ⟨a, v, ex, g, q⟩ hs
  subst ex
  obtain rfl : o = Value.ref a := rx
  have hT := dict_typeIs I g
  unfold subscriptTail
  refine wpAny_bind ?_
  rw [getitemInPython_of_ne hT.not_modules]
  refine wpAny_bind (wpAny_specialOf hT PySem.F.slot_dict_getitem.lookup ?_)
  have fin : wpAny (model X.prog X.w) X.A (subscripted slice false (.ref a) i) (fun r s₃ => wpAny (model X.prog X.w) X.A (letTemporaryGo value (.ref a) r >>= fun _ => pure r) (EP X pins σ Q) X.xe s₃) X.xe s := by
    rw [hs]
    refine wpAny_operating (d_getItem hu I g ry fun w' s3 I3 rw' => wpAny_bind (wpAny_letTemporaryGo (wpAny_pure ⟨v, H, I3, rw', q⟩)))
  first
    | exact wpAny_pure (wpAny_bind fin)
    | exact wpAny_bind (wpAny_pure (wpAny_bind fin))
    | exact wpAny_bind fin
end
end DL

/-! ## DLf -/
set_option Elab.async false
set_option linter.all false
set_option maxRecDepth 100000
set_option maxHeartbeats 4000000
namespace DL
open PySem PySem.Spec PyProof.Rows L2

/-! ### targets: names, tuples of targets -/
inductive Tg where
  | nm (i : Nat) | tp (ts : List Tg)
mutual
def Tg.put : Tg → D → Ev → Option Ev
  | .nm i, d, ρ => some (ρ.set i (some d))
  | .tp ts, .tup ds, ρ => Tg.puts ts ds ρ
  | .tp _, _, _ => none
def Tg.puts : List Tg → List D → Ev → Option Ev
  | [], [], ρ => some ρ
  | t :: ts, d :: ds, ρ => match t.put d ρ with
    | some ρ' => Tg.puts ts ds ρ'
    | none => none
  | _, _, _ => none
end
mutual
def Tg.rd (K : PySem.W.Frag) : Tg → TG
  | .nm i => gName i
  | .tp ts => gTup K ts.length (Tg.rds K ts)
def Tg.rds (K : PySem.W.Frag) : List Tg → TGs
  | [] => gNil
  | t :: ts => gCons (Tg.rd K t) (Tg.rds K ts)
end
section
variable {K : PySem.W.Frag} {H : Hp} {Fb : Addr → Prop} {m : List Addr}
mutual
theorem Tg.rd_ok : ∀ (t : Tg) {v : V} {d : D} {σ : L2.St} {ρ ρ' : Ev} {Q : L2.St → Hp → Prop}, t.put d ρ = some ρ' → Rep K H Fb m v d → RepE K H Fb m σ ρ → (∀ σ', RepE K H Fb m σ' ρ' → Q σ' H) → Tg.rd K t v σ H Q
  | .nm i, v, d, σ, ρ, ρ', Q, e, r, re, q => by
    simp only [Tg.put, Option.some.injEq] at e
    subst e
    exact q _ (re.set r)
  | .tp ts, v, d, σ, ρ, ρ', Q, e, r, re, q => by
    cases d with
    | tup ds =>
      cases r with
      | tup h z rr =>
        have e' : Tg.puts ts ds ρ = some ρ' := by simpa [Tg.put] using e
        exact ⟨_, _, rfl, h, by rw [rr.length]; exact (Tg.puts_len ts e').symm, Tg.rds_ok ts e' rr re q⟩
    | _ => simp [Tg.put] at e
theorem Tg.puts_len : ∀ (ts : List Tg) {ds : List D} {ρ ρ' : Ev}, Tg.puts ts ds ρ = some ρ' → ts.length = ds.length
  | [], [], _, _, _ => rfl
  | [], _ :: _, _, _, e => by simp [Tg.puts] at e
  | _ :: _, [], _, _, e => by simp [Tg.puts] at e
  | t :: ts, d :: ds, ρ, ρ', e => by
    simp only [Tg.puts] at e
    split at e
    · rename_i ρ1 e1
      simp [Tg.puts_len ts e]
    · cases e
theorem Tg.rds_ok : ∀ (ts : List Tg) {vs : List V} {ds : List D} {σ : L2.St} {ρ ρ' : Ev} {Q : L2.St → Hp → Prop}, Tg.puts ts ds ρ = some ρ' → RepA K H Fb m vs ds → RepE K H Fb m σ ρ → (∀ σ', RepE K H Fb m σ' ρ' → Q σ' H) → Tg.rds K ts vs σ H Q
  | [], vs, ds, σ, ρ, ρ', Q, e, r, re, q => by
    cases ds with
    | nil =>
      cases r
      simp only [Tg.puts, Option.some.injEq] at e
      subst e
      exact ⟨rfl, q σ re⟩
    | cons _ _ => simp [Tg.puts] at e
  | t :: ts, vs, ds, σ, ρ, ρ', Q, e, r, re, q => by
    cases ds with
    | nil => simp [Tg.puts] at e
    | cons d ds =>
      cases r with
      | cons r rr =>
        simp only [Tg.puts] at e
        split at e
        · rename_i ρ1 e1
          exact ⟨_, _, rfl, Tg.rd_ok t e1 r re fun σ' re' => Tg.rds_ok ts e rr re' q⟩
        · cases e
end
end
/-- the target of the text is this one -/
def GV (X : Cx) (e : Expr) (t : Tg) : Prop := PG X e (Tg.rd X.K t)
def GVs (X : Cx) (es : List Expr) (ts : List Tg) : Prop := PGs X es (Tg.rds X.K ts)
section
variable {X : Cx} {pos : Pos} {e : Expr} {es : List Expr} {t : Tg} {ts : List Tg}
theorem gv_nm {i : Nat} {x : Str} (hN : X.N.Nodup) (hi : X.N[i]? = some x) (hx : Loc X.env.scope x) (hf : X.fn x = true ∨ X.env.scope.names.lookup x = some .local := by first | exact .inl rfl | exact .inr rfl | assumption) : GV X (.Name x pos) (.nm i) := pg_name hN hi hx hf
theorem gv_nil : GVs X [] [] := pgs_nil
theorem gv_cons (h : GV X e t) (hr : GVs X es ts) (hs : (assignEach (e :: es) X.env).map (·.2) = assign e X.env :: (assignEach es X.env).map (·.2) := by rfl) : GVs X (e :: es) (t :: ts) := pgs_cons h hr hs
theorem gv_tp {k : Nat} (hc : X.calm = true) (h : GVs X es ts) (hn : (assignEach es X.env).length = ts.length := by rfl) (hst : (assignEach es X.env).findIdx? (·.1) = none := by rfl) : GV X (.Tuple es k pos) (.tp ts) := pg_tup hc h hn hst
end

/-! ### a, b = e -/
def sAsgT (t : Tg) (e : Ex) : Sx := fun ρ S => (e ρ S).bindS ρ fun d S => match t.put d ρ with
  | some ρ' => .fl (.nx ρ') S
  | none => .bad
section
variable {X : Cx} {W : WX} {tg e : Expr} {fe : Ex} {t : Tg} {pos : Pos}
theorem sv_asgT (h : EV X W e fe) (hg : GV X tg t) (hs : swapsWithSole [tg] e pos.line X.env = pure false := by rfl) (hw : swappedStores [tg] e X.env = pure none := by rfl)
    (h1 : (assignEach [tg] X.env).map (·.2) = [assign tg X.env] := by rfl) : SV X W (.Assign [tg] e pos) (sAsgT t fe) := by
  refine ps_imp (ps_asg h hg hs hw h1) fun E σ H h => ?_
  obtain ⟨B, m, ρ, S, r, re, f⟩ := upS_one (g := fun d ρ S => match t.put d ρ with | some ρ' => .fl (.nx ρ') S | none => .bad) h
  refine ⟨B, m, ρ, S, r, re, f.mono fun x H1 => ?_⟩
  rintro ⟨B, m, ρ, S, dx, r, re, rx, f⟩
  split at f
  · rename_i ρ' e1
    exact Tg.rd_ok t e1 rx re fun σ' re' => f m H1 σ' (Post.refl r) re'
  · exact f.elim
end

/-! ### what is walked -/
theorem Kp.trans {H H1 H2 : Hp} {F F1 F2 : Addr → Prop} {m m1 m2 : List Addr} (p : Kp H H1 F F1 m m1) (q : Kp H1 H2 F1 F2 m1 m2) : Kp H H2 F F2 m m2 :=
  ⟨fun a xs h f => q.lst a xs (p.lst a xs h f) (p.fb a _ (.inl h) f), fun a u h f => q.obj a u (p.obj a u h f) (p.fb a u h f), fun a o f h => q.fix a o f (p.fix a o f h), fun a u h f => q.fb a u (p.obj a u h f) (p.fb a u h f), fun n a h => q.ix n a (p.ix n a h)⟩
def ItR (K : PySem.W.Frag) (H : Hp) (Fb : Addr → Prop) (m : List Addr) (J : It) (xs : List D) : Prop :=
  ∀ H2 Fb2 m2, Kp H H2 Fb Fb2 m m2 → (∀ i, i < xs.length → J.go i H2 ∧ ∀ x H3, J.yld i H2 x H3 → ∃ d, xs[i]? = some d ∧ Same H2 H3 ∧ Rep K H3 Fb2 m2 x d) ∧ (∀ i, xs.length ≤ i → J.stop i H2)
abbrev Ix := Ev → Sto → R (List D)
section
variable (K : PySem.W.Frag) (mg : Str → Option Value) (W : WX)
def finI (B : Addr → Prop) (m : List Addr) (S : Sto) (σ : L2.St) (H : Hp) (r : R (List D)) (Q : It → Hp → Prop) : Prop := match r with
  | .ok xs S' => ∀ m' H' J, Post K mg B m S H m' S' H' → ItR K H' (Fo B m' S') m' J xs → Q J H'
  | .exc c p S' => ∀ m' H' cls dd, Post K mg B m S H m' S' H' → XcR K mg H' (Fo B m' S') m' c p cls dd → W cls dd σ H'
  | .bad => False
def upI (f : Ix) : TI := fun σ H Q => ∃ B m ρ S, Rl K mg B m H S ∧ RepE K H (Fo B m S) m σ ρ ∧ finI K mg W B m S σ H (f ρ S) Q
end
def IV (X : Cx) (W : WX) (tg iter : Expr) (f : Ix) : Prop := PI X tg iter (upI X.K X.mg W f)
theorem pi_imp {X : Cx} {tg e : Expr} {t t' : TI} (h : PI X tg e t) (k : ∀ σ H Q, t' σ H Q → t σ H Q) : PI X tg e t' := ⟨fun pins s σ H Q I q => h.run pins s σ H Q I (k σ H Q q)⟩
section
variable {K : PySem.W.Frag} {mg : Str → Option Value} {W : WX} {B : Addr → Prop} {m m' m1 : List Addr} {S S' S1 : Sto} {H H' H1 : Hp} {σ : L2.St} {ρ : Ev} {E : Ends}
theorem finI.later (p : Post K mg B m S H m1 S1 H1) {r : R (List D)} {Q : It → Hp → Prop} (h : finI K mg W B m S σ H r Q) : finI K mg W B m1 S1 σ H1 r Q := by
  cases r with
  | ok d S' => exact fun m' H' v q => h m' H' v (p.trans q)
  | exc c p' S' => exact fun m' H' cls dd q => h m' H' cls dd (p.trans q)
  | bad => exact h
theorem finI.mono {r : R (List D)} {Q Q' : It → Hp → Prop} (h : finI K mg W B m S σ H r Q) (k : ∀ v H, Q v H → Q' v H) : finI K mg W B m S σ H r Q' := by
  cases r with
  | ok d S' => exact fun m' H' v p r => k _ _ (h m' H' v p r)
  | exc c p' S' => exact h
  | bad => exact h
theorem fin.bindI {r : R D} {g : D → Sto → R (List D)} {Q : It → Hp → Prop} (h : finI K mg W B m S σ H (r.bind g) Q) :
    fin K mg W B m S σ H r (fun v H1 => ∃ m1 S1 d, Post K mg B m S H m1 S1 H1 ∧ Rep K H1 (Fo B m1 S1) m1 v d ∧ finI K mg W B m1 S1 σ H1 (g d S1) Q) := by
  cases r with
  | ok d S' => exact fun m' H' v p r => ⟨m', S', d, p, r, finI.later p h⟩
  | exc c p' S' => exact h
  | bad => exact h
theorem finA.bindI {r : R (List D)} {g : List D → Sto → R (List D)} {Q : It → Hp → Prop} (h : finI K mg W B m S σ H (r.bind g) Q) :
    finA K mg W B m S σ H r (fun v H1 => ∃ m1 S1 d, Post K mg B m S H m1 S1 H1 ∧ RepA K H1 (Fo B m1 S1) m1 v d ∧ finI K mg W B m1 S1 σ H1 (g d S1) Q) := by
  cases r with
  | ok d S' => exact fun m' H' v p r => ⟨m', S', d, p, r, finI.later p h⟩
  | exc c p' S' => exact h
  | bad => exact h
theorem finI.bindS {r : R (List D)} {g : List D → Sto → RS} (re : RepE K H (Fo B m S) m σ ρ) (rl : Rl K mg B m H S) (h : finS K mg W B m S H (r.bindS ρ g) E) :
    finI K mg W B m S σ H r (fun J H1 => ∃ m1 S1 xs, Post K mg B m S H m1 S1 H1 ∧ ItR K H1 (Fo B m1 S1) m1 J xs ∧ finS K mg W B m1 S1 H1 (g xs S1) E) := by
  cases r with
  | ok d S' => exact fun m' H' J p q => ⟨m', S', d, p, q, finS.later p h⟩
  | exc c p' S' => exact fun m' H' cls dd p x => h m' H' σ cls dd p (re.kp (p.kp rl)) x
  | bad => exact h
end
/-- a tuple, or a list that nobody writes meanwhile -/
def iSeq (e : Ex) : Ix := fun ρ S => (e ρ S).bind fun d S => match d with
  | .tup xs => .ok xs S
  | .lst xs => .ok xs S
  | .dic false kvs => .ok (kvs.map (·.1)) S
  | _ => .bad
def iTupO (e : Ex) : Ix := fun ρ S => (e ρ S).bind fun d S => match d with
  | .tup xs => .ok xs S
  | _ => .bad
def iLstO (e : Ex) : Ix := fun ρ S => (e ρ S).bind fun d S => match d with
  | .lst xs => .ok xs S
  | _ => .bad
def iRng (a b : Int) : List D := (List.range (b - a).toNat).map fun k => .int (a + (k : Nat))
def iRng1X (e : Ex) : Ix := fun ρ S => (e ρ S).bind fun d S => match d with
  | .int j => if -(2 ^ 62) ≤ j ∧ j < 2 ^ 62 then .ok (iRng 0 j) S else .bad
  | _ => .bad
def iRng2X (e e2 : Ex) : Ix := fun ρ S => (e ρ S).bind fun d S => (e2 ρ S).bind fun d2 S => match d, d2 with
  | .int i, .int j => if -(2 ^ 62) ≤ i ∧ i < 2 ^ 62 ∧ -(2 ^ 62) ≤ j ∧ j < 2 ^ 62 then .ok (iRng i j) S else .bad
  | _, _ => .bad
section
variable {X : Cx} {W : WX} {tg e e2 : Expr} {fe fe2 : Ex} {pos p : Pos}
theorem itr_list {K : PySem.W.Frag} {mg : Str → Option Value} {B : Addr → Prop} {m : List Addr} {S : Sto} {H : Hp} {a : Addr} {vs : List V} {xs : List D} (r : Rl K mg B m H S) (h : H a = some (.lst vs)) (nf : ¬ Fo B m S a) (q : RepA K H (Fo B m S) m vs xs) : ItR K H (Fo B m S) m (Itl K a) xs := by
  intro H2 F2 m2 p
  have h2 : SqL K H2 a vs := SqL.of (p.lst _ _ h nf)
  have q2 := q.kp p
  refine ⟨fun i hi => ?_, fun i hi => ⟨vs, h2, by rw [q.length]; exact hi⟩⟩
  obtain ⟨v, ev, rv⟩ := q2.get (d := xs[i]) (List.getElem?_eq_getElem hi)
  refine ⟨⟨vs, v, h2, ev⟩, fun x H3 y => ?_⟩
  obtain ⟨e, y⟩ := y
  subst e
  have := y vs h2
  rw [ev] at this; cases this
  exact ⟨_, List.getElem?_eq_getElem hi, Same.refl _, rv⟩
theorem itr_tup {K : PySem.W.Frag} {mg : Str → Option Value} {B : Addr → Prop} {m : List Addr} {S : Sto} {H : Hp} {a : Addr} {vs : List V} {xs : List D} (r : Rl K mg B m H S) (h : SqT K H a vs) (q : RepA K H (Fo B m S) m vs xs) : ItR K H (Fo B m S) m (Itt K a) xs := by
  intro H2 F2 m2 p
  have h2 : SqT K H2 a vs := p.sqT h
  have q2 := q.kp p
  refine ⟨fun i hi => ?_, fun i hi => ⟨vs, h2, by rw [q.length]; exact hi⟩⟩
  obtain ⟨v, ev, rv⟩ := q2.get (d := xs[i]) (List.getElem?_eq_getElem hi)
  refine ⟨⟨vs, v, h2, ev⟩, fun x H3 y => ?_⟩
  obtain ⟨e, y⟩ := y
  subst e
  have := y vs h2
  rw [ev] at this; cases this
  exact ⟨_, List.getElem?_eq_getElem hi, Same.refl _, rv⟩
theorem itr_rng {K : PySem.W.Frag} {Fb : Addr → Prop} {m : List Addr} {H : Hp} {a b : Int} : ItR K H Fb m (Itr a (b - a).toNat) (iRng a b) := by
  intro H2 F2 m2 p
  refine ⟨fun i hi => ⟨?_, fun x H3 y => ?_⟩, fun i hi => ?_⟩
  · show i < (b - a).toNat
    simpa [iRng] using hi
  · obtain ⟨e, y⟩ := y
    subst e y
    have hi' : i < (b - a).toNat := by simpa [iRng] using hi
    exact ⟨.int (a + (i : Nat)), by simp only [iRng, List.getElem?_map, List.getElem?_range hi', Option.map_some], Same.refl _, .int _⟩
  · show (b - a).toNat ≤ i
    simpa [iRng] using hi
theorem rep_key {K : PySem.W.Frag} {H : Hp} {Fb : Addr → Prop} {m : List Addr} (k : Key) : Rep K H Fb m (kV k) (keyD k) := by
  cases k
  · exact .int _
  · exact .str _
theorem itr_keys {K : PySem.W.Frag} {H : Hp} {Fb : Addr → Prop} {m : List Addr} {a : Addr} {o : Obj} {kv : List (Key × V)} {kvs : List (D × D)} (h : H a = some (.frz o (.dK kv))) (q : KR K H Fb m kv kvs) : ItR K H Fb m (Itk a o kv) (kvs.map (·.1)) := by
  intro H2 F2 m2 p
  have h2 := p.fix _ (.frz o (.dK kv)) trivial h
  have hl := q.length
  refine ⟨fun i hi => ⟨⟨h2, by rw [List.length_map] at hi; omega⟩, fun x H3 y => ?_⟩, fun i hi => ⟨h2, by rw [List.length_map] at hi; omega⟩⟩
  obtain ⟨rfl, k, v, ek, rfl⟩ := y
  refine ⟨keyD k, ?_, Same.refl _, rep_key k⟩
  rw [q.keys, List.getElem?_map, ek]
  rfl
theorem upI_one {K : PySem.W.Frag} {mg : Str → Option Value} {σ : L2.St} {H : Hp} {fa : Ex} {g : D → Ev → Sto → R (List D)} {Q : It → Hp → Prop} (h : upI K mg W (fun ρ S => (fa ρ S).bind fun x S => g x ρ S) σ H Q) :
    up K mg W fa σ H fun x H1 => ∃ B m ρ S dx, Rl K mg B m H1 S ∧ RepE K H1 (Fo B m S) m σ ρ ∧ Rep K H1 (Fo B m S) m x dx ∧ finI K mg W B m S σ H1 (g dx ρ S) Q := by
  obtain ⟨B, m, ρ, S, r, re, f⟩ := h
  refine ⟨B, m, ρ, S, r, re, fin.mono (fin.bindI f) fun v H1 => ?_⟩
  rintro ⟨m1, S1, d, p, q, f1⟩
  exact ⟨B, m1, ρ, S1, d, p.rl, re.kp (p.kp r), q, f1⟩
theorem iv_lst (h : EV X W e fe) : IV X W tg e (iLstO fe) := by
  refine pi_imp (pi_list h) fun σ H Q h => ?_
  obtain ⟨B, m, ρ, S, r, re, f⟩ := upI_one (g := fun d ρ S => match d with | .lst xs => .ok xs S | _ => .bad) h
  refine ⟨B, m, ρ, S, r, re, f.mono fun x H1 => ?_⟩
  rintro ⟨B, m, ρ, S, dx, r, re, rx, f⟩
  cases dx with
  | lst xs =>
    cases rx with
    | lst h nf z q => exact ⟨_, rfl, ⟨_, SqL.of h⟩, f m H1 _ (Post.refl r) (itr_list r h nf q)⟩
  | _ => exact f.elim
theorem iv_tup (h : EV X W e fe) : IV X W tg e (iTupO fe) := by
  refine pi_imp (pi_tup h) fun σ H Q h => ?_
  obtain ⟨B, m, ρ, S, r, re, f⟩ := upI_one (g := fun d ρ S => match d with | .tup xs => .ok xs S | _ => .bad) h
  refine ⟨B, m, ρ, S, r, re, f.mono fun x H1 => ?_⟩
  rintro ⟨B, m, ρ, S, dx, r, re, rx, f⟩
  cases dx with
  | tup xs =>
    cases rx with
    | tup h z q => exact ⟨_, rfl, ⟨_, h⟩, f m H1 _ (Post.refl r) (itr_tup r h q)⟩
  | _ => exact f.elim
theorem iv_seq (h : EV X W e fe) : IV X W tg e (iSeq fe) := by
  refine ⟨fun pins s σ H Q I h0 => ?_⟩
  -- whichever it is: told by the value
  have h1 := upI_one (g := fun d ρ S => match d with | .tup xs => .ok xs S | .lst xs => .ok xs S | .dic false kvs => .ok (kvs.map (·.1)) S | _ => .bad) h0
  refine thn (h.run pins s σ H _ I h1) fun v s1 ⟨x, H1, I1, r1, B, m, ρ, S, dx, r, re, rx, f⟩ => ?_
  cases dx with
  | tup xs =>
    cases rx with
    | @tup a vs _ h z q =>
      cases r1
      obtain ⟨its, rv, p, hz⟩ := I1.tuple h
      refine wpAny_pyIter_tuple (show s1.heap.IsTuple a its.toArray from p) ?_
      refine ⟨s1.heap.objs.size, [s1.heap.objs.size], _, _, H1, rfl, I1.kept (t' := s1.toks) fun b o e => Heap.get?_push_of_some _ e, turn_tuple a _, ⟨_, Heap.get?_push_size _ rfl, rfl, rfl⟩, fun b hb => ?_, f m H1 _ (Post.refl r) (itr_tup r h q)⟩
      have e : b = s1.heap.objs.size := by simpa using hb
      subst e
      exact I1.fpOk (Nat.le_refl _) (I1.hok.fresh (Nat.le_refl _))
  | lst xs =>
    cases rx with
    | @lst a vs _ h nf z q =>
      cases r1
      obtain ⟨its, rv, p, hz⟩ := I1.list (SqL.of (K := X.K) h)
      refine wpAny_pyIter_list p.isList ?_
      refine ⟨s1.heap.objs.size, [s1.heap.objs.size], _, _, H1, rfl, I1.kept (t' := s1.toks) fun b o e => Heap.get?_push_of_some _ e, turn_list a _, ⟨_, Heap.get?_push_size _ rfl, rfl, rfl⟩, fun b hb => ?_, f m H1 _ (Post.refl r) (itr_list r h nf q)⟩
      have e : b = s1.heap.objs.size := by simpa using hb
      subst e
      exact I1.fpOk (Nat.le_refl _) (I1.hok.fresh (Nat.le_refl _))
  | dic t kvs =>
    cases t with
    | true => exact f.elim
    | false =>
      cases rx with
      | @dK a kv _ h z e q =>
        obtain ⟨o, hd⟩ := h
        obtain rfl : v = Value.ref a := r1
        obtain ⟨hs, hgd, hx, es, ep, vs, hdt, hsz, kv', hm⟩ := I1.frzK hd
        refine iter_keys hs hgd hx hdt (pi_one (tk := s1.toks) I1 _ (turn_keys _ hdt) ⟨_, Heap.get?_push_size _ rfl, rfl, ?_⟩ (f m H1 _ (Post.refl r) (itr_keys hd (kr_of e q))))
        rw [hsz] <;> rfl
  | _ => exact f.elim
theorem iv_rng1 (hg : Gl X "range") (hm : X.mg "range" = none) (ha : EV X W e fe) (hs : starEach [e] X.env = [(false, eval e X.env)] := by rfl) : IV X W tg (.Call (.Name "range" p) [e] [] pos) (iRng1X fe) := by
  refine pi_imp (pi_range1 hg hm (pa_cons ha pa_nil hs) hs) fun σ H Q h => ?_
  obtain ⟨B, m, ρ, S, r, re, f⟩ := upI_one (g := fun d ρ S => match d with | .int j => if -(2 ^ 62) ≤ j ∧ j < 2 ^ 62 then .ok (iRng 0 j) S else .bad | _ => .bad) h
  refine ⟨B, m, ρ, S, r, re, f.mono fun x H1 => ?_⟩
  rintro ⟨B, m, ρ, S, dx, r, re, rx, f⟩
  cases dx with
  | int j =>
    cases rx
    dsimp only at f
    split at f
    · rename_i hj
      refine ⟨j, rfl, hj.1, hj.2, f m H1 _ (Post.refl r) ?_⟩
      have := itr_rng (K := X.K) (Fb := Fo B m S) (m := m) (H := H1) (a := 0) (b := j)
      rwa [show (j - 0) = j by omega] at this
    · exact f.elim
  | _ => exact f.elim
theorem iv_rng2 (hg : Gl X "range") (hm : X.mg "range" = none) (ha : EV X W e fe) (hb : EV X W e2 fe2) (hs : starEach [e, e2] X.env = [(false, eval e X.env), (false, eval e2 X.env)] := by rfl) (hs2 : starEach [e2] X.env = [(false, eval e2 X.env)] := by rfl) :
    IV X W tg (.Call (.Name "range" p) [e, e2] [] pos) (iRng2X fe fe2) := by
  refine pi_imp (pi_range2 hg hm (pa_cons ha (pa_cons hb pa_nil hs2) (by rw [hs, hs2])) hs hs2) fun σ H Q h => ?_
  obtain ⟨B, m, ρ, S, r, re, f⟩ := upI_one (g := fun d ρ S => (fe2 ρ S).bind fun d2 S => match d, d2 with | .int i, .int j => if -(2 ^ 62) ≤ i ∧ i < 2 ^ 62 ∧ -(2 ^ 62) ≤ j ∧ j < 2 ^ 62 then .ok (iRng i j) S else .bad | _, _ => .bad) h
  refine ⟨B, m, ρ, S, r, re, f.mono fun x H1 => ?_⟩
  rintro ⟨B, m, ρ, S, dx, r, re, rx, f⟩
  refine ⟨B, m, ρ, S, r, re, fin.mono (fin.bindI f) fun y H2 => ?_⟩
  rintro ⟨m1, S1, d2, p1, q1, f1⟩
  cases dx with
  | int i =>
    cases rx
    cases d2 with
    | int j =>
      cases q1
      dsimp only at f1
      split at f1
      · rename_i hj
        exact ⟨i, j, rfl, hj, f1 m1 H2 _ (Post.refl p1.rl) itr_rng⟩
      · exact f1.elim
    | _ => exact f1.elim
  | _ => exact f1.elim
end

/-! ### for -/
def loopS (t : Tg) (b : Sx) : List D → Sx
  | [], ρ, S => .fl (.nx ρ) S
  | d :: ds, ρ, S => match t.put d ρ with
    | none => .bad
    | some ρ1 => match b ρ1 S with
      | .fl (.nx ρ2) S2 => loopS t b ds ρ2 S2
      | .fl (.ct ρ2) S2 => loopS t b ds ρ2 S2
      | .fl (.bk ρ2) S2 => .fl (.nx ρ2) S2
      | .fl (.rt d) S2 => .fl (.rt d) S2
      | .exc c p ρ2 S2 => .exc c p ρ2 S2
      | .bad => .bad
def sFor (it : Ix) (t : Tg) (b : Sx) : Sx := fun ρ S => (it ρ S).bindS ρ fun xs S => loopS t b xs ρ S
section
variable {X : Cx} {W : WX} {tg iter : Expr} {fi : Ix} {t : Tg} {body : List Stmt} {b : Sx} {pos : Pos}
theorem sv_for (hp : PassesOwn (model X.prog X.w) X.A X.env X.xe) (hc : X.calm = true) (hi : IV X W tg iter fi) (hg : GV X tg t) (hb : SVs X W body b) (hs : ∀ x, foldedSetIterable iter X.env x = pure x := by intro _; rfl) :
    SV X W (.For tg iter body [] pos) (sFor fi t b) := by
  refine ps_imp (ps_for hp hc hi hg hb hs) fun E σ H h => ?_
  obtain ⟨B, m, ρ, S, r, re, f⟩ := h
  refine ⟨B, m, ρ, S, r, re, finI.mono (finI.bindS re r f) fun J H1 => ?_⟩
  rintro ⟨m1, S1, xs, p1, itr, f1⟩
  refine ⟨fun i n σ H => n = xs.length - i ∧ i ≤ xs.length ∧ ∃ m2 S2 ρ2, Post X.K X.mg B m1 S1 H1 m2 S2 H ∧ RepE X.K H (Fo B m2 S2) m2 σ ρ2 ∧ finS X.K X.mg W B m2 S2 H (loopS t b (xs.drop i) ρ2 S2) E,
    ⟨xs.length, by simp, Nat.zero_le _, m1, S1, ρ, Post.refl p1.rl, re.kp (p1.kp r), by simpa using f1⟩, ?_⟩
  rintro i n σ2 H2 ⟨rfl, hi, m2, S2, ρ2, p2, re2, f2⟩
  obtain ⟨go, stop⟩ := itr H2 _ m2 (p2.kp p1.rl)
  by_cases hlt : i < xs.length
  · right
    refine ⟨(go i hlt).1, fun σ' H' => ∃ m3 S3 ρ3, Post X.K X.mg B m1 S1 H1 m3 S3 H' ∧ RepE X.K H' (Fo B m3 S3) m3 σ' ρ3 ∧ finS X.K X.mg W B m3 S3 H' (loopS t b (xs.drop (i + 1)) ρ3 S3) E, ?_, ?_⟩
    · rintro σ' H' ⟨m3, S3, ρ3, p3, re3, f3⟩
      exact ⟨_, by omega, rfl, hlt, m3, S3, ρ3, p3, re3, f3⟩
    · intro x H3 y
      obtain ⟨d, ed, sm, rx⟩ := (go i hlt).2 x H3 y
      have p3 : Post X.K X.mg B m2 S2 H2 m2 S2 H3 := Post.grow p2.rl sm
      have f3 := finS.later p3 f2
      have re3 := re2.kp (p3.kp p2.rl)
      rw [List.drop_eq_getElem_cons hlt] at f3
      have ed' : xs[i] = d := by
        have := List.getElem?_eq_getElem hlt
        rw [this] at ed
        exact Option.some.inj ed
      rw [ed'] at f3
      unfold loopS at f3
      cases e1 : t.put d ρ2 with
      | none => rw [e1] at f3; exact f3.elim
      | some ρ4 =>
        rw [e1] at f3
        dsimp only at f3
        refine Tg.rd_ok t e1 rx re3 fun σ4 re4 => ?_
        refine ⟨B, m2, ρ4, S2, p3.rl, re4, ?_⟩
        cases e2 : b ρ4 S2 with
        | bad => rw [e2] at f3; exact f3.elim
        | exc c p ρ5 S5 => rw [e2] at f3; exact f3
        | fl fl S5 =>
          rw [e2] at f3
          cases fl with
          | nx ρ5 => exact fun m5 H5 σ5 p5 re5 => ⟨m5, S5, ρ5, (p2.trans p3).trans p5, re5, finS.later p5 f3⟩
          | ct ρ5 => exact fun m5 H5 σ5 p5 re5 => ⟨m5, S5, ρ5, (p2.trans p3).trans p5, re5, finS.later p5 f3⟩
          | bk ρ5 => exact fun m5 H5 σ5 p5 re5 => f3 m5 H5 σ5 p5 re5
          | rt d => exact f3
  · left
    have hd : xs.drop i = [] := List.drop_eq_nil_of_le (by omega)
    rw [hd] at f2
    exact ⟨stop i (by omega), f2 m2 H2 σ2 (Post.refl p2.rl) re2⟩
end

/-! ### while: some turns at most -/
def whileS (n : Nat) (t : Tx) (b : Sx) : Sx := match n with
  | 0 => fun _ _ => .bad
  | n + 1 => fun ρ S => (t ρ S).bindS ρ fun c S => if c = true then (match b ρ S with
      | .fl (.nx ρ2) S2 => whileS n t b ρ2 S2
      | .fl (.ct ρ2) S2 => whileS n t b ρ2 S2
      | .fl (.bk ρ2) S2 => .fl (.nx ρ2) S2
      | .fl (.rt d) S2 => .fl (.rt d) S2
      | .exc c p ρ2 S2 => .exc c p ρ2 S2
      | .bad => .bad) else .fl (.nx ρ) S
section
variable {X : Cx} {W : WX} {c : Expr} {t : Tx} {body : List Stmt} {b : Sx} {pos : Pos}
theorem sv_while {n : Ev → Sto → Nat} (hp : PassesOwn (model X.prog X.w) X.A X.env X.xe) (hc : TV X W c t) (hb : SVs X W body b) : SV X W (.While c body [] pos) (fun ρ S => whileS (n ρ S) t b ρ S) := by
  refine ps_imp (ps_while hp hc hb) fun E σ H h => ?_
  obtain ⟨B, m, ρ, S, r, re, f⟩ := h
  refine ⟨fun k σ H => ∃ m2 S2 ρ2, Rl X.K X.mg B m2 H S2 ∧ RepE X.K H (Fo B m2 S2) m2 σ ρ2 ∧ finS X.K X.mg W B m2 S2 H (whileS k t b ρ2 S2) E, ⟨n ρ S, m, S, ρ, r, re, f⟩, ?_⟩
  rintro k σ2 H2 ⟨m2, S2, ρ2, r2, re2, f2⟩
  cases k with
  | zero => exact f2.elim
  | succ k =>
    unfold whileS at f2
    refine ⟨B, m2, ρ2, S2, r2, re2, finT.mono (finT.bindS re2 r2 f2) fun c H3 => ?_⟩
    rintro ⟨m3, S3, p3, f3⟩
    cases c with
    | false =>
      rw [if_neg Bool.false_ne_true] at f3 ⊢
      exact f3 m3 H3 σ2 (Post.refl p3.rl) (re2.kp (p3.kp r2))
    | true =>
      rw [if_pos rfl] at f3 ⊢
      refine ⟨fun σ' H' => ∃ m4 S4 ρ4, Rl X.K X.mg B m4 H' S4 ∧ RepE X.K H' (Fo B m4 S4) m4 σ' ρ4 ∧ finS X.K X.mg W B m4 S4 H' (whileS k t b ρ4 S4) E, fun σ' H' h => ⟨k, Nat.lt_succ_self _, h⟩, ?_⟩
      refine ⟨B, m3, ρ2, S3, p3.rl, re2.kp (p3.kp r2), ?_⟩
      cases e2 : b ρ2 S3 with
      | bad => rw [e2] at f3; exact f3.elim
      | exc c p ρ5 S5 => rw [e2] at f3; exact f3
      | fl fl S5 =>
        rw [e2] at f3
        cases fl with
        | nx ρ5 => exact fun m5 H5 σ5 p5 re5 => ⟨m5, S5, ρ5, p5.rl, re5, finS.later p5 f3⟩
        | ct ρ5 => exact fun m5 H5 σ5 p5 re5 => ⟨m5, S5, ρ5, p5.rl, re5, finS.later p5 f3⟩
        | bk ρ5 => exact fun m5 H5 σ5 p5 re5 => f3 m5 H5 σ5 p5 re5
        | rt d => exact f3
end
end DL

/-! ## DLr -/
set_option Elab.async false
set_option linter.all false
set_option maxRecDepth 100000
set_option maxHeartbeats 4000000
namespace DL
open PySem PySem.Spec PyProof.Rows L2
/-! ### calls of defs where no repr is under way -/
/-- room for k levels; no guard of a repr stands -/
structure Room (k : Nat) (A : Around) : Prop where
  r : L2.Room k A
  g : A.guards = some []
theorem Room.mono {j k : Nat} {A : Around} (x : DL.Room k A) (h : j ≤ k) : DL.Room j A := ⟨x.r.mono h, x.g⟩
theorem Room.deeper {k : Nat} {A : Around} (x : DL.Room (k + 1) A) (env : Env) : DL.Room k (A.deeper env) := ⟨x.r.deeper env, x.g⟩
theorem Room.units {k : Nat} {A : Around} (x : DL.Room k A) : A.units + 64 < cLine := x.r.units
/-- what a def promises, called where there is room -/
structure FnOk (P : Program) (w : World) (K : PySem.W.Frag) (mg : Str → Option Value) (base : Heap) (CX : CXT) (k : Nat) (f : Addr) (fd : FuncData) (ps : List Str) (sp : Sp) : Prop where
  len : ∀ xs H Q E, sp xs H Q E → xs.length = ps.length
  run : ∀ (B : Around) (ol : List Env) (s : Shared) (H : Hp) (ar : Args) (ys : List Value) (xs : List V) (Q : VK) (E : XK), DL.Room k B → Env0 P w K mg base B ol s H → BindsTo s fd ar (ps.zip ys) → Vals xs ys → sp xs H Q E →
    codeAny (model P w) B (.call (.ref f) ar) (CR CX ol P w H s Q E) s
section
variable {P : Program} {w : World} {K : PySem.W.Frag} {mg : Str → Option Value} {base : Heap} {CX : CXT} {k j : Nat} {f : Addr} {fd : FuncData} {N ps : List Str} {sp sp' : Sp}
theorem FnOk.mono (F : DL.FnOk P w K mg base CX j f fd ps sp) (h : j ≤ k) : DL.FnOk P w K mg base CX k f fd ps sp where
  len := F.len
  run := fun B ol s H ar ys xs Q E hb => F.run B ol s H ar ys xs Q E (hb.mono h)
theorem FnOk.imp (F : DL.FnOk P w K mg base CX k f fd ps sp) (h : ∀ xs H Q E, sp' xs H Q E → sp xs H Q E) : DL.FnOk P w K mg base CX k f fd ps sp' where
  len := fun xs H Q E q => F.len xs H Q E (h xs H Q E q)
  run := fun B ol s H ar ys xs Q E hb he hbi hv q => F.run B ol s H ar ys xs Q E hb he hbi hv (h xs H Q E q)
/-- a def by its body -/
theorem fn_body {name qual : Str} {params : Arguments} {body : List Stmt} {scope : Scope} {dV kV doc pm cdv ct oc : Value} {an od : Option Addr} {osl : Array (Option Value)}
    (look : K.lookup f = some ⟨oc, od, .func (PySem.W.fnOf name qual params body scope dV kV doc pm an cdv ct), osl⟩) (code : PySem.W.codeIn K cdv qual = true) (sc : FnScope N ps scope)
    (hlen : ∀ xs H Q E, sp xs H Q E → xs.length = ps.length)
    (bod : ∀ (B : Around) (ol : List Env) (s : Shared) (H : Hp) (xs : List V) (Q : VK) (E : XK), DL.Room k (B.deeper (envOfC qual scope s.heap.objs.size f cdv)) → sp xs H Q E →
      ∃ rd, PSs (cxOf CX P w K mg base N qual scope f cdv B ol s H E) body rd ∧ rd { nx := fun _ H2 => Q .non H2, rt := Q } (start N xs) H) :
    DL.FnOk P w K mg base CX (k + 1) f (PySem.W.fnOf name qual params body scope dV kV doc pm an cdv ct) ps sp := by
  refine ⟨hlen, ?_⟩
  intro B ol s H ar ys xs Q E room en bi rel want
  have many := hlen _ _ _ _ want
  have inK : K.In s.heap := en.mod.kin.keeps fun c ob z => (en.bs c ob z).1
  have noLim : s.heap.NoLimit := en.mod.nolimit.keeps fun c ob z => (en.bs c ob z).1
  have kinds : ∀ z ∈ ps.zip ys, scope.names.lookup z.1 = some .local ∨ (scope.names.lookup z.1 = some .cell ∧ ((cellsFrom (s.heap.objs.size + 1) scope.names []).lookup z.1).isSome = true) := by
    rintro ⟨nm, vl⟩ hz
    cases sc.par nm (List.of_mem_zip hz).1 with
    | inl q => exact Or.inl q
    | inr q => exact Or.inr ⟨q, PySem.W.cellsFrom_some _ _ _ (Or.inl q)⟩
  refine codeAny_call_function room.r.depth (inK _ _ look) rfl sc.co sc.gen rfl (PySem.W.codeRec_of inK code) (bi _ _ _ _ ?_)
  refine wpAny_newFunctionEnv_cells sc.kind kinds ?_
  rintro env rfl s1 inc
  refine ⟨noLim.keeps inc.toInCall.keep, codeAny_func ?_⟩
  obtain ⟨rd, hrd, hw⟩ := bod B ol s H xs Q E (room.deeper _) want
  have J0 : Inv (cxOf CX P w K mg base N qual scope f cdv B ol s H E) [] (start N xs) H s1 := inv_start sc room.r.hd en many rel inc
  have close : ∀ {σ2 : L2.St} {H2 : Hp} {v : V} {u : Value} {s2 : Shared}, Inv (cxOf CX P w K mg base N qual scope f cdv B ol s H E) [] σ2 H2 s2 → RelV v u → Q v H2 → CE ol P w H s Q u s2 := by
    intro σ2 H2 v u s2 J rv q
    exact ⟨v, H2, J.os, J.bare, J.base, J.hok, rv, q⟩
  refine wpAny_mono (hrd.run [] s1 (start N xs) H _ J0 hw) ?_ (fun er s2 z => z)
  intro flow s2 hs2
  cases flow with
  | next =>
    obtain ⟨σ2, H2, J, q⟩ := hs2
    exact close (v := V.non) (u := Value.none) J rfl q
  | ret u =>
    obtain ⟨v, σ2, H2, J, rv, q⟩ := hs2
    exact close J rv q
  | brk => exact (hs2.elim fun _ z => z.elim fun _ z => z.2 : False).elim
  | cont => exact (hs2.elim fun _ z => z.elim fun _ z => z.2 : False).elim
theorem funD_ok {x qual : Str} {params : Arguments} {body : List Stmt} {scope : Scope} {dvs : List V} {kws : List (Str × V)} (F : FunD K x qual params body scope dvs kws f fd) (sc : FnScope N ps scope) (hlen : ∀ xs H Q E, sp xs H Q E → xs.length = ps.length)
    (bod : ∀ (cdv : Value) (B : Around) (ol : List Env) (s : Shared) (H : Hp) (xs : List V) (Q : VK) (E : XK), DL.Room k (B.deeper (envOfC qual scope s.heap.objs.size f cdv)) → sp xs H Q E →
      ∃ rd, PSs (cxOf CX P w K mg base N qual scope f cdv B ol s H E) body rd ∧ rd { nx := fun _ H2 => Q .non H2, rt := Q } (start N xs) H) : DL.FnOk P w K mg base CX (k + 1) f fd ps sp := by
  obtain ⟨_, _, _, _, _, _, _, cdv, _, _, rfl, look, code, _, _⟩ := F.ex
  exact fn_body look code sc hlen fun B ol s H xs Q E hr want => bod cdv B ol s H xs Q E hr want
end
section
variable {X : Cx} {CX : CXT} {k : Nat} {f : Addr} {fd : FuncData} {ps : List Str} {sp : Sp} {E : L2.St → XK} {x : Str} {p pos : Pos} {e : Expr} {es : List Expr} {t : TA} {dvs : List V} {ds : List Value}
/-- the callee runs; ds the defaults that fill up -/
theorem run_call {pins : List (Addr × Obj)} {σ : L2.St} {H : Hp} {s : Shared} {Q : VK} {ys : List Value} {xs : List V} (F : DL.FnOk X.prog X.w X.K X.mg X.base CX k f fd ps sp) (room : DL.Room k X.A) (bi : Binds X.K fd ps ds) (hd : Vals dvs ds) (pass : PassesAt CX X σ (E σ))
    (J : Inv X pins σ H s) (rel : Vals xs ys) (want : sp (xs ++ dvs) H Q (E σ)) : wpAny (model X.prog X.w) X.A (call (.ref f) ys) (EP X pins σ Q) X.xe s := by
  have rel2 := rel.append hd
  have many : (ys ++ ds).length = ps.length := by rw [← rel2.length]; exact F.len _ _ _ _ want
  refine wpAny_call (codeAny_mono (F.run X.A X.stack s H ⟨ys, []⟩ (ys ++ ds) (xs ++ dvs) Q (E σ) room J.env0 (bi s ys J.kIn many) rel2 want) ?_)
  intro res s2 hres
  match res, hres with
  | .ok (.ret u), hres => exact J.after hres
  | .ok .next, hres => exact False.elim hres
  | .ok .brk, hres => exact False.elim hres
  | .ok .cont, hres => exact False.elim hres
  | .error er, hres => exact pass pins H s er s2 J hres
def tCallG (sp : Sp) (dvs : List V) (E : L2.St → XK) (t : TA) : TE := fun σ H Q => t σ H fun xs H1 => sp (xs ++ dvs) H1 Q (E σ)
theorem pe_callG (F : DL.FnOk X.prog X.w X.K X.mg X.base CX k f fd ps sp) (room : DL.Room k X.A) (hg : Gl X x) (hm : X.mg x = some (.ref f)) (hk : PySem.W.keepIn X.K (.ref f) = true) (bi : Binds X.K fd ps ds) (hd : Vals dvs ds) (pass : ∀ σ, PassesAt CX X σ (E σ))
    (ha : PA X (e :: es) t) (hdb : (x == ("__debug__" : Str)) = false := by decide) (hse : starEach (e :: es) X.env = (false, eval e X.env) :: starEach es X.env := by rfl) (hpl : (backTo pos (starEach es X.env)).any (·.1) = false := by rfl) :
    PE X (.Call (.Name x p) (e :: es) [] pos) (tCallG sp dvs E t) := ⟨fun pins s σ H Q J want =>
  wpAny_Call_Name_kw (ld_glob J hg hm (PySem.W.callWith_K (h₀ := X.base) J.ok.mod.kin hk (thn (ha.run pos pins s σ H _ J want) fun ys s1 ⟨xs, H1, J1, rel, q⟩ => ⟨J1.kIn, run_call F room bi hd (pass σ) J1 rel q⟩) hse hpl) hdb)⟩
theorem pe_callG0 (F : DL.FnOk X.prog X.w X.K X.mg X.base CX k f fd ps sp) (room : DL.Room k X.A) (hg : Gl X x) (hm : X.mg x = some (.ref f)) (hk : PySem.W.keepIn X.K (.ref f) = true) (bi : Binds X.K fd ps ds) (hd : Vals dvs ds) (pass : ∀ σ, PassesAt CX X σ (E σ))
    (hdb : (x == ("__debug__" : Str)) = false := by decide) : PE X (.Call (.Name x p) [] [] pos) (tCallG sp dvs E tNil) := ⟨fun pins s σ H Q J want =>
  wpAny_Call_Name_kw (ld_glob J hg hm (PySem.W.callWith_K0 J.kIn hk (run_call (ys := []) F room bi hd (pass σ) J .nil want)) hdb)⟩
end
section
variable {X : Cx} {CX : CXT} {k : Nat} {f : Addr} {fd : FuncData} {ps : List Str} {sp : Sp} {E : L2.St → XK} {x : Str} {p pos : Pos} {e : Expr} {es : List Expr} {t : TA}
theorem pe_callD1 (F : DL.FnOk X.prog X.w X.K X.mg X.base CX k f fd ps sp) (room : DL.Room k X.A) (hg : Gl X x) (hm : X.mg x = some (.ref f)) (hk : PySem.W.keepIn X.K (.ref f) = true) (bi : Binds X.K fd ps []) (pass : ∀ σ, PassesAt CX X σ (E σ))
    (ha : PA X (e :: es) t) (hdb : (x == ("__debug__" : Str)) = false := by decide) (hse : starEach (e :: es) X.env = (false, eval e X.env) :: starEach es X.env := by rfl) (hpl : (backTo pos (starEach es X.env)).any (·.1) = false := by rfl) :
    PE X (.Call (.Name x p) (e :: es) [] pos) (fun σ H Q => t σ H fun xs H1 => sp xs H1 Q (E σ)) := by
  have z := pe_callG (p := p) (dvs := []) F room hg hm hk bi .nil pass ha hdb hse hpl
  refine pe_imp z fun σ H Q h => ?_
  unfold tCallG
  simp only [List.append_nil]
  exact h
end
/-- the law's call -/
theorem law_run {P : Program} {w : World} {K : PySem.W.Frag} {mg mb : Str → Option Value} {CX : CXT} {k : Nat} {fa a : Addr} {fd : FuncData} {x : Str} {sp : Sp} {t : Shared} {us : List Value} {ns : List Int}
    (inK : K.In t.heap) (nsm : t.heap.Ns mainGlobals mg) (nsb : t.heap.Ns builtinsNs mb) (bbs : ∀ x : Str, x ≠ "__name__" → mb x = bootBuiltins x) (noLim : t.heap.NoLimit) (gns : t.gens = #[])
    (scr : t.heap.get? a = some { cls := .type "list", data := .seq us.toArray }) (isI : IntsAre us ns) (small : ns.length ≤ sizeLine) (room : DL.Room k callerA)
    (F : ∀ base : Heap, K.In base → base.Ns mainGlobals mg → DL.FnOk P w K mg base CX k fa fd [x] sp) (bi : ∀ (s : Shared) (u : Value), BindsTo s fd ⟨[u], []⟩ [(x, u)])
    (want : ∀ H : Hp, L2.Only H → SqL K H a (ns.map V.int) → sp [.ref a] H (fun v _ => v = .bl true) fun _ _ _ => False)
    (noEx : ∀ H e s', CX [] H t (fun _ _ _ => False) e s' → False) :
    codeAny (model P w) callerA (.call (.ref fa) ⟨[.ref a], []⟩) (fun r s' => r = .ok (.ret (.bool true)) ∧ OldK t.heap s'.heap ∧ s'.os = t.os ∧ AllBare s'.gens) t := by
  have relI := vals_ints isI
  have go : ∀ H : Hp, L2.Only H → SqL K H a (ns.map V.int) → HOk P w H t.heap → (∀ c, H c ≠ none → c = a) → (H a ≠ none → K.lookup a = none) →
      codeAny (model P w) callerA (.call (.ref fa) ⟨[.ref a], []⟩) (fun r s' => r = .ok (.ret (.bool true)) ∧ OldK t.heap s'.heap ∧ s'.os = t.os ∧ AllBare s'.gens) t := by
    intro H only sq held one apart
    have free : ∀ {c : Addr} {ob : Obj} {es : Array DictEntry} {ep : Nat}, t.heap.get? c = some ob → ob.data = .dict es ep → H c = none := by
      intro c ob es ep e dt
      cases hc : H c with
      | none => rfl
      | some u =>
        obtain rfl : c = a := one c (by simp [hc])
        rw [scr] at e
        cases e
        exact nomatch (show Data.seq us.toArray _ = Data.dict es ep from dt)
    have keepN : ∀ {c : Addr} {m : Str → Option Value}, t.heap.Ns c m → (hidT t.heap H).Ns c m := by
      rintro c m ⟨ob, es, ep, e, dt, rest⟩
      exact ⟨ob, es, ep, hidT_get e (free e dt), dt, rest⟩
    have keepK : K.In (hidT t.heap H) := by
      intro c ob e
      refine hidT_get (inK c ob e) ?_
      cases hc : H c with
      | none => rfl
      | some u =>
        obtain rfl : c = a := one c (by simp [hc])
        have z := apart (by simp [hc])
        rw [z] at e
        cases e
    have md : Mod K mg (hidT t.heap H) := by
      refine ⟨keepK, keepN nsm, ⟨mb, keepN nsb, bbs⟩, ?_⟩
      obtain ⟨mc, q1, q2⟩ := noLim
      exact ⟨mc, keepN q1, q2⟩
    have en : Env0 P w K mg (hidT t.heap H) callerA [] t H := ⟨rfl, md, fun c ob e => of_hidT e, Nat.le_of_eq (hidT_size _ _), trivial, fun c hc => (List.not_mem_nil (show c ∈ ([] : List Addr) from hc)).elim, held, .of_eq gns⟩
    refine codeAny_mono ((F _ keepK (keepN nsm)).run callerA [] t H ⟨[.ref a], []⟩ [.ref a] [.ref a] _ _ room en (bi t (.ref a)) (.cons rfl .nil) (want H only sq)) ?_
    intro res s2 hres
    match res, hres with
    | .error er, hres => exact (noEx H er s2 hres).elim
    | .ok .next, hres => exact False.elim hres
    | .ok .brk, hres => exact False.elim hres
    | .ok .cont, hres => exact False.elim hres
    | .ok (.ret u), hres =>
      obtain ⟨v, H2, hos, hbare, un, held2, rv, (rfl : v = .bl true)⟩ := hres
      cases (show u = Value.bool true from rv)
      refine ⟨rfl, OldK.of_keep ?_, hos, hbare⟩
      intro c ob e
      cases hc : H c with
      | none => exact un.keep c ob e hc (fun z => List.not_mem_nil (show c ∈ ([] : List Addr) from z)) (List.not_mem_nil)
      | some u =>
        rcases only c with z | ⟨o2, ys, z⟩
        · rw [hc] at z
          cases z
        · obtain ⟨g1, _⟩ := held c _ z
          obtain ⟨g2, _⟩ := held2 c _ (un.frzs c o2 _ z)
          rw [e] at g1
          cases g1
          exact g2
  cases hk : K.lookup a with
  | some ob =>
    have z := inK a ob hk
    rw [scr] at z
    cases z
    have sq : SqL K (fun _ => none) a (ns.map V.int) := Or.inr ⟨_, us.toArray, _, hk, rfl, rfl, rfl, by rw [List.size_toArray, isI.length]; exact small, by simpa using relI⟩
    exact go (fun _ => none) (fun _ => Or.inl rfl) sq (fun c u z => nomatch (show (none : Option HO) = some u from z)) (fun c z => (z rfl).elim) fun z => (z rfl).elim
  | none =>
    obtain ⟨ob, hob⟩ : ∃ ob : Obj, ob = { cls := .type "list", data := .seq us.toArray } := ⟨_, rfl⟩
    rw [← hob] at scr
    have atA : (upd (fun _ => none) a (.frz ob (.lst (ns.map V.int))) : Hp) a = some (.frz ob (.lst (ns.map V.int))) := upd_same
    have off : ∀ c, c ≠ a → (upd (fun _ => none) a (.frz ob (.lst (ns.map V.int))) : Hp) c = none := fun c hc => upd_ne hc
    refine go (upd (fun _ => none) a (.frz ob (.lst (ns.map V.int)))) ?_ (Or.inl (Or.inr ⟨ob, atA⟩)) ?_ ?_ (fun _ => hk)
    · intro c
      by_cases hc : c = a
      · subst hc
        exact Or.inr ⟨_, _, atA⟩
      · exact Or.inl (off c hc)
    · intro c u z
      by_cases hc : c = a
      · subst hc
        rw [atA] at z
        cases z
        exact ⟨scr, by rw [List.length_map]; exact small, us, _, relI, by rw [scr, hob]⟩
      · rw [off c hc] at z
        cases z
    · intro c z
      by_cases hc : c = a
      · exact hc
      · exact (z (off c hc)).elim
theorem walk_ofG {l : PySem.W.OpenLaw} {n k : Nat} {q : Program} {loose : List Str} {XP : (Str → Option Value) → Heap → Prop} {YP : World → Heap → Prop} {d : DefRec} {CX : World → CXT} {x : Str}
    (hn : l.most = some n) (hn2 : n ≤ sizeLine) (hdf : d.params.defaults = []) (room : DL.Room k callerA)
    (F : ∀ (w : World) (mg : Str → Option Value) (fa : Addr) (h : Heap), YP w h → h.Ns mainGlobals mg → mg d.name = some (.ref fa) →
      ∃ (K : PySem.W.Frag) (fd : FuncData) (sp : Sp), K.In h ∧ (∀ (s : Shared) (u : Value), BindsTo s fd ⟨[u], []⟩ [(x, u)]) ∧
        (∀ (H : Hp) (a : Addr) (ns : List Int), ns.length ≤ n → L2.Only H → SqL K H a (ns.map V.int) → sp [.ref a] H (fun v _ => v = .bl true) fun _ _ _ => False) ∧
        ∀ base : Heap, K.In base → base.Ns mainGlobals mg → DL.FnOk l.prog w K mg base (CX w) k fa fd [x] sp)
    (noEx : ∀ (w : World) (H : Hp) (s : Shared) (e : Value) (s' : Shared), CX w [] H s (fun _ _ _ => False) e s' → False) :
    PySem.W.WalkO q loose XP YP l.row.toRowW d [] (fun f vs => PySem.call f vs) := by
  refine Att.attach_call hn hdf ?_
  intro w _ t mg _ fa _ _ _ _ a us ns G Y _ _ _ hmg scr isI many gns
  obtain ⟨K, fd, sp, inK, bi, want, hF⟩ := F w mg fa _ Y G.T.g hmg
  exact law_run inK G.T.g G.T.b G.T.builtins G.T.nolimit gns scr isI (Nat.le_trans many hn2) room hF bi (fun H hO hS => want H a ns many hO hS) fun H e s' => noEx w H t e s'
end DL

/-! ## DLg -/
set_option Elab.async false
set_option linter.all false
set_option maxRecDepth 100000
set_option maxHeartbeats 4000000
namespace DL
open PySem PySem.Spec PyProof.Rows L2

/-! ### defs -/
abbrev Fn := List D → Sto → R D
def spD (K : PySem.W.Frag) (mg : Str → Option Value) (n : Nat) (F : Fn) : Sp := fun vs H Q E => ∃ B m S ds, Rl K mg B m H S ∧ RepA K H (Fo B m S) m vs ds ∧ vs.length = n ∧ fin K mg (fun cls dd _ H' => E cls dd H') B m S [] H (F ds S) Q
/-- a def's body -/
def fnB (n : Nat) (b : Sx) : Fn := fun ds S => match b (ds.map some ++ List.replicate (n - ds.length) none) S with
  | .fl (.nx _) S' => .ok .non S'
  | .fl (.rt d) S' => .ok d S'
  | .exc c p _ S' => .exc c p S'
  | _ => .bad
section
variable {K : PySem.W.Frag} {mg : Str → Option Value} {H : Hp} {Fb : Addr → Prop} {m : List Addr}
theorem repE_start {N : List Str} {vs : List V} {ds : List D} (q : RepA K H Fb m vs ds) : RepE K H Fb m (L2.start N vs) (ds.map some ++ List.replicate (N.length - ds.length) none) := by
  have hl := q.length
  refine ⟨by simp [L2.start, hl], fun i d e => ?_⟩
  by_cases hi : i < ds.length
  · rw [List.getElem?_append_left (by simpa using hi)] at e
    rw [List.getElem?_map] at e
    cases e1 : ds[i]? with
    | none => rw [e1] at e; cases e
    | some d' =>
      rw [e1] at e
      cases e
      obtain ⟨v, ev, r⟩ := q.get e1
      refine ⟨v, ?_, r⟩
      unfold L2.start
      rw [List.getElem?_append_left (by simp [hl]; exact hi), List.getElem?_map, ev]
      rfl
  · rw [List.getElem?_append_right (by simpa using hi)] at e
    rw [List.getElem?_replicate] at e
    split at e <;> cases e
end
section
variable {P : Program} {w : World} {K : PySem.W.Frag} {mg : Str → Option Value} {base : Heap}
/-- the wish of a def's body -/
abbrev WB (E : XK) : WX := fun c d _ H => E c d H
end
/-- a call -/
def eFn (F : Fn) (fs : List Ex) : Ex := fun ρ S => (evL fs ρ S).bind fun ds S => F ds S
section
variable {X : Cx} {W : WX} {f : Addr} {fd : FuncData} {ps : List Str} {n k : Nat} {F : Fn} {x : Str} {p pos : Pos} {e : Expr} {es : List Expr} {fs : List Ex}
theorem fin_call {K : PySem.W.Frag} {mg : Str → Option Value} {B : Addr → Prop} {m : List Addr} {S : Sto} {σ : L2.St} {H : Hp} {Q : VK} {r : R D} (h : fin K mg W B m S σ H r Q) : fin K mg (fun cls dd _ H' => WE W σ cls dd H') B m S [] H r Q := by
  cases r with
  | ok d S' => exact h
  | exc c p S' => exact h
  | bad => exact h
theorem ev_fn (FO : DL.FnOk X.prog X.w X.K X.mg X.base (L2.CX X.prog X.w) k f fd ps (spD X.K X.mg n F)) (hr : DL.Room k X.A) (hg : Gl X x) (hm : X.mg x = some (.ref f)) (hk : PySem.W.keepIn X.K (.ref f) = true) (hb : Binds X.K fd ps []) (tk : Takes X W)
    (ha : EVA X W (e :: es) fs) (hn : fs.length = n) (hdb : (x == ("__debug__" : Str)) = false := by decide) (he : starEach (e :: es) X.env = (false, eval e X.env) :: starEach es X.env := by rfl) (hpl : (backTo pos (starEach es X.env)).any (·.1) = false := by rfl) :
    EV X W (.Call (.Name x p) (e :: es) [] pos) (eFn F fs) := by
  refine pe_imp (pe_callD1 FO hr hg hm hk hb (fun σ => passAt tk σ) ha hdb he hpl) fun σ H Q h => ?_
  obtain ⟨B, m, ρ, S, r, re, g⟩ := h
  refine ⟨B, m, ρ, S, r, re, ?_⟩
  -- the number of arguments
  have hl : ∀ (fs : List Ex) (ρ : Ev) (S S' : Sto) (ds : List D), evL fs ρ S = .ok ds S' → ds.length = fs.length := by
    intro fs
    induction fs with
    | nil => intro ρ S S' ds e; unfold evL at e; cases e; rfl
    | cons f fs ih =>
      intro ρ S S' ds e
      unfold evL at e
      cases e1 : f ρ S with
      | bad => rw [e1] at e; cases e
      | exc c p S1 => rw [e1] at e; cases e
      | ok d S1 =>
        rw [e1] at e
        simp only [R.bind] at e
        cases e2 : evL fs ρ S1 with
        | bad => rw [e2] at e; cases e
        | exc c p S1 => rw [e2] at e; cases e
        | ok ds2 S2 =>
          rw [e2] at e
          cases e
          simp [ih ρ S1 _ ds2 e2]
  have g' : fin X.K X.mg W B m S σ H ((evL fs ρ S).bind fun ds S => F ds S) Q := g
  cases e1 : evL fs ρ S with
  | bad => rw [e1] at g'; exact g'.elim
  | exc c p S1 => rw [e1] at g'; exact g'
  | ok ds S1 =>
    rw [e1] at g'
    exact fun m1 H1 vs p q => ⟨B, m1, S1, ds, p.rl, q, by rw [q.length, hl _ _ _ _ _ e1, hn], fin_call (fin.later p g')⟩
end
mutual
def noRef : D → Bool
  | .ref _ => false
  | .tup xs => noRefs xs
  | .lst xs => noRefs xs
  | .dic _ kvs => noRefK kvs
  | _ => true
def noRefs : List D → Bool
  | [] => true
  | d :: ds => noRef d && noRefs ds
def noRefK : List (D × D) → Bool
  | [] => true
  | (a, b) :: ds => noRef b && noRefK ds
end
/-- a def that asks and tells plain data: run apart -/
def fnP (F : Fn) : Fn := fun ds S => if noRefs ds = true then match F ds [] with
  | .ok d _ => if noRef d = true then .ok d S else .bad
  | .exc c p _ => if noRef p = true then .exc c p S else .bad
  | .bad => .bad else .bad
section
variable {K : PySem.W.Frag} {mg : Str → Option Value} {H : Hp} {Fb Fb' : Addr → Prop} {m m' : List Addr}
mutual
theorem Rep.noRef (hf : ∀ a, Fb' a → Fb a) : ∀ {v : V} {d : D}, Rep K H Fb m v d → noRef d = true → Rep K H Fb' m' v d
  | _, _, .non, _ => .non
  | _, _, .bl b, _ => .bl b
  | _, _, .int i, _ => .int i
  | _, _, .str x, _ => .str x
  | _, _, .tup h z r, e => .tup h z (RepA.noRef hf r (by simpa [DL.noRef] using e))
  | _, _, .lst h f z r, e => .lst h (fun y => f (hf _ y)) z (RepA.noRef hf r (by simpa [DL.noRef] using e))
  | _, _, .dK h z q r, e => .dK h z q (RepA.noRef hf r (noRefK_vals _ (by simpa [DL.noRef] using e)))
  | _, _, .dT h z q r, e => .dT h z q (RepA.noRef hf r (noRefK_vals _ (by simpa [DL.noRef] using e)))
  | _, _, .ref h, e => by simp [DL.noRef] at e
  | _, _, .raw v, _ => .raw v
  | _, _, .scr h z, _ => .scr (h.imp (fun h => ⟨h.1, fun y => h.2 (hf _ y)⟩) id) z
theorem RepA.noRef (hf : ∀ a, Fb' a → Fb a) : ∀ {vs : List V} {ds : List D}, RepA K H Fb m vs ds → noRefs ds = true → RepA K H Fb' m' vs ds
  | _, _, .nil, _ => .nil
  | _, _, .cons h r, e => by
    have e' := Bool.and_eq_true_iff.mp (by simpa [DL.noRefs] using e : (DL.noRef _ && DL.noRefs _) = true)
    exact .cons (Rep.noRef hf h e'.1) (RepA.noRef hf r e'.2)
theorem noRefK_vals : ∀ (kvs : List (D × D)), noRefK kvs = true → noRefs (kvs.map (·.2)) = true
  | [], _ => by simp [noRefs]
  | (a, b) :: r, e => by
    simp only [noRefK, Bool.and_eq_true] at e
    simp [noRefs, e.1, noRefK_vals r e.2]
end
/-- run apart: what a caller sees -/
theorem Post.apart {B : Addr → Prop} {m m' : List Addr} {S S' : Sto} {H H' : Hp} (r : Rl K mg B m H S) (p : Post K mg (Fo B m S) [] [] H m' S' H') : Post K mg B m S H m S H' ∧ ∀ v d, Rep K H' (Fo (Fo B m S) m' S') m' v d → DL.noRef d = true → Rep K H' (Fo B m S) m v d := by
  have sm : Same H H' := fun a o e => p.keep a o e fun ⟨n, o, e1, e2⟩ => by simp at e1
  exact ⟨Post.grow r sm, fun v d h e => h.noRef (fun a z => .inl z) e⟩
theorem spP_of {n : Nat} {F : Fn} (vs : List V) (H : Hp) (Q : VK) (E : XK) (h : spD K mg n (fnP F) vs H Q E) : spD K mg n F vs H Q E := by
  obtain ⟨B, m, S, ds, r, q, e, g⟩ := h
  unfold fnP at g
  split at g
  · rename_i hd
    refine ⟨Fo B m S, [], [], ds, ⟨rfl, List.nodup_nil, fun a ⟨n, o, e1, e2⟩ => by simp at e1, fun a z => ?_, fun a z => by simp at z, fun n a o e1 e2 => by simp at e1⟩, q.noRef (fun a z => z.elim id fun ⟨n, o, e1, e2⟩ => by simp at e1) hd, e, ?_⟩
    · intro z2
      exact fr_of r a z2 z
    · cases e1 : F ds [] with
      | bad => rw [e1] at g; exact g.elim
      | ok d S' =>
        rw [e1] at g
        dsimp only at g
        split at g
        · rename_i hn
          intro m' H' v p rv
          obtain ⟨p2, k⟩ := Post.apart r p
          exact g m H' v p2 (k v d rv hn)
        · exact g.elim
      | exc c pl S' =>
        rw [e1] at g
        dsimp only at g
        split at g
        · rename_i hn
          intro m' H' cls dd p x
          obtain ⟨p2, k⟩ := Post.apart r p
          refine g m H' cls dd p2 ?_
          obtain ⟨C, h1, h2, h3⟩ := x
          refine ⟨C, h1, h2, h3.imp id ?_⟩
          rintro ⟨a, f, v, h4, h5, h6⟩
          exact ⟨a, f, v, h4, h5, k v pl h6 hn⟩
        · exact g.elim
  · exact g.elim
end

/-! ### comprehensions -/
def R.nox {α : Type} : R α → R α
  | .ok a S => .ok a S
  | _ => .bad
def wipeD (ρ : Ev) : List Nat → Ev
  | [] => ρ
  | v :: vs => (wipeD ρ vs).set v none
def compL (t : Tg) (tt : Tx) (e : Ex) (vs : List Nat) : List D → Ev → Sto → List D → R (List D)
  | [], _, S, acc => .ok acc S
  | d :: ds, ρ, S, acc => match t.put d (wipeD ρ vs) with
    | none => .bad
    | some ρ1 => (tt ρ1 S).nox.bind fun b S => if b = true then (e ρ1 S).nox.bind fun y S => if acc.length < sizeLine then compL t tt e vs ds ρ S (acc ++ [y]) else .bad else compL t tt e vs ds ρ S acc
def tYesX : Tx := fun _ S => .ok true S
def eComp (it : Ix) (t : Tg) (tt : Tx) (e : Ex) (vs : List Nat) : Ex := fun ρ S => (it ρ S).bind fun xs S => (compL t tt e vs xs ρ S []).bind fun acc S => .ok (.lst acc) S
/-- .. of a list that will be written -/
def eCompM (it : Ix) (t : Tg) (tt : Tx) (e : Ex) (vs : List Nat) : Ex := fun ρ S => (it ρ S).bind fun xs S => (compL t tt e vs xs ρ S []).bind fun acc S => .ok (.ref S.length) (S ++ [some (.lst acc)])
theorem tg_puts_len : ∀ (ts : List Tg) {ds : List D} {ρ ρ' : Ev}, Tg.puts ts ds ρ = some ρ' → ts.length = ds.length
  | [], [], _, _, _ => rfl
  | [], _ :: _, _, _, e => by simp [Tg.puts] at e
  | _ :: _, [], _, _, e => by simp [Tg.puts] at e
  | t :: ts, d :: ds, ρ, ρ', e => by
    simp only [Tg.puts] at e
    split at e
    · rename_i ρ1 e1
      simp [tg_puts_len ts e]
    · cases e
mutual
def Tg.sl : Tg → List Nat
  | .nm i => [i]
  | .tp ts => Tg.sls ts
def Tg.sls : List Tg → List Nat
  | [] => []
  | t :: ts => t.sl ++ Tg.sls ts
end
section
variable {K : PySem.W.Frag} {H : Hp} {Fb : Addr → Prop} {m : List Addr}
mutual
theorem Tg.rd_okP {A : L2.St → Prop} : ∀ (t : Tg) {v : V} {d : D} {σ : L2.St} {ρ ρ' : Ev} {Q : L2.St → Hp → Prop}, (∀ σ i v, i ∈ t.sl → A σ → A (σ.set i (some v))) → t.put d ρ = some ρ' → Rep K H Fb m v d → RepE K H Fb m σ ρ → A σ → (∀ σ', RepE K H Fb m σ' ρ' → A σ' → Q σ' H) → Tg.rd K t v σ H Q
  | .nm i, v, d, σ, ρ, ρ', Q, hA, e, r, re, a, q => by
    simp only [Tg.put, Option.some.injEq] at e
    subst e
    exact q _ (re.set r) (hA _ _ _ (by simp [Tg.sl]) a)
  | .tp ts, v, d, σ, ρ, ρ', Q, hA, e, r, re, a, q => by
    cases d with
    | tup ds =>
      cases r with
      | tup h z rr =>
        have e' : Tg.puts ts ds ρ = some ρ' := by simpa [Tg.put] using e
        exact ⟨_, _, rfl, h, by rw [rr.length]; exact (tg_puts_len ts e').symm, Tg.rds_okP ts (by simpa [Tg.sl] using hA) e' rr re a q⟩
    | _ => simp [Tg.put] at e
theorem Tg.rds_okP {A : L2.St → Prop} : ∀ (ts : List Tg) {vs : List V} {ds : List D} {σ : L2.St} {ρ ρ' : Ev} {Q : L2.St → Hp → Prop}, (∀ σ i v, i ∈ Tg.sls ts → A σ → A (σ.set i (some v))) → Tg.puts ts ds ρ = some ρ' → RepA K H Fb m vs ds → RepE K H Fb m σ ρ → A σ → (∀ σ', RepE K H Fb m σ' ρ' → A σ' → Q σ' H) → Tg.rds K ts vs σ H Q
  | [], vs, ds, σ, ρ, ρ', Q, hA, e, r, re, a, q => by
    cases ds with
    | nil =>
      cases r
      simp only [Tg.puts, Option.some.injEq] at e
      subst e
      exact ⟨rfl, q σ re a⟩
    | cons _ _ => simp [Tg.puts] at e
  | t :: ts, vs, ds, σ, ρ, ρ', Q, hA, e, r, re, a, q => by
    cases ds with
    | nil => simp [Tg.puts] at e
    | cons d ds =>
      cases r with
      | cons r rr =>
        simp only [Tg.puts] at e
        split at e
        · rename_i ρ1 e1
          exact ⟨_, _, rfl, Tg.rd_okP t (fun σ i v h => hA σ i v (by simp [Tg.sls, h])) e1 r re a fun σ' re' a' => Tg.rds_okP ts (fun σ i v h => hA σ i v (by simp [Tg.sls, h])) e rr re' a' q⟩
        · cases e
end
theorem wipe_get (σ : L2.St) : ∀ (vs : List Nat) (j : Nat), (wipe σ vs)[j]? = if j ∈ vs ∧ j < σ.length then some none else σ[j]?
  | [], j => by simp [wipe]
  | v :: vs, j => by
    unfold wipe
    rw [List.getElem?_set, wipe_get σ vs j, wipe_length]
    by_cases h1 : v = j
    · subst h1
      by_cases h2 : v < σ.length <;> simp [h2]
    · have : ¬ j = v := fun e => h1 e.symm
      simp [h1, this]
theorem wipe_set {σ : L2.St} {vs : List Nat} {i : Nat} {v : Option V} (h : i ∈ vs) : wipe (σ.set i v) vs = wipe σ vs := by
  apply List.ext_getElem?
  intro j
  rw [wipe_get, wipe_get]
  by_cases h1 : j = i
  · subst h1
    by_cases h2 : j < σ.length <;> simp [h, h2]
  · rw [List.getElem?_set_ne (Ne.symm h1)]
    simp
theorem wipeD_get (ρ : Ev) : ∀ (vs : List Nat) (j : Nat) d, (wipeD ρ vs)[j]? = some (some d) → ρ[j]? = some (some d) ∧ j ∉ vs
  | [], j, d, h => by simpa [wipeD] using h
  | v :: vs, j, d, h => by
    unfold wipeD at h
    rw [List.getElem?_set] at h
    split at h
    · split at h <;> simp at h
    · rename_i hj
      have := wipeD_get ρ vs j d h
      exact ⟨this.1, by simp; exact ⟨fun e => hj e.symm, this.2⟩⟩
theorem wipeD_length (ρ : Ev) : ∀ vs : List Nat, (wipeD ρ vs).length = ρ.length
  | [] => rfl
  | v :: vs => by unfold wipeD; rw [List.length_set, wipeD_length ρ vs]
theorem RepE.wipe {σ : L2.St} {ρ : Ev} (h : RepE K H Fb m σ ρ) (vs : List Nat) : RepE K H Fb m (L2.wipe σ vs) (wipeD ρ vs) := by
  refine ⟨by rw [wipe_length, wipeD_length]; exact h.1, fun i d e => ?_⟩
  obtain ⟨e1, e2⟩ := wipeD_get ρ vs i d e
  obtain ⟨v, ev, r⟩ := h.2 i d e1
  refine ⟨v, ?_, r⟩
  rw [wipe_get, if_neg (fun z => e2 z.1)]
  exact ev
end
abbrev W0 : WX := fun _ _ _ _ => False
theorem fin.nox {K : PySem.W.Frag} {mg : Str → Option Value} {W : WX} {B : Addr → Prop} {m : List Addr} {S : Sto} {σ : L2.St} {H : Hp} {r : R D} {Q : VK} (h : fin K mg W B m S σ H r.nox Q) : fin K mg W0 B m S σ H r Q := by
  cases r with
  | ok d S' => exact h
  | exc c p S' => exact h.elim
  | bad => exact h
theorem R.nox_ok {α β : Type} {r : R α} {g : α → Sto → R β} : (∃ a S, r = .ok a S ∧ r.nox.bind g = g a S) ∨ r.nox.bind g = .bad := by
  cases r with
  | ok a S => exact .inl ⟨a, S, rfl, rfl⟩
  | exc c p S => exact .inr rfl
  | bad => exact .inr rfl
/-- all but what is live: without the state's own rule -/
structure Pc (m : List Addr) (S : Sto) (H : Hp) (m' : List Addr) (S' : Sto) (H' : Hp) : Prop where
  ext : ∃ l, m' = m ++ l ∧ ∀ a, a ∈ l → H a = none
  keep : ∀ a o, H a = some o → ¬ Liv m S a → H' a = some o
  smm : ∀ a, H a ≠ none → H' a ≠ none
  liv : ∀ a, Liv m' S' a → Liv m S a ∨ H a = none
section
variable {K : PySem.W.Frag} {mg : Str → Option Value} {B : Addr → Prop} {m m' m1 m2 : List Addr} {S S' S1 S2 : Sto} {H H' H1 H2 : Hp}
theorem Post.pc (p : Post K mg B m S H m' S' H') : Pc m S H m' S' H' := ⟨p.ext, p.keep, p.smm, p.liv⟩
theorem Pc.trans (p : Pc m S H m1 S1 H1) (q : Pc m1 S1 H1 m2 S2 H2) : Pc m S H m2 S2 H2 := by
  refine ⟨?_, fun a o h hl => ?_, fun a h => q.smm a (p.smm a h), fun a h => ?_⟩
  · obtain ⟨l, e, f⟩ := p.ext
    obtain ⟨l', e', f'⟩ := q.ext
    refine ⟨l ++ l', by rw [e', e, List.append_assoc], fun a h => ?_⟩
    rcases List.mem_append.mp h with h | h
    · exact f a h
    · have z := f' a h
      cases q2 : H a with
      | none => rfl
      | some o => exact absurd z (p.smm a (by rw [q2]; simp))
  · refine q.keep a o (p.keep a o h hl) fun l1 => ?_
    rcases p.liv a l1 with z | z
    · exact hl z
    · rw [h] at z; cases z
  · rcases q.liv a h with z | z
    · exact p.liv a z
    · right
      cases q2 : H a with
      | none => rfl
      | some o => exact absurd z (p.smm a (by rw [q2]; simp))
/-- a place that is not ours is written: D was new -/
theorem Pc.over (p : Pc m S H m' S' H') {D : Addr} {o : HO} (hD : H D = none) : Pc m S H m' S' (upd H' D o) :=
  ⟨p.ext, fun a u h hl => by rw [upd_ne (ne_of_none h hD)]; exact p.keep a u h hl, fun a h => by
    by_cases e : a = D
    · subst e; rw [upd_same]; simp
    · rw [upd_ne e]; exact p.smm a h, p.liv⟩
/-- B and one place more -/
def BD (B : Addr → Prop) (D : Addr) : Addr → Prop := fun a => B a ∨ a = D
theorem kp_write {Fb : Addr → Prop} {D : Addr} {acc : List V} {o : HO} (hD : H D = some (.lst acc)) (hF : Fb D) : Kp H (upd H D o) Fb Fb m m := by
  have ne : ∀ a, ¬ Fb a → a ≠ D := fun a f e => f (e ▸ hF)
  refine ⟨fun a xs h f => by rw [upd_ne (ne a f)]; exact h, fun a u h f => ?_, fun a o f h => ?_, fun _ _ _ f => f, fun _ _ h => h⟩
  · unfold Rd; rw [upd_ne (ne a f)]; exact h
  · have : a ≠ D := by
      rintro rfl
      rw [hD] at h
      cases h
      exact f
    rw [upd_ne this]; exact h
theorem Rl.write {D : Addr} {acc : List V} {o : HO} (r : Rl K mg (BD B D) m H S) (hD : H D = some (.lst acc)) : Rl K mg (BD B D) m (upd H D o) S := by
  have kp : Kp H (upd H D o) (Fo (BD B D) m S) (Fo (BD B D) m S) m m := kp_write hD (.inl (.inr rfl))
  have nD : ∀ a, Liv m S a → a ≠ D := fun a h e => r.nb a h (.inr e)
  have sm : ∀ a, H a ≠ none → upd H D o a ≠ none := fun a h => by
    by_cases e : a = D
    · subst e; rw [upd_same]; simp
    · rw [upd_ne e]; exact h
  refine ⟨r.len, r.nod, r.nb, fun a h => sm a (r.bt a h), fun a h => sm a (r.mt a h), fun n a u e1 e2 => ?_⟩
  have na : a ≠ D := nD a ⟨n, u, e1, e2⟩
  cases r.obj n a u e1 e2 with
  | lst h z q => exact .lst (by rw [upd_ne na]; exact h) z (q.kp kp)
  | dK h z e q => exact .dK (by rw [upd_ne na]; exact h) z e (q.kp kp)
  | dT h z e q => exact .dT (by rw [upd_ne na]; exact h) z e (q.kp kp)
  | ins g h e q => exact .ins g (by rw [upd_ne na]; exact h) e (q.kp kp)
theorem kp_anti {Fb Fb' : Addr → Prop} (h : ∀ a, Fb' a → Fb a) : Kp H H Fb Fb' m m := ⟨fun _ _ h _ => h, fun _ _ h _ => h, fun _ _ _ h => h, fun a _ _ f z => f (h a z), fun _ _ h => h⟩
theorem Rl.less {B' : Addr → Prop} (r : Rl K mg B m H S) (h : ∀ a, B' a → B a) : Rl K mg B' m H S := by
  have kp : Kp H H (Fo B m S) (Fo B' m S) m m := kp_anti fun a z => z.imp (h a) id
  refine ⟨r.len, r.nod, fun a l z => r.nb a l (h a z), fun a z => r.bt a (h a z), r.mt, fun n a u e1 e2 => ?_⟩
  cases r.obj n a u e1 e2 with
  | lst h z q => exact .lst h z (q.kp kp)
  | dK h z e q => exact .dK h z e (q.kp kp)
  | dT h z e q => exact .dT h z e (q.kp kp)
  | ins g h e q => exact .ins g h e (q.kp kp)
/-- a new place D that is not ours -/
theorem kp_aside {D : Addr} {o : HO} (hD : H D = none) : Kp H (upd H D o) (Fo B m S) (Fo (BD B D) m S) m m := by
  have s := same_upd (o := o) hD
  refine ⟨fun a xs h _ => s _ _ h, fun a u h _ => h.elim (fun h => .inl (s _ _ h)) fun ⟨o, h⟩ => .inr ⟨o, s _ _ h⟩, fun a o _ h => s _ _ h, fun a u h f z => ?_, fun _ _ h => h⟩
  rcases z with (z | z) | z
  · exact f (.inl z)
  · obtain ⟨o, e⟩ := rd_some h
    rw [z, hD] at e; cases e
  · exact f (.inr z)
theorem Rl.aside (r : Rl K mg B m H S) {D : Addr} {o : HO} (hD : H D = none) : Rl K mg (BD B D) m (upd H D o) S := by
  have s := same_upd (o := o) hD
  have kp := kp_aside (B := B) (m := m) (S := S) (o := o) hD
  have sm : ∀ a, H a ≠ none → upd H D o a ≠ none := fun a h => by
    cases e : H a with
    | none => exact absurd e h
    | some o => rw [s _ _ e]; simp
  refine ⟨r.len, r.nod, fun a l z => ?_, fun a z => ?_, fun a h => sm a (r.mt a h), fun n a u e1 e2 => ?_⟩
  · rcases z with z | z
    · exact r.nb a l z
    · obtain ⟨n, u, e1, e2⟩ := l
      exact r.mt a (List.mem_of_getElem? e1) (z ▸ hD)
  · rcases z with z | z
    · exact sm a (r.bt a z)
    · rw [z, upd_same]; simp
  · cases r.obj n a u e1 e2 with
    | lst h z q => exact .lst (s _ _ h) z (q.kp kp)
    | dK h z e q => exact .dK (s _ _ h) z e (q.kp kp)
    | dT h z e q => exact .dT (s _ _ h) z e (q.kp kp)
    | ins g h e q => exact .ins g (s _ _ h) e (q.kp kp)
end

section
variable {X : Cx} {W : WX} {tg iter elt : Expr} {ifs : List Expr} {fi : Ix} {t : Tg} {tt : Tx} {fe : Ex} {scope : Scope} {own : List (Str × Nat)} {pos : Pos}
/-- the tests of a clause -/
def TVs (X : Cx) (W : WX) (ifs : List Expr) (f : Tx) : Prop := PTs X ifs (upT X.K X.mg W f)
theorem tvs_nil : TVs X W [] tYesX := ⟨fun pins s σ H Q I ⟨B, m, ρ, S, r, re, f⟩ => pts_nil.run pins s σ H Q I (f m H (Post.refl r))⟩
theorem tvs_one {c : Expr} (h : TV X W c tt) : TVs X W [c] tt := ⟨fun pins s σ H Q I q => (pts_one h).run pins s σ H Q I q⟩
theorem finI.bind {K : PySem.W.Frag} {mg : Str → Option Value} {B : Addr → Prop} {m : List Addr} {S : Sto} {σ : L2.St} {H : Hp} {Q : VK} {r : R (List D)} {g : List D → Sto → R D} (h : fin K mg W B m S σ H (r.bind g) Q) :
    finI K mg W B m S σ H r (fun J H1 => ∃ m1 S1 xs, Post K mg B m S H m1 S1 H1 ∧ ItR K H1 (Fo B m1 S1) m1 J xs ∧ fin K mg W B m1 S1 σ H1 (g xs S1) Q) := by
  cases r with
  | ok d S' => exact fun m' H' J p q => ⟨m', S', d, p, q, fin.later p h⟩
  | exc c p' S' => exact h
  | bad => exact h
theorem notin_ext {D : Addr} {m m' : List Addr} {H : Hp} {o : HO} (h : D ∉ m) (e : ∃ l, m' = m ++ l ∧ ∀ a, a ∈ l → H a = none) (hD : H D = some o) : D ∉ m' := by
  obtain ⟨l, e, f⟩ := e
  subst e
  intro z
  rcases List.mem_append.mp z with z | z
  · exact h z
  · rw [f D z] at hD; cases hD
/-- the walk of a comprehension, whatever is made of the list -/
theorem lc_of {K : PySem.W.Frag} {mg : Str → Option Value} {σ : L2.St} {H : Hp} {Q : VK} {vs : List Nat} {Fin : List D → Sto → R D} (hv : ∀ i ∈ t.sl, i ∈ vs) (h : up K mg W (fun ρ S => (fi ρ S).bind fun xs S => (compL t tt fe vs xs ρ S []).bind Fin) σ H Q)
    (hf : ∀ B m1 S1 H1 m2 S2 H2 D acc ds, Rl K mg B m1 H1 S1 → H1 D = none → Pc m1 S1 H1 m2 S2 H2 → Rl K mg (BD B D) m2 H2 S2 → H2 D = some (.lst acc) → RepA K H2 (Fo (BD B D) m2 S2) m2 acc ds → acc.length ≤ sizeLine → D ∉ m2 → fin K mg W B m1 S1 σ H1 (Fin ds S2) Q → Q (.ref D) H2) :
    tLc (upI K mg W fi) (Tg.rd K t) (upT K mg W0 tt) (up K mg W0 fe) vs σ H Q := by
  obtain ⟨B, m, ρ, S, r, re, f⟩ := h
  refine ⟨B, m, ρ, S, r, re, finI.mono (finI.bind f) fun J H1 => ?_⟩
  rintro ⟨m1, S1, xs, p1, itr, f1⟩ D hD
  have re1 := re.kp (p1.kp r)
  have k0 := kp_aside (B := B) (m := m1) (S := S1) (o := .lst []) hD
  refine ⟨fun i n H => n = xs.length - i ∧ i ≤ xs.length ∧ ∃ m2 S2 acc ds, Pc m1 S1 H1 m2 S2 H ∧ Kp H1 H (Fo B m1 S1) (Fo (BD B D) m2 S2) m1 m2 ∧ Rl K mg (BD B D) m2 H S2 ∧ H D = some (.lst acc) ∧ RepA K H (Fo (BD B D) m2 S2) m2 acc ds ∧ acc.length ≤ sizeLine ∧ D ∉ m2 ∧
      fin K mg W B m1 S1 σ H1 ((compL t tt fe vs (xs.drop i) ρ S2 ds).bind Fin) Q,
    ⟨xs.length, by simp, Nat.zero_le _, m1, S1, [], [], (Post.refl p1.rl).pc.over hD, k0, p1.rl.aside hD, upd_same, .nil, by simp, fun z => p1.rl.mt D z hD, by simpa using f1⟩, ?_⟩
  rintro i n H2 ⟨rfl, hi, m2, S2, acc, ds, pc, kp, rl, hacc, qa, za, nD, f2⟩
  obtain ⟨go, stop⟩ := itr H2 _ m2 kp
  by_cases hlt : i < xs.length
  · right
    refine ⟨(go i hlt).1, fun H' => ∃ m3 S3 acc ds, Pc m1 S1 H1 m3 S3 H' ∧ Kp H1 H' (Fo B m1 S1) (Fo (BD B D) m3 S3) m1 m3 ∧ Rl K mg (BD B D) m3 H' S3 ∧ H' D = some (.lst acc) ∧ RepA K H' (Fo (BD B D) m3 S3) m3 acc ds ∧ acc.length ≤ sizeLine ∧ D ∉ m3 ∧
      fin K mg W B m1 S1 σ H1 ((compL t tt fe vs (xs.drop (i + 1)) ρ S3 ds).bind Fin) Q, ?_, ?_⟩
    · rintro H' ⟨m3, S3, acc3, ds3, h3⟩
      exact ⟨_, by omega, rfl, hlt, m3, S3, acc3, ds3, h3⟩
    · intro x H3 y
      obtain ⟨d, ed, sm, rx⟩ := (go i hlt).2 x H3 y
      have p3 : Post K mg (BD B D) m2 S2 H2 m2 S2 H3 := Post.grow rl sm
      have kp3 := kp.trans (p3.kp rl)
      have ed' : xs[i] = d := by
        have := List.getElem?_eq_getElem hlt
        rw [this] at ed
        exact Option.some.inj ed
      rw [List.drop_eq_getElem_cons hlt, ed'] at f2
      unfold compL at f2
      cases e1 : t.put d (wipeD ρ vs) with
      | none => rw [e1] at f2; exact f2.elim
      | some ρ4 =>
        rw [e1] at f2
        dsimp only at f2
        refine Tg.rd_okP (A := fun σ' => L2.wipe σ' vs = L2.wipe σ vs) t (fun σ i v h1 h2 => by rw [wipe_set (hv i h1)]; exact h2) e1 rx ((re1.kp kp3).wipe vs) ?_ fun σ4 re4 a4 => ⟨a4, BD B D, m2, ρ4, S2, p3.rl, re4, ?_⟩
        · apply List.ext_getElem?
          intro j
          rw [wipe_get, wipe_get, wipe_length]
          by_cases h1 : j ∈ vs ∧ j < σ.length
          · simp [h1]
          · simp [h1]
        · -- the test
          rcases R.nox_ok (r := tt ρ4 S2) (g := fun b S => if b = true then (fe ρ4 S).nox.bind fun y S => if ds.length < sizeLine then compL t tt fe vs (xs.drop (i + 1)) ρ S (ds ++ [y]) else .bad else compL t tt fe vs (xs.drop (i + 1)) ρ S ds) with ⟨b, S5, e5, e6⟩ | e6
          · rw [e6] at f2
            rw [e5]
            intro m5 H5 p5
            have kp5 := kp3.trans (p5.kp p3.rl)
            have pc5 : Pc m1 S1 H1 m5 S5 H5 := (pc.trans p3.pc).trans p5.pc
            have hacc5 : H5 D = some (.lst acc) := p5.keep _ _ (p3.keep _ _ hacc fun z => rl.nb _ z (.inr rfl)) fun z => p3.rl.nb _ z (.inr rfl)
            have qa5 := (qa.kp (p3.kp rl)).kp (p5.kp p3.rl)
            have nD5 : D ∉ m5 := notin_ext nD p5.ext (p3.keep _ _ hacc fun z => rl.nb _ z (.inr rfl))
            cases b with
            | false =>
              rw [if_neg Bool.false_ne_true] at f2 ⊢
              exact ⟨m5, S5, acc, ds, pc5, kp5, p5.rl, hacc5, qa5, za, nD5, f2⟩
            | true =>
              rw [if_pos rfl] at f2 ⊢
              rcases R.nox_ok (r := fe ρ4 S5) (g := fun y S => if ds.length < sizeLine then compL t tt fe vs (xs.drop (i + 1)) ρ S (ds ++ [y]) else .bad) with ⟨y, S6, e7, e8⟩ | e8
              · rw [e8] at f2
                refine ⟨BD B D, m5, ρ4, S5, p5.rl, re4.kp (p5.kp p3.rl), ?_⟩
                rw [e7]
                intro m6 H6 v p6 rv
                have hacc6 : H6 D = some (.lst acc) := p6.keep _ _ hacc5 fun z => p5.rl.nb _ z (.inr rfl)
                split at f2
                · rename_i hz
                  have hl : acc.length = ds.length := qa.length
                  refine ⟨acc, hacc6, by rw [hl]; exact hz, m6, S6, acc ++ [v], ds ++ [y], (pc5.trans p6.pc).over hD, (kp5.trans (p6.kp p5.rl)).trans (kp_write hacc6 (.inl (.inr rfl))), p6.rl.write hacc6, upd_same, ?_, by simp; omega, notin_ext nD5 p6.ext hacc5, f2⟩
                  exact ((qa5.kp (p6.kp p5.rl)).append (.cons rv .nil)).kp (kp_write hacc6 (.inl (.inr rfl)))
                · exact f2.elim
              · rw [e8] at f2; exact f2.elim
          · rw [e6] at f2; exact f2.elim
  · left
    have hd : xs.drop i = [] := List.drop_eq_nil_of_le (by omega)
    rw [hd] at f2
    exact ⟨stop i (by omega), hf B m1 S1 H1 m2 S2 H2 D acc ds p1.rl hD pc rl hacc qa za nD f2⟩
theorem post_of_pc {K : PySem.W.Frag} {mg : Str → Option Value} {B : Addr → Prop} {m m' : List Addr} {S S' : Sto} {H H' : Hp} (p : Pc m S H m' S' H') (r : Rl K mg B m' H' S') : Post K mg B m S H m' S' H' := ⟨p.ext, p.keep, p.smm, r, p.liv⟩
theorem fo_bd {B : Addr → Prop} {D : Addr} {m : List Addr} {S : Sto} : ∀ a, Fo B m S a → Fo (BD B D) m S a := fun a z => z.imp .inl id
theorem ev_comp (hc : X.calm = true) (hN : X.N.Nodup) (hi : IV X W tg iter fi) (ok : BlkOk X.N X.env.scope scope own)
    (hg : ∀ (s : Shared) (H : Hp) (C : Addr) (cl : List (Str × Addr)) (fp : List Addr), GV (X.blk s H scope (compEnvC scope cl C X.env) fp) tg t) (ht : ∀ (s : Shared) (H : Hp) (C : Addr) (cl : List (Str × Addr)) (fp : List Addr), TVs (X.blk s H scope (compEnvC scope cl C X.env) fp) W0 ifs tt)
    (he : ∀ (s : Shared) (H : Hp) (C : Addr) (cl : List (Str × Addr)) (fp : List Addr), EV (X.blk s H scope (compEnvC scope cl C X.env) fp) W0 elt fe) (hv : ∀ i ∈ t.sl, i ∈ own.map (·.2) := by decide) (hs : ∀ x, foldedSetIterable iter X.env x = pure x := by intro _; rfl) :
    EV X W (.ListComp elt [⟨tg, iter, ifs, 0⟩] scope pos) (eComp fi t tt fe (own.map (·.2))) := by
  refine pe_imp (pe_lc (g := Tg.rd X.K t) (tt := upT X.K X.mg W0 tt) (te := up X.K X.mg W0 fe) hc hN hi ok hg ht he hs) fun σ H Q h => lc_of hv h fun B m1 S1 H1 m2 S2 H2 D acc ds r1 hD pc rl hacc qa za nD f => ?_
  have rl2 : Rl X.K X.mg B m2 H2 S2 := rl.less fun a z => .inl z
  have nf : ¬ Fo B m2 S2 D := by
    rintro (z | z)
    · exact r1.bt D z hD
    · exact rl.nb D z (.inr rfl)
  exact f m2 H2 _ (post_of_pc pc rl2) (.lst hacc nf za (qa.kp (kp_anti fo_bd)))
end
end DL

/-! ## DLh -/
set_option Elab.async false
set_option linter.all false
set_option maxRecDepth 100000
set_option maxHeartbeats 4000000
namespace DL
open PySem PySem.Spec PyProof.Rows L2

/-! ### data compared -/
mutual
def toP : D → Option PyData
  | .non => some .none
  | .bl b => some (.bool b)
  | .int i => some (.int i)
  | .str x => some (.str x)
  | .tup xs => (toPs xs).map .tuple
  | .lst xs => (toPs xs).map .list
  | _ => none
def toPs : List D → Option (List PyData)
  | [] => some []
  | d :: ds => match toP d, toPs ds with
    | some p, some ps => some (p :: ps)
    | _, _ => none
end
def eqS : D → D → Option Bool
  | .str x, .str y => some (decide (x = y))
  | _, _ => none
def eqB (a b : D) : Option Bool := match eqS a b with
  | some c => some c
  | none => match toP a, toP b with
    | some p, some q => if SeqAt.shaped p && SeqAt.shaped q then some (PyData.eqv p q) else none
    | _, _ => none
def eqD (a b : D) : Option D := (eqB a b).map .bl
def neD (a b : D) : Option D := (eqB a b).map fun c => .bl (!c)
section
variable {K : PySem.W.Frag} {H : Hp} {Fb : Addr → Prop} {m : List Addr}
mutual
theorem Rep.dp : ∀ {v : V} {d : D} {p : PyData}, Rep K H Fb m v d → toP d = some p → Dp K H v p
  | _, _, _, .non, e => by cases e; exact .non
  | _, _, _, .bl b, e => by cases e; exact .bl b
  | _, _, _, .int i, e => by cases e; exact .int i
  | _, _, _, .str x, e => by cases e; exact .str x
  | _, _, _, .tup (ds := ds) h z r, e => by
    cases e1 : toPs ds with
    | none => simp [toP, e1] at e
    | some ps => simp [toP, e1] at e; subst e; exact .tup h (RepA.dp r e1)
  | _, _, _, .lst (ds := ds) h f z r, e => by
    cases e1 : toPs ds with
    | none => simp [toP, e1] at e
    | some ps => simp [toP, e1] at e; subst e; exact .lst (SqL.of h) (RepA.dp r e1)
  | _, _, _, .dK h z q r, e => by simp [toP] at e
  | _, _, _, .dT h z q r, e => by simp [toP] at e
  | _, _, _, .ref h, e => by simp [toP] at e
  | _, _, _, .raw v, e => by simp [toP] at e
  | _, _, _, .scr h z, e => by simp [toP] at e
theorem RepA.dp : ∀ {vs : List V} {ds : List D} {ps : List PyData}, RepA K H Fb m vs ds → toPs ds = some ps → DpAll K H vs ps
  | _, _, _, .nil, e => by cases e; exact .nil
  | _, _, _, .cons (d := d) (ds := ds) h r, e => by
    cases e1 : toP d with
    | none => simp [toPs, e1] at e
    | some p =>
      cases e2 : toPs ds with
      | none => simp [toPs, e1, e2] at e
      | some ps => simp [toPs, e1, e2] at e; subst e; exact .cons (Rep.dp h e1) (RepA.dp r e2)
end
theorem Vw.dp {v : V} {d : D} {p : PyData} (h : Vw K H Fb m v d) (e : toP d = some p) : Dp K H v p := by
  cases h with
  | oth h => exact h.dp e
  | lst h z r =>
    rename_i ds
    cases e1 : toPs ds with
    | none => simp [toP, e1] at e
    | some ps => simp [toP, e1] at e; subst e; exact .lst (SqL.of h) (r.dp e1)
  | dK h z q r => simp [toP] at e
  | dT h z q r => simp [toP] at e
end
section
variable {X : Cx}
theorem eqS_some {a b : D} {c : Bool} (e : eqS a b = some c) : ∃ x y, a = .str x ∧ b = .str y ∧ c = decide (x = y) := by
  unfold eqS at e
  split at e
  · cases e
    exact ⟨_, _, rfl, rfl, rfl⟩
  · cases e
theorem eqB_some {a b : D} {c : Bool} (e : eqB a b = some c) : (∃ x y, a = .str x ∧ b = .str y ∧ c = decide (x = y)) ∨ ∃ p q, toP a = some p ∧ toP b = some q ∧ SeqAt.shaped p = true ∧ SeqAt.shaped q = true ∧ c = PyData.eqv p q := by
  unfold eqB at e
  split at e
  · rename_i e0
    cases e
    exact .inl (eqS_some e0)
  · right
    split at e
    · rename_i p q e1 e2
      split at e
      · rename_i h
        cases e
        have := Bool.and_eq_true_iff.mp h
        exact ⟨p, q, e1, e2, this.1, this.2, rfl⟩
      · cases e
    · cases e
theorem og_eq (hu : X.A.units + 64 < cLine) : OpR X (compareOp .Eq) (rG2 X.K eqD) := by
  intro pins s σ H x y v u Q I rx ry ⟨Fb, m, dx, dy, d, fr, vx, vy, e, k⟩
  obtain ⟨c, e1, rfl⟩ := Option.map_eq_some_iff.mp e
  rcases eqB_some e1 with ⟨a, b, rfl, rfl, rfl⟩ | ⟨p, q, a1, a2, a3, a4, rfl⟩
  · cases vx.asS
    cases vy.asS
    have e2 : decide (V.str a = V.str b) = decide (a = b) := by by_cases z : a = b <;> simp [z]
    exact op_eq pins s σ H _ _ v u Q I rx ry ⟨rfl, by rw [e2]; exact k H _ (Same.refl H) (.bl _)⟩
  exact op_eqD hu pins s σ H x y v u Q I rx ry ⟨p, q, vx.dp a1, vy.dp a2, a3, a4, k H _ (Same.refl H) (.bl _)⟩
theorem og_ne (hu : X.A.units + 64 < cLine) : OpR X (compareOp .NotEq) (rG2 X.K neD) := by
  intro pins s σ H x y v u Q I rx ry ⟨Fb, m, dx, dy, d, fr, vx, vy, e, k⟩
  obtain ⟨c, e1, rfl⟩ := Option.map_eq_some_iff.mp e
  rcases eqB_some e1 with ⟨a, b, rfl, rfl, rfl⟩ | ⟨p, q, a1, a2, a3, a4, rfl⟩
  · cases vx.asS
    cases vy.asS
    have e2 : decide (V.str a = V.str b) = decide (a = b) := by by_cases z : a = b <;> simp [z]
    exact op_ne pins s σ H _ _ v u Q I rx ry ⟨rfl, by rw [e2]; exact k H _ (Same.refl H) (.bl _)⟩
  exact op_neD hu pins s σ H x y v u Q I rx ry ⟨p, q, vx.dp a1, vy.dp a2, a3, a4, k H _ (Same.refl H) (.bl _)⟩
def ltD : D → D → Option D
  | .int i, .int j => some (.bl (decide (i < j)))
  | _, _ => none
def leD : D → D → Option D
  | .int i, .int j => some (.bl (decide (i ≤ j)))
  | _, _ => none
def gtD : D → D → Option D
  | .int i, .int j => some (.bl (decide (j < i)))
  | _, _ => none
def geD : D → D → Option D
  | .int i, .int j => some (.bl (decide (j ≤ i)))
  | _, _ => none
theorem og_lt : OpR X (compareOp .Lt) (rG2 X.K ltD) := og_int op_lt fun dx dy d e => by
  unfold ltD at e
  split at e
  · rename_i i j; cases e; exact ⟨i, j, _, rfl, rfl, rfl, fun H Q k => ⟨i, j, rfl, rfl, k _ fun _ _ _ => .bl _⟩⟩
  · cases e
theorem og_le : OpR X (compareOp .LtE) (rG2 X.K leD) := og_int op_le fun dx dy d e => by
  unfold leD at e
  split at e
  · rename_i i j; cases e; exact ⟨i, j, _, rfl, rfl, rfl, fun H Q k => ⟨i, j, rfl, rfl, k _ fun _ _ _ => .bl _⟩⟩
  · cases e
theorem og_gt : OpR X (compareOp .Gt) (rG2 X.K gtD) := og_int op_gt fun dx dy d e => by
  unfold gtD at e
  split at e
  · rename_i i j; cases e; exact ⟨i, j, _, rfl, rfl, rfl, fun H Q k => ⟨i, j, rfl, rfl, k _ fun _ _ _ => .bl _⟩⟩
  · cases e
theorem og_ge : OpR X (compareOp .GtE) (rG2 X.K geD) := og_int op_ge fun dx dy d e => by
  unfold geD at e
  split at e
  · rename_i i j; cases e; exact ⟨i, j, _, rfl, rfl, rfl, fun H Q k => ⟨i, j, rfl, rfl, k _ fun _ _ _ => .bl _⟩⟩
  · cases e
/-- is None -/
def isNonD : D → Option Bool
  | .non => some true
  | .bl _ => some false
  | .int _ => some false
  | .str _ => some false
  | .tup _ => some false
  | .lst _ => some false
  | .dic _ _ => some false
  | .ref _ => some false
  | .scr _ => some false
  | .raw _ => none
def isD (a b : D) : Option D := match b with
  | .non => (isNonD a).map .bl
  | _ => none
def isntD (a b : D) : Option D := match b with
  | .non => (isNonD a).map fun c => .bl (!c)
  | _ => none
theorem Rep.isNon {K : PySem.W.Frag} {H : Hp} {Fb : Addr → Prop} {m : List Addr} {v : V} {d : D} {c : Bool} (h : Rep K H Fb m v d) (e : isNonD d = some c) : decide (v = .non) = c := by
  cases h <;> simp [isNonD] at e <;> subst e <;> simp
theorem Vw.isNon {K : PySem.W.Frag} {H : Hp} {Fb : Addr → Prop} {m : List Addr} {v : V} {d : D} {c : Bool} (h : Vw K H Fb m v d) (e : isNonD d = some c) : decide (v = .non) = c := by
  cases h with
  | oth h => exact h.isNon e
  | _ => simp [isNonD] at e; subst e; simp
theorem og_is : OpR X (compareOp .Is) (rG2 X.K isD) := by
  intro pins s σ H x y v u Q I rx ry ⟨Fb, m, dx, dy, d, fr, vx, vy, e, k⟩
  unfold isD at e
  split at e
  · obtain ⟨c, e1, rfl⟩ := Option.map_eq_some_iff.mp e
    have : y = .non := by cases vy with | oth h => cases h; rfl
    subst this
    refine op_isN pins s σ H _ _ v u Q I rx ry ⟨rfl, ?_⟩
    rw [vx.isNon e1]
    exact k H _ (Same.refl H) (.bl _)
  · cases e
theorem og_isnt : OpR X (compareOp .IsNot) (rG2 X.K isntD) := by
  intro pins s σ H x y v u Q I rx ry ⟨Fb, m, dx, dy, d, fr, vx, vy, e, k⟩
  unfold isntD at e
  split at e
  · obtain ⟨c, e1, rfl⟩ := Option.map_eq_some_iff.mp e
    have : y = .non := by cases vy with | oth h => cases h; rfl
    subst this
    refine op_notN pins s σ H _ _ v u Q I rx ry ⟨rfl, ?_⟩
    rw [vx.isNon e1]
    exact k H _ (Same.refl H) (.bl _)
  · cases e
def negD : D → Option D
  | .int i => some (.int (-i))
  | _ => none
theorem og_neg : UnR X (unaryOp .USub) (rG1 X.K negD) := by
  intro pins s σ H x v Q I rx ⟨Fb, m, dx, d, fr, vx, e, k⟩
  unfold negD at e
  split at e
  · rename_i i
    cases e
    cases vx.asI
    exact un_neg pins s σ H _ v Q I rx ⟨i, rfl, k H _ (Same.refl H) (.int _)⟩
  · cases e

/-! ### subscripts -/
def ixD : D → D → Option D
  | .lst xs, .int i => atI xs i
  | .tup xs, .int i => atI xs i
  | .str z, .int i => if z.length ≤ sizeLine then (atI z.cps.toList i).map fun c => .str ⟨#[c]⟩ else none
  | .dic t kvs, y => dgetD (.dic t kvs) y
  | _, _ => none
theorem RepA.atI {K : PySem.W.Frag} {H : Hp} {Fb : Addr → Prop} {m : List Addr} {vs : List V} {ds : List D} (h : RepA K H Fb m vs ds) {i : Int} {d : D} (e : L2.atI ds i = some d) : ∃ v, L2.atI vs i = some v ∧ Rep K H Fb m v d := by
  unfold L2.atI at e ⊢
  rw [h.length]
  cases e1 : ixN ds.length i with
  | none => rw [e1] at e; cases e
  | some j =>
    rw [e1] at e
    obtain ⟨v, ev, r⟩ := h.get (i := j) e
    exact ⟨v, ev, r⟩
theorem og_ix (hu : X.A.units + 64 < cLine) : IxR X (rG2 X.K ixD) := by
  intro value slice pins s σ H x y v u Q I rx ry ⟨Fb, m, dx, dy, d, fr, vx, vy, e, k⟩ hs
  unfold ixD at e
  split at e
  · rename_i xs i
    obtain ⟨a, vs, rfl, h1, z1, q1⟩ := vx.asL
    cases vy.asI
    obtain ⟨w, ew, rw'⟩ := q1.atI e
    exact ix_list value slice pins s σ H _ _ v u Q I rx ry ⟨a, vs, i, w, rfl, rfl, SqL.of h1, ew, k H _ (Same.refl H) rw'⟩ hs
  · rename_i xs i
    obtain ⟨a, vs, rfl, h1, z1, q1⟩ := vx.asT
    cases vy.asI
    obtain ⟨w, ew, rw'⟩ := q1.atI e
    exact ix_tup value slice pins s σ H _ _ v u Q I rx ry ⟨a, vs, i, w, rfl, rfl, h1, ew, k H _ (Same.refl H) rw'⟩ hs
  · rename_i z i
    split at e
    · rename_i hz
      obtain ⟨c, e1, rfl⟩ := Option.map_eq_some_iff.mp e
      cases vx.asS
      cases vy.asI
      exact ix_str value slice pins s σ H _ _ v u Q I rx ry ⟨z, i, c, rfl, rfl, hz, e1, k H _ (Same.refl H) (.str _)⟩ hs
    · cases e
  · obtain ⟨a, w, rfl, g, rw'⟩ := dget_ok vx vy e
    exact ix_dict (by omega) value slice pins s σ H _ _ v u Q I rx ry ⟨a, w, rfl, g, k H _ (Same.refl H) rw'⟩ hs
  · cases e
theorem ev_ix {W : WX} {a b : Expr} {fa fb : Ex} {pos : Pos} (hu : X.A.units + 64 < cLine) (ha : EV X W a fa) (hb : EV X W b fb) (hs : PlainIx b := by exact fun _ _ => rfl) : EV X W (.Subscript a b pos) (eOp2 ixD fa fb) := pe_imp (pe_ix (og_ix hu) ha hb hs) fun σ H Q h => two_of h
/-- a slice's parts -/
def cutD (xs : List D) (lo hi : Option Int) : List D := (xs.drop (HT.sIx xs.length 0 lo)).take (HT.sIx xs.length xs.length hi - HT.sIx xs.length 0 lo)
def slD (d : D) (lo hi : Option Int) : Option D := match d with
  | .lst xs => some (.lst (cutD xs lo hi))
  | .tup xs => some (.tup (cutD xs lo hi))
  | .scr ns => some (.lst (cutD (ns.map .int) lo hi))
  | _ => none
def optI : D → Option Int
  | .int i => some i
  | _ => none
def ePart : Option Ex → Ev → Sto → R (Option Int)
  | none, _, S => .ok none S
  | some f, ρ, S => (f ρ S).bind fun d S => match d with
    | .int i => .ok (some i) S
    | _ => .bad
def eSl (a : Ex) (lo hi : Option Ex) : Ex := fun ρ S => (a ρ S).bind fun d S => (ePart lo ρ S).bind fun l S => (ePart hi ρ S).bind fun u S => ans S (slD (view S d) l u)
def rGsl (K : PySem.W.Frag) : V → Option Int → Option Int → Hp → VK → Prop := fun x lo hi H Q => ∃ Fb m dx d, (∀ p, H p = none → ¬ Fb p) ∧ Vw K H Fb m x dx ∧ slD dx lo hi = some d ∧ ∀ H' z, Same H H' → Rep K H' Fb m z d → Q z H'
theorem RepA.cut {K : PySem.W.Frag} {H : Hp} {Fb : Addr → Prop} {m : List Addr} {vs : List V} {ds : List D} (h : RepA K H Fb m vs ds) (lo hi : Option Int) : RepA K H Fb m (cutV vs lo hi) (cutD ds lo hi) := by
  unfold cutV cutD
  rw [h.length]
  exact (h.drop _).take _
theorem repA_ints {K : PySem.W.Frag} {H : Hp} {Fb : Addr → Prop} {m : List Addr} : ∀ ns : List Int, RepA K H Fb m (ns.map V.int) (ns.map D.int)
  | [] => .nil
  | n :: ns => .cons (.int n) (repA_ints ns)
theorem og_sl : SlR X (rGsl X.K) := by
  intro pins s σ H x v vl vu lo hi sl Q I rx hs pl pu ⟨Fb, m, dx, d, fr, vx, e, k⟩
  unfold slD at e
  split at e
  · rename_i xs
    cases e
    obtain ⟨a, vs, rfl, h1, z1, q1⟩ := vx.asL
    refine sl_list pins s σ H _ v vl vu lo hi sl Q I rx hs pl pu ⟨a, vs, rfl, SqL.of h1, fun p hp => ?_⟩
    exact k _ _ (same_upd hp) (.lst upd_same (fr p hp) (Nat.le_trans (cutV_length _ _ _) z1) ((q1.cut lo hi).kp (kp_same (same_upd hp))))
  · rename_i xs
    cases e
    obtain ⟨a, vs, rfl, h1, z1, q1⟩ := vx.asT
    refine sl_tupA pins s σ H _ v vl vu lo hi sl Q I rx hs pl pu ⟨a, vs, rfl, h1, fun hw => ?_, fun _ p hp => ?_⟩
    · refine k H _ (Same.refl H) ?_
      have : cutD xs lo hi = xs := by
        unfold cutD
        rw [← q1.length, hw.1, hw.2]
        simp [q1.length]
      rw [this]
      exact .tup h1 z1 q1
    · exact k _ _ (same_upd hp) (.tup (.of upd_same) (Nat.le_trans (cutV_length _ _ _) z1) ((q1.cut lo hi).kp (kp_same (same_upd hp))))
  · rename_i ns
    cases e
    cases vx with
    | oth h =>
      cases h with
      | scr h z =>
        refine sl_list pins s σ H _ v vl vu lo hi sl Q I rx hs pl pu ⟨_, _, rfl, h.sq, fun p hp => ?_⟩
        exact k _ _ (same_upd hp) (.lst upd_same (fr p hp) (Nat.le_trans (cutV_length _ _ _) (by simpa using z)) (((repA_ints ns).cut lo hi).kp (kp_same (same_upd hp))))
  · cases e
section
variable {W : WX}
def finP (K : PySem.W.Frag) (mg : Str → Option Value) (W : WX) (B : Addr → Prop) (m : List Addr) (S : Sto) (σ : L2.St) (H : Hp) (r : R (Option Int)) (Q : Option Int → Hp → Prop) : Prop := match r with
  | .ok b S' => ∀ m' H', Post K mg B m S H m' S' H' → Q b H'
  | .exc c p S' => ∀ m' H' cls dd, Post K mg B m S H m' S' H' → XcR K mg H' (Fo B m' S') m' c p cls dd → W cls dd σ H'
  | .bad => False
theorem finP.bind {K : PySem.W.Frag} {mg : Str → Option Value} {B : Addr → Prop} {m : List Addr} {S : Sto} {σ : L2.St} {H : Hp} {r : R (Option Int)} {g : Option Int → Sto → R D} {Q : VK} (h : fin K mg W B m S σ H (r.bind g) Q) :
    finP K mg W B m S σ H r (fun b H1 => ∃ m1 S1, Post K mg B m S H m1 S1 H1 ∧ fin K mg W B m1 S1 σ H1 (g b S1) Q) := by
  cases r with
  | ok d S' => exact fun m' H' p => ⟨m', S', p, fin.later p h⟩
  | exc c p' S' => exact h
  | bad => exact h
def upP (K : PySem.W.Frag) (mg : Str → Option Value) (W : WX) (f : Option Ex) : TO := fun σ H Q => ∃ B m ρ S, Rl K mg B m H S ∧ RepE K H (Fo B m S) m σ ρ ∧ finP K mg W B m S σ H (ePart f ρ S) Q
theorem po_imp {e : Option Expr} {t t' : TO} (h : PO X e t) (k : ∀ σ H Q, t' σ H Q → t σ H Q) : PO X e t' := ⟨fun pins s σ H Q I q => h.run pins s σ H Q I (k σ H Q q)⟩
def PV (X : Cx) (W : WX) (e : Option Expr) (f : Option Ex) : Prop := PO X e (upP X.K X.mg W f)
theorem pv_none : PV X W none none := po_imp po_none fun σ H Q ⟨B, m, ρ, S, r, re, f⟩ => f m H (Post.refl r)
theorem pv_some {e : Expr} {f : Ex} (h : EV X W e f) : PV X W (some e) (some f) := by
  refine po_imp (po_some h) fun σ H Q h => ?_
  obtain ⟨B, m, ρ, S, r, re, g⟩ := h
  refine ⟨B, m, ρ, S, r, re, ?_⟩
  have g' : finP X.K X.mg W B m S σ H ((f ρ S).bind fun d S => match d with | .int i => .ok (some i) S | _ => .bad) Q := g
  cases e1 : f ρ S with
  | bad => rw [e1] at g'; exact g'
  | exc c p S1 => rw [e1] at g'; exact g'
  | ok d S1 =>
    rw [e1] at g'
    intro m1 H1 v p q
    cases d with
    | int i => cases q; exact ⟨i, rfl, g' m1 H1 p⟩
    | _ => exact g'.elim
theorem ev_sl {a : Expr} {lo hi : Option Expr} {fa : Ex} {fl fh : Option Ex} {pos p2 : Pos} (ha : EV X W a fa) (hl : PV X W lo fl) (hh : PV X W hi fh) : EV X W (.Subscript a (.Slice lo hi none p2) pos) (eSl fa fl fh) := by
  refine pe_imp (pe_slice og_sl ha hl hh) fun σ H Q h => ?_
  obtain ⟨B, m, ρ, S, r, re, f⟩ := up_one (g := fun d ρ S => (ePart fl ρ S).bind fun l S => (ePart fh ρ S).bind fun u S => ans S (slD (view S d) l u)) h
  refine ⟨B, m, ρ, S, r, re, f.mono fun x H1 => ?_⟩
  rintro ⟨B, m, ρ, S, dx, r, re, rx, f⟩
  have f1 := finP.bind f
  refine ⟨B, m, ρ, S, r, re, ?_⟩
  cases e1 : ePart fl ρ S with
  | bad => rw [e1] at f1; exact f1
  | exc c p S1 => rw [e1] at f1; exact f1
  | ok l S1 =>
    rw [e1] at f1
    intro m2 H2 p2
    obtain ⟨m3, S3, p3, f3⟩ := f1 m2 H2 p2
    have f4 := finP.bind f3
    refine ⟨B, m3, ρ, S3, p3.rl, re.kp (p3.kp r), ?_⟩
    cases e2 : ePart fh ρ S3 with
    | bad => rw [e2] at f4; exact f4
    | exc c p S1 => rw [e2] at f4; exact f4
    | ok u S4 =>
      rw [e2] at f4
      intro m5 H5 p5
      obtain ⟨m6, S6, p6, f6⟩ := f4 m5 H5 p5
      cases e3 : slD (view S6 dx) l u with
      | none => rw [e3] at f6; exact f6.elim
      | some d =>
        rw [e3] at f6
        exact ⟨_, m6, _, d, fr_of p6.rl, vw p6.rl ((rx.kp (p3.kp r)).kp (p6.kp p3.rl)), e3, fun H' z s q => f6.ok p6.rl s q⟩
end
end
end DL

/-! ## DLi -/
set_option Elab.async false
set_option linter.all false
set_option maxRecDepth 100000
set_option maxHeartbeats 4000000
namespace DL
open PySem PySem.Spec PyProof.Rows L2

/-! ### built-in calls -/
theorem VwA.one {K : PySem.W.Frag} {H : Hp} {Fb : Addr → Prop} {m : List Addr} {vs : List V} {d : D} (h : VwA K H Fb m vs [d]) : ∃ v, vs = [v] ∧ Vw K H Fb m v d := by
  cases h with
  | cons h t => cases t; exact ⟨_, rfl, h⟩
theorem VwA.two {K : PySem.W.Frag} {H : Hp} {Fb : Addr → Prop} {m : List Addr} {vs : List V} {d e : D} (h : VwA K H Fb m vs [d, e]) : ∃ v w, vs = [v, w] ∧ Vw K H Fb m v d ∧ Vw K H Fb m w e := by
  cases h with
  | cons h t => obtain ⟨w, rfl, h2⟩ := t.one; exact ⟨_, _, rfl, h, h2⟩
def lenD : List D → Option D
  | [.lst xs] => some (.int xs.length)
  | [.tup xs] => some (.int xs.length)
  | [.str x] => if x.length ≤ sizeLine then some (.int x.length) else none
  | [.scr ns] => some (.int ns.length)
  | [.dic false kvs] => some (.int kvs.length)
  | _ => none
section
variable {X : Cx}
theorem cg_len : CallR X (.builtin "len") (rGn X.K lenD) := by
  intro pins s σ H xs us Q I r ⟨Fb, m, ds, d, fr, vx, e, k⟩
  unfold lenD at e
  split at e
  · cases e
    obtain ⟨v, rfl, h⟩ := vx.one
    obtain ⟨a, vs, rfl, h1, z1, q1⟩ := h.asL
    refine call_len_seq pins s σ H _ us Q I r ⟨a, vs, rfl, .inl (SqL.of h1), ?_⟩
    rw [q1.length]
    exact k H _ (Same.refl H) (.int _)
  · cases e
    obtain ⟨v, rfl, h⟩ := vx.one
    obtain ⟨a, vs, rfl, h1, z1, q1⟩ := h.asT
    refine call_len_seq pins s σ H _ us Q I r ⟨a, vs, rfl, .inr h1, ?_⟩
    rw [q1.length]
    exact k H _ (Same.refl H) (.int _)
  · split at e
    · rename_i hz
      cases e
      obtain ⟨v, rfl, h⟩ := vx.one
      cases h.asS
      exact call_len_str pins s σ H _ us Q I r ⟨_, rfl, hz, k H _ (Same.refl H) (.int _)⟩
    · cases e
  · cases e
    obtain ⟨v, rfl, h⟩ := vx.one
    cases h with
    | oth h =>
      cases h with
      | scr h z =>
        refine call_len_seq pins s σ H _ us Q I r ⟨_, _, rfl, .inl h.sq, ?_⟩
        rw [List.length_map]
        exact k H _ (Same.refl H) (.int _)
  · cases e
    obtain ⟨v, rfl, h⟩ := vx.one
    obtain ⟨a, kv, rfl, h1, z1, q1⟩ := h.asD
    obtain ⟨w, rfl, rv⟩ := vals1 r
    obtain rfl : w = Value.ref a := rv
    refine d_len I h1 fun t s' I' => ⟨.int kv.length, H, I', ⟨_, rfl⟩, ?_⟩
    rw [q1.length]
    exact k H _ (Same.refl H) (.int _)
  · cases e
def max2D : List D → Option D
  | [.int i, .int j] => some (.int (if j > i then j else i))
  | _ => none
def min2D : List D → Option D
  | [.int i, .int j] => some (.int (if j < i then j else i))
  | _ => none
theorem cg_max2 (hc : X.calm = true) : CallR X (.builtin "max") (rGn X.K max2D) := by
  intro pins s σ H xs us Q I r ⟨Fb, m, ds, d, fr, vx, e, k⟩
  unfold max2D at e
  split at e
  · cases e
    obtain ⟨v, w, rfl, h1, h2⟩ := vx.two
    cases h1.asI; cases h2.asI
    exact call_max2 hc pins s σ H _ us Q I r ⟨_, _, rfl, k H _ (Same.refl H) (.int _)⟩
  · cases e
theorem cg_min2 (hc : X.calm = true) : CallR X (.builtin "min") (rGn X.K min2D) := by
  intro pins s σ H xs us Q I r ⟨Fb, m, ds, d, fr, vx, e, k⟩
  unfold min2D at e
  split at e
  · cases e
    obtain ⟨v, w, rfl, h1, h2⟩ := vx.two
    cases h1.asI; cases h2.asI
    exact call_min2 hc pins s σ H _ us Q I r ⟨_, _, rfl, k H _ (Same.refl H) (.int _)⟩
  · cases e
def intD : List D → Option D
  | [.int i] => some (.int i)
  | [.bl b] => some (.int (if b then 1 else 0))
  | _ => none
theorem cg_int : CallR X (.type "int") (rGn X.K intD) := by
  intro pins s σ H xs us Q I r ⟨Fb, m, ds, d, fr, vx, e, k⟩
  unfold intD at e
  split at e
  · cases e
    obtain ⟨v, rfl, h1⟩ := vx.one
    cases h1.asI
    exact call_int1 pins s σ H _ us Q I r (.inl ⟨_, rfl, k H _ (Same.refl H) (.int _)⟩)
  · cases e
    obtain ⟨v, rfl, h1⟩ := vx.one
    cases h1.asB
    exact call_int1 pins s σ H _ us Q I r (.inr ⟨_, rfl, k H _ (Same.refl H) (.int _)⟩)
  · cases e
/-- list(x), tuple(x) -/
def listD : List D → Option D
  | [.lst xs] => some (.lst xs)
  | [.tup xs] => some (.lst xs)
  | _ => none
def tupleD : List D → Option D
  | [.lst xs] => some (.tup xs)
  | [.tup xs] => some (.tup xs)
  | _ => none
theorem cg_list : CallR X (.type "list") (rGn X.K listD) := by
  intro pins s σ H xs us Q I r ⟨Fb, m, ds, d, fr, vx, e, k⟩
  unfold listD at e
  split at e
  · cases e
    obtain ⟨v, rfl, h⟩ := vx.one
    obtain ⟨a, vs, rfl, h1, z1, q1⟩ := h.asL
    exact call_list_of pins s σ H _ us Q I r ⟨a, vs, rfl, .inl (SqL.of h1), fun p hp => k _ _ (same_upd hp) (.lst upd_same (fr p hp) z1 (q1.kp (kp_same (same_upd hp))))⟩
  · cases e
    obtain ⟨v, rfl, h⟩ := vx.one
    obtain ⟨a, vs, rfl, h1, z1, q1⟩ := h.asT
    exact call_list_of pins s σ H _ us Q I r ⟨a, vs, rfl, .inr h1, fun p hp => k _ _ (same_upd hp) (.lst upd_same (fr p hp) z1 (q1.kp (kp_same (same_upd hp))))⟩
  · cases e
theorem cg_tuple : CallR X (.type "tuple") (rGn X.K tupleD) := by
  intro pins s σ H xs us Q I r ⟨Fb, m, ds, d, fr, vx, e, k⟩
  unfold tupleD at e
  split at e
  · cases e
    obtain ⟨v, rfl, h⟩ := vx.one
    obtain ⟨a, vs, rfl, h1, z1, q1⟩ := h.asL
    exact call_tuple_of pins s σ H _ us Q I r ⟨a, vs, rfl, .inl ⟨SqL.of h1, fun p hp => k _ _ (same_upd hp) (.tup (.of upd_same) z1 (q1.kp (kp_same (same_upd hp))))⟩⟩
  · cases e
    obtain ⟨v, rfl, h⟩ := vx.one
    obtain ⟨a, vs, rfl, h1, z1, q1⟩ := h.asT
    exact call_tuple_of pins s σ H _ us Q I r ⟨a, vs, rfl, .inr ⟨h1, k H _ (Same.refl H) (.tup h1 z1 q1)⟩⟩
  · cases e
/-- all, any of a list of truths -/
def asBs : List D → Option (List Bool)
  | [] => some []
  | .bl b :: ds => (asBs ds).map (b :: ·)
  | _ :: _ => none
def allD : List D → Option D
  | [.lst xs] => (asBs xs).map fun bs => .bl (bs.all id)
  | _ => none
def anyD : List D → Option D
  | [.lst xs] => (asBs xs).map fun bs => .bl (bs.any id)
  | _ => none
theorem asBs_vals {K : PySem.W.Frag} {H : Hp} {Fb : Addr → Prop} {m : List Addr} : ∀ {ds : List D} {vs : List V} {bs : List Bool}, asBs ds = some bs → RepA K H Fb m vs ds → vs = bs.map V.bl
  | [], _, _, e, r => by cases r; cases e; rfl
  | .bl b :: ds, _, _, e, r => by
    obtain ⟨cs, e1, rfl⟩ := Option.map_eq_some_iff.mp (show (asBs ds).map (b :: ·) = _ from e)
    cases r with
    | cons h t => cases h; rw [asBs_vals e1 t]; rfl
  | .non :: _, _, _, e, _ => by simp [asBs] at e
  | .int _ :: _, _, _, e, _ => by simp [asBs] at e
  | .str _ :: _, _, _, e, _ => by simp [asBs] at e
  | .tup _ :: _, _, _, e, _ => by simp [asBs] at e
  | .lst _ :: _, _, _, e, _ => by simp [asBs] at e
  | .dic _ _ :: _, _, _, e, _ => by simp [asBs] at e
  | .ref _ :: _, _, _, e, _ => by simp [asBs] at e
  | .raw _ :: _, _, _, e, _ => by simp [asBs] at e
  | .scr _ :: _, _, _, e, _ => by simp [asBs] at e
theorem cg_all (hc : X.calm = true) : CallR X (.builtin "all") (rGn X.K allD) := by
  intro pins s σ H xs us Q I r ⟨Fb, m, ds, d, fr, vx, e, k⟩
  unfold allD at e
  split at e
  · obtain ⟨bs, e1, rfl⟩ := Option.map_eq_some_iff.mp e
    obtain ⟨v, rfl, h⟩ := vx.one
    obtain ⟨a, vs, rfl, h1, z1, q1⟩ := h.asL
    rw [asBs_vals e1 q1] at h1
    exact cr_all hc pins s σ H _ us Q I r ⟨a, bs, rfl, SqL.of h1, k H _ (Same.refl H) (.bl _)⟩
  · cases e
theorem cg_any (hc : X.calm = true) : CallR X (.builtin "any") (rGn X.K anyD) := by
  intro pins s σ H xs us Q I r ⟨Fb, m, ds, d, fr, vx, e, k⟩
  unfold anyD at e
  split at e
  · obtain ⟨bs, e1, rfl⟩ := Option.map_eq_some_iff.mp e
    obtain ⟨v, rfl, h⟩ := vx.one
    obtain ⟨a, vs, rfl, h1, z1, q1⟩ := h.asL
    rw [asBs_vals e1 q1] at h1
    exact cr_any hc pins s σ H _ us Q I r ⟨a, bs, rfl, SqL.of h1, k H _ (Same.refl H) (.bl _)⟩
  · cases e
/-- sum of whole numbers -/
def asIs : List D → Option (List Int)
  | [] => some []
  | .int b :: ds => (asIs ds).map (b :: ·)
  | _ :: _ => none
theorem asIs_vals {K : PySem.W.Frag} {H : Hp} {Fb : Addr → Prop} {m : List Addr} : ∀ {ds : List D} {vs : List V} {bs : List Int}, asIs ds = some bs → RepA K H Fb m vs ds → vs = bs.map V.int
  | [], _, _, e, r => by cases r; cases e; rfl
  | .int b :: ds, _, _, e, r => by
    obtain ⟨cs, e1, rfl⟩ := Option.map_eq_some_iff.mp (show (asIs ds).map (b :: ·) = _ from e)
    cases r with
    | cons h t => cases h; rw [asIs_vals e1 t]; rfl
  | .non :: _, _, _, e, _ => by simp [asIs] at e
  | .bl _ :: _, _, _, e, _ => by simp [asIs] at e
  | .str _ :: _, _, _, e, _ => by simp [asIs] at e
  | .tup _ :: _, _, _, e, _ => by simp [asIs] at e
  | .lst _ :: _, _, _, e, _ => by simp [asIs] at e
  | .dic _ _ :: _, _, _, e, _ => by simp [asIs] at e
  | .ref _ :: _, _, _, e, _ => by simp [asIs] at e
  | .raw _ :: _, _, _, e, _ => by simp [asIs] at e
  | .scr _ :: _, _, _, e, _ => by simp [asIs] at e
def sumD : List D → Option D
  | [.lst xs] => (asIs xs).map fun ns => .int ns.sum
  | [.tup xs] => (asIs xs).map fun ns => .int ns.sum
  | _ => none
theorem sum_rawT {prog : Program} {w : World} {A : Around} {E : Value → Shared → Prop} {s : Shared} {l : Addr} {its : List Value} {ns : List Int} {Q : Value → Shared → Prop} (hh : A.handled = none) (hl : s.heap.IsTuple l its.toArray) (hi : IntsAre its ns)
    (h : ∀ h' tk t', (∀ b o, s.heap.get? b = some o → h'.get? b = some o) → Q (.int ns.sum t') { s with heap := h', toks := tk }) : wpAny (model prog w) A (call (.builtin "sum") [.ref l]) Q E s := by
  obtain ⟨xs, e⟩ := hi.allInts.items
  have hn : numsOf (intItems xs).toList = ns := by rw [← e]; exact hi.numsOf
  rw [nums_intItems] at hn
  rw [e] at hl
  refine PySem.W.ktm_sumG hh hl fun h' tk t' hk => ?_
  have := h h' tk t' hk
  rw [preSum_eq, List.take_of_length_le (by simp), hn]; exact this
theorem cg_sum (hc : X.calm = true) : CallR X (.builtin "sum") (rGn X.K sumD) := by
  intro pins s σ H xs us Q I r ⟨Fb, m, ds, d, fr, vx, e, k⟩
  unfold sumD at e
  split at e
  · obtain ⟨bs, e1, rfl⟩ := Option.map_eq_some_iff.mp e
    obtain ⟨v, rfl, h⟩ := vx.one
    obtain ⟨a, vs, rfl, h1, z1, q1⟩ := h.asL
    rw [asIs_vals e1 q1] at h1
    exact cr_sum hc pins s σ H _ us Q I r ⟨a, bs, rfl, SqL.of h1, k H _ (Same.refl H) (.int _)⟩
  · obtain ⟨bs, e1, rfl⟩ := Option.map_eq_some_iff.mp e
    obtain ⟨v, rfl, h⟩ := vx.one
    obtain ⟨a, vs, rfl, h1, z1, q1⟩ := h.asT
    rw [asIs_vals e1 q1] at h1
    obtain ⟨its, rv, hl, _⟩ := I.tuple h1
    rw [Vals.ref1 r]
    exact sum_rawT (I.ok.hd hc) (show s.heap.IsTuple a its.toArray from hl) rv.ints fun h' tk t' hk => ⟨.int _, H, I.kept hk, ⟨_, rfl⟩, k H _ (Same.refl H) (.int _)⟩
  · cases e
end

/-! ### isinstance -/
inductive PT where
  | int | bool | str | tuple | list | dict
def PT.nm : PT → String
  | .int => "int" | .bool => "bool" | .str => "str" | .tuple => "tuple" | .list => "list" | .dict => "dict"
def PT.isOf : PT → D → Option Bool
  | .int, .int _ => some true
  | .int, .bl _ => some true
  | .bool, .bl _ => some true
  | .str, .str _ => some true
  | .tuple, .tup _ => some true
  | .list, .lst _ => some true
  | .list, .scr _ => some true
  | .dict, .dic _ _ => some true
  | _, .ref _ => none
  | _, .raw _ => none
  | _, _ => some false
def kdOf : D → Option String
  | .non => some "NoneType" | .bl _ => some "bool" | .int _ => some "int" | .str _ => some "str" | .tup _ => some "tuple" | .lst _ => some "list" | .scr _ => some "list" | .dic _ _ => some "dict" | _ => none
theorem kit_isOf {t : PT} {d : D} {b : Bool} (h : t.isOf d = some b) : ∃ T, kdOf d = some T ∧ kitB T t.nm = some b := by
  cases d <;> cases t <;> simp [PT.isOf] at h <;> subst h <;> refine ⟨_, rfl, ?_⟩ <;> decide +kernel
section
variable {X : Cx}
theorem Vw.same {K : PySem.W.Frag} {H H' : Hp} {Fb : Addr → Prop} {m : List Addr} {v : V} {d : D} (h : Vw K H Fb m v d) (s : Same H H') : Vw K H' Fb m v d := by
  cases h with
  | lst h z r => exact .lst (s _ _ h) z (r.kp (kp_same s))
  | dK h z q r => exact .dK (h.imp (fun h => s _ _ h) fun ⟨o, h⟩ => ⟨o, s _ _ h⟩) z q (r.kp (kp_same s))
  | dT h z q r => exact .dT (h.imp (fun h => s _ _ h) fun ⟨o, h⟩ => ⟨o, s _ _ h⟩) z q (r.kp (kp_same s))
  | oth h => exact .oth (h.kp (kp_same s))
theorem Vw.kit {H : Hp} {Fb : Addr → Prop} {m : List Addr} {v : V} {d : D} {T : String} {pins : List (Addr × Obj)} {σ : L2.St} {s : Shared} {u : Value} (I : Inv X pins σ H s) (rx : RelV v u) (h : Vw X.K H Fb m v d) (e : kdOf d = some T) :
    ∃ P : Heap → Prop, PySem.W.KitX X.K u (.type T) P ∧ P s.heap ∧ u ≠ .builtin "__main__.__loader__#opaque" := by
  have of : TyX X.K H v (.type T) → ∃ P : Heap → Prop, PySem.W.KitX X.K u (.type T) P ∧ P s.heap ∧ u ≠ .builtin "__main__.__loader__#opaque" := fun t => kit_of I rx t
  have dT : ∀ {a : Addr} {kv : List (List Key × V)}, v = .ref a → Rd H a (.dT kv) → T = "dict" → ∃ P : Heap → Prop, PySem.W.KitX X.K u (.type T) P ∧ P s.heap ∧ u ≠ .builtin "__main__.__loader__#opaque" := fun {a kv} ev hd eT => by
    clear h
    subst eT ev
    rcases hd with hd | ⟨o, hd⟩
    · exact of (.base (.dT hd))
    · cases (show u = Value.ref a from rx)
      obtain ⟨_, _, _, xs, _, o, es, ep, h1, h2, _⟩ := (show ObjOk X.prog X.w H s.heap a (.frz o (.dT kv)) from I.hok a _ hd)
      exact ⟨_, PySem.W.kitx_dict, ⟨o, h1, h2.1⟩, fun z => nomatch z⟩
  cases h with
  | lst h z r => cases e; exact of (.base (.lst h))
  | dK h z q r => cases e; rcases h with h | ⟨o, h⟩; exact of (.base (.dK h)); exact of (.fDict h)
  | dT h z q r => cases e; exact dT rfl h rfl
  | oth h =>
    cases h with
    | non => cases e; exact of (.base .non)
    | bl b => cases e; exact of (.base (.bl b))
    | int b => cases e; exact of (.base (.int b))
    | str b => cases e; exact of (.base (.str b))
    | tup h z r =>
      cases e
      rcases h with (h | ⟨o, h⟩) | ⟨o, its, n, h, hc, _⟩
      · exact of (.base (.tup h))
      · exact of (.fTuple h)
      · exact of (.kTuple h hc)
    | lst h f z r => cases e; exact of (.base (.lst h))
    | dK h z q r => cases e; obtain ⟨o, h⟩ := h; exact of (.fDict h)
    | dT h z q r => cases e; exact dT rfl (.inr h) rfl
    | ref h => cases e
    | raw v => cases e
    | scr h z =>
      cases e
      rcases h with ⟨h | ⟨o, h⟩, _⟩ | ⟨o, its, n, h, hc, _⟩
      · exact of (.base (.lst h))
      · exact of (.base (.frz h))
      · exact of (.kList h hc)
/-- isinstance(e, T), T a built-in class by its name -/
def eIsi (t : PT) (a : Ex) : Ex := eOp1 (fun d => (t.isOf d).map .bl) a
def isOfs : List PT → D → Option Bool
  | [], _ => some false
  | t :: ts, d => match t.isOf d with
    | some true => some true
    | some false => isOfs ts d
    | none => none
def eIsis (ts : List PT) (a : Ex) : Ex := eOp1 (fun d => (isOfs ts d).map .bl) a
variable {W : WX} {e : Expr} {fa : Ex} {p p2 p3 pos : Pos}
theorem ev_isi {t : PT} {x : Str} (hg : Gl X "isinstance") (hm : X.mg "isinstance" = none) (hv : bootBuiltins "isinstance" = some (.builtin "isinstance")) (hx : Gl X x) (mx : X.mg x = none) (vx : bootBuiltins x = some (.type t.nm)) (ha : EV X W e fa)
    (he : starEach [e, .Name x p2] X.env = (false, eval e X.env) :: starEach [.Name x p2] X.env := by rfl) (hpl : (backTo pos (starEach [.Name x p2] X.env)).any (·.1) = false := by rfl) (h2 : starEach [.Name x p2] X.env = (false, eval (.Name x p2) X.env) :: starEach [] X.env := by rfl)
    (hn : x ≠ "__name__" := by decide) (hdb : (x == ("__debug__" : Str)) = false := by decide) : EV X W (.Call (.Name "isinstance" p) [e, .Name x p2] [] pos) (eIsi t fa) := by
  have hc : CallR X (.builtin "isinstance") (fun xs H Q => ∃ v, xs = [v, .ty t.nm] ∧ rG1 X.K (fun d => (t.isOf d).map .bl) v H Q) := by
    intro pins s σ H xs us Q I r ⟨v, ex, Fb, m, dx, d, fr, vx, e1, k⟩
    subst ex
    obtain ⟨b, e2, rfl⟩ := Option.map_eq_some_iff.mp e1
    obtain ⟨T, e3, e4⟩ := kit_isOf e2
    obtain ⟨u1, u2, rfl, r1, r2⟩ := vals2 r
    cases (show u2 = Value.type t.nm from r2)
    obtain ⟨P, Z, p, hx⟩ := vx.kit I r1 e3
    exact PySem.W.kia_one Z I.kIn p (kit_ty e4) hx fun tk => ⟨.bl b, H, I.tok tk, rfl, k H _ (Same.refl H) (.bl b)⟩
  refine pe_imp (pe_callB hc hg hm hv (pa_cons ha (pa_cons (pe_bltn (v := .ty t.nm) hx mx vx rfl hn hdb) pa_nil h2) he) (by decide) (by decide) he hpl) fun σ H Q h => ?_
  have h' := one_of (g := fun d => (t.isOf d).map .bl) h
  obtain ⟨B, m, ρ, S, r, re, f⟩ := h'
  exact ⟨B, m, ρ, S, r, re, f.mono fun x H1 q => ⟨x, rfl, q⟩⟩
/-- the classes of a written tuple -/
inductive NmT (X : Cx) : List Expr → List PT → Prop
  | nil : NmT X [] []
  | cons {x : Str} {p : Pos} {es : List Expr} {t : PT} {ts : List PT} : Gl X x → X.mg x = none → bootBuiltins x = some (.type t.nm) → x ≠ "__name__" → (x == ("__debug__" : Str)) = false → starEach (.Name x p :: es) X.env = (false, eval (.Name x p) X.env) :: starEach es X.env → NmT X es ts → NmT X (.Name x p :: es) (t :: ts)
theorem NmT.pa : ∀ {es : List Expr} {ts : List PT}, NmT X es ts → PA X es (fun σ H Q => Q (ts.map fun t => V.ty t.nm) H)
  | _, _, .nil => pa_nil
  | _, _, .cons hg hm hv hn hd hs h => pa_cons (pe_bltn (v := .ty _) hg hm hv rfl hn hd) (NmT.pa h) hs
theorem isOfs_kit {d : D} {T : String} (e : kdOf d = some T) : ∀ {ts : List PT} {b : Bool}, isOfs ts d = some b → PySem.W.kitAny X.K (.type T) (ts.map fun t => Value.type t.nm) = some b
  | [], b, h => by cases h; rfl
  | t :: ts, b, h => by
    unfold isOfs at h
    cases e1 : t.isOf d with
    | none => rw [e1] at h; cases h
    | some c =>
      rw [e1] at h
      obtain ⟨T', e3, e4⟩ := kit_isOf e1
      rw [e] at e3; cases e3
      cases c with
      | true =>
        cases h
        exact kitAny_cons (kit_ty e4) (fun z => by cases z) fun _ => rfl
      | false => exact kitAny_cons (kit_ty e4) (fun _ => isOfs_kit e h) fun z => by cases z
theorem isOf_kd {t : PT} {d : D} {b : Bool} (h : t.isOf d = some b) : ∃ T, kdOf d = some T := by
  obtain ⟨T, e, _⟩ := kit_isOf h
  exact ⟨T, e⟩
theorem ev_isis {ts : List PT} {t0 : PT} {es : List Expr} {kk : Nat} (hg : Gl X "isinstance") (hm : X.mg "isinstance" = none) (hv : bootBuiltins "isinstance" = some (.builtin "isinstance")) (hx : NmT X es (t0 :: ts)) (hz : (t0 :: ts).length ≤ 1000) (ha : EV X W e fa)
    (he : starEach [e, .Tuple es kk p2] X.env = (false, eval e X.env) :: starEach [.Tuple es kk p2] X.env := by rfl) (hpl : (backTo pos (starEach [.Tuple es kk p2] X.env)).any (·.1) = false := by rfl) (h2 : starEach [.Tuple es kk p2] X.env = (false, eval (.Tuple es kk p2) X.env) :: starEach [] X.env := by rfl) :
    EV X W (.Call (.Name "isinstance" p) [e, .Tuple es kk p2] [] pos) (eIsis (t0 :: ts) fa) := by
  have hc : CallR X (.builtin "isinstance") (fun xs H Q => ∃ v tp H0, xs = [v, .ref tp] ∧ H0 tp = none ∧ H = upd H0 tp (.tup ((t0 :: ts).map fun t => V.ty t.nm)) ∧ rG1 X.K (fun d => (isOfs (t0 :: ts) d).map .bl) v H0 Q) := by
    intro pins s σ H xs us Q I r ⟨v, tp, H0, ex, hp, eH, Fb, m, dx, d, fr, vx, e1, k⟩
    subst ex eH
    obtain ⟨b, e2, rfl⟩ := Option.map_eq_some_iff.mp e1
    have kd : ∃ T, kdOf dx = some T := by
      unfold isOfs at e2
      cases e3 : t0.isOf dx with
      | none => rw [e3] at e2; cases e2
      | some c => exact isOf_kd e3
    obtain ⟨T, e3⟩ := kd
    obtain ⟨u1, u2, rfl, r1, r2⟩ := vals2 r
    cases (show u2 = Value.ref tp from r2)
    have vx' : Vw X.K (upd H0 tp (.tup ((t0 :: ts).map fun t => V.ty t.nm))) Fb m v dx := by
      have s := same_upd (o := .tup ((t0 :: ts).map fun t => V.ty t.nm)) hp
      exact vx.same s
    obtain ⟨P, Z, p, hx⟩ := vx'.kit I r1 e3
    obtain ⟨_, its, rv, o, h1, h2, n, h3⟩ := (show ObjOk X.prog X.w _ s.heap tp (.tup ((t0 :: ts).map fun t => V.ty t.nm)) from I.hok tp _ upd_same)
    have e5 : its = (t0 :: ts).map fun t => Value.type t.nm := by
      have : ∀ (ts : List PT) (its : List Value), Vals (ts.map fun t => V.ty t.nm) its → its = ts.map fun t => Value.type t.nm := by
        intro ts
        induction ts with
        | nil => intro its h; cases h; rfl
        | cons t ts ih =>
          intro its h
          cases h with
          | cons h1 h2 =>
            rw [ih _ h2]
            rw [show _ = Value.type t.nm from h1]
            rfl
      exact this _ _ rv
    subst e5
    obtain ⟨oc, od, dt, sl⟩ := o
    simp only at h2 h3
    subst h2 h3
    exact PySem.W.kia_tup Z I.kIn p h1 (isOfs_kit e3 e2) hx fun tk => ⟨.bl b, _, I.tok tk, rfl, k _ _ (same_upd hp) (.bl b)⟩
  refine pe_imp (pe_callB hc hg hm hv (pa_cons ha (pa_cons (pe_tup hx.pa) pa_nil h2) he) (by decide) (by decide) he hpl) fun σ H Q h => ?_
  have h' := one_of (g := fun d => (isOfs (t0 :: ts) d).map .bl) h
  obtain ⟨B, m, ρ, S, r, re, f⟩ := h'
  refine ⟨B, m, ρ, S, r, re, f.mono fun x H1 q => ?_⟩
  refine ⟨by rw [List.length_map]; exact Nat.le_trans hz (by rw [sizeLine_eq]; decide), fun p hp => ?_⟩
  exact ⟨x, p, H1, rfl, hp, rfl, q⟩
end
end DL

/-! ## DLj -/
set_option Elab.async false
set_option linter.all false
set_option maxRecDepth 100000
set_option maxHeartbeats 4000000
namespace DL
open PySem PySem.Spec PyProof.Rows L2

/-! ### what is ours is written -/
section
variable {K : PySem.W.Frag} {mg : Str → Option Value} {B : Addr → Prop} {m : List Addr} {S : Sto} {H : Hp} {n : Nat} {a : Addr} {o o' : Ob} {ho : HO}
theorem liv_set (h2 : S[n]? = some (some o)) {x : Addr} : Liv m (S.set n (some o')) x ↔ Liv m S x := by
  have hn := (List.getElem?_eq_some_iff.mp h2).1
  constructor
  · rintro ⟨k, u, e1, e2⟩
    by_cases hk : k = n
    · subst hk; exact ⟨k, o, e1, h2⟩
    · rw [List.getElem?_set_ne (Ne.symm hk)] at e2; exact ⟨k, u, e1, e2⟩
  · rintro ⟨k, u, e1, e2⟩
    by_cases hk : k = n
    · subst hk; exact ⟨k, o', e1, List.getElem?_set_self hn⟩
    · exact ⟨k, u, e1, by rw [List.getElem?_set_ne (Ne.symm hk)]; exact e2⟩
theorem kp_upd (r : Rl K mg B m H S) (h1 : m[n]? = some a) (h2 : S[n]? = some (some o)) : Kp H (upd H a ho) (Fo B m S) (Fo B m (S.set n (some o'))) m m := by
  have hl : Liv m S a := ⟨n, o, h1, h2⟩
  have ne : ∀ x, ¬ Fo B m S x → x ≠ a := fun x f e => f (.inr (e ▸ hl))
  refine ⟨fun x xs h f => by rw [upd_ne (ne x f)]; exact h, fun x u h f => ?_, fun x o f h => ?_, fun x u h f z => ?_, fun _ _ h => h⟩
  · unfold Rd; rw [upd_ne (ne x f)]; exact h
  · have : x ≠ a := by
      rintro rfl
      exact (r.obj n _ _ h1 h2).not_fix f h
    rw [upd_ne this]; exact h
  · rcases z with z | z
    · exact f (.inl z)
    · exact f (.inr ((liv_set h2).mp z))
theorem Post.upd (r : Rl K mg B m H S) (h1 : m[n]? = some a) (h2 : S[n]? = some (some o)) (new : ObR K mg (L2.upd H a ho) (Fo B m (S.set n (some o'))) m a o') : Post K mg B m S H m (S.set n (some o')) (L2.upd H a ho) := by
  have hl : Liv m S a := ⟨n, o, h1, h2⟩
  have kp := kp_upd (ho := ho) (o' := o') r h1 h2
  have sm : ∀ x, H x ≠ none → L2.upd H a ho x ≠ none := fun x h => by
    by_cases e : x = a
    · subst e; rw [upd_same]; simp
    · rw [upd_ne e]; exact h
  refine ⟨⟨[], by simp, fun a h => by simp at h⟩, fun x u h f => ?_, sm, ⟨by rw [List.length_set]; exact r.len, r.nod, fun x h => r.nb x ((liv_set h2).mp h), fun x h => sm x (r.bt x h), fun x h => sm x (r.mt x h), fun k x u e1 e2 => ?_⟩, fun x h => .inl ((liv_set h2).mp h)⟩
  · have : x ≠ a := fun e => f (e ▸ hl)
    rw [upd_ne this]; exact h
  · by_cases hk : k = n
    · subst hk
      rw [h1] at e1; cases e1
      rw [List.getElem?_set_self (List.getElem?_eq_some_iff.mp h2).1] at e2
      cases e2
      exact new
    · rw [List.getElem?_set_ne (Ne.symm hk)] at e2
      have nx : x ≠ a := fun e => by
        subst e
        obtain ⟨l1, z1⟩ := List.getElem?_eq_some_iff.mp e1
        obtain ⟨l2, z2⟩ := List.getElem?_eq_some_iff.mp h1
        exact hk ((List.getElem_inj r.nod).mp (z1.trans z2.symm))
      cases r.obj k x u e1 e2 with
      | lst h z q => exact .lst (by rw [upd_ne nx]; exact h) z (q.kp kp)
      | dK h z e q => exact .dK (by rw [upd_ne nx]; exact h) z e (q.kp kp)
      | dT h z e q => exact .dT (by rw [upd_ne nx]; exact h) z e (q.kp kp)
      | ins g h e q => exact .ins g (by rw [upd_ne nx]; exact h) e (q.kp kp)
end
/-- a live list -/
def lstOf (S : Sto) : D → Option (Nat × List D)
  | .ref n => match S[n]? with
    | some (some (.lst xs)) => some (n, xs)
    | _ => none
  | _ => none
theorem lstOf_some {K : PySem.W.Frag} {mg : Str → Option Value} {B : Addr → Prop} {m : List Addr} {S : Sto} {H : Hp} {d : D} {n : Nat} {xs : List D} {v : V} (r : Rl K mg B m H S) (e : lstOf S d = some (n, xs)) (q : Rep K H (Fo B m S) m v d) :
    ∃ a vs, v = .ref a ∧ m[n]? = some a ∧ S[n]? = some (some (.lst xs)) ∧ H a = some (.lst vs) ∧ vs.length ≤ sizeLine ∧ RepA K H (Fo B m S) m vs xs := by
  cases d with
  | ref k =>
    simp only [lstOf] at e
    split at e
    · rename_i xs' e2
      cases e
      cases q with
      | ref e1 =>
        have ob := r.obj _ _ _ e1 e2
        cases ob with
        | lst h z q => exact ⟨_, _, rfl, e1, e2, h, z, q⟩
    · cases e
  | _ => simp [lstOf] at e
/-- a method that writes a list: from its items and the arguments the new items and the answer -/
def doMut (g : List D → List D → Option (List D × D)) (S : Sto) (d : D) (ds : List D) : R D := match lstOf S d with
  | none => .bad
  | some nx => match g nx.2 ds with
    | none => .bad
    | some yz => .ok yz.2 (S.set nx.1 (some (.lst yz.1)))
def eMeth (g : List D → List D → Option (List D × D)) (fo : Ex) (fs : List Ex) : Ex := fun ρ S => (fo ρ S).bind fun d S => if (lstOf S d).isSome = true then (evL fs ρ S).bind fun ds S => doMut g S d ds else .bad
def eMeth0 (g : List D → List D → Option (List D × D)) (fo : Ex) : Ex := fun ρ S => (fo ρ S).bind fun d S => doMut g S d []
def rMut (K : PySem.W.Frag) (g : List D → List D → Option (List D × D)) : V → List V → Hp → VK → Prop := fun x vs H Q => ∃ (mg : Str → Option Value) (B : Addr → Prop) (m : List Addr) (S : Sto) (n : Nat) (a : Addr) (ws : List V) (xs ds ys : List D) (z : D), x = .ref a ∧ Rl K mg B m H S ∧ m[n]? = some a ∧ S[n]? = some (some (.lst xs)) ∧ H a = some (.lst ws) ∧ ws.length ≤ sizeLine ∧ RepA K H (Fo B m S) m ws xs ∧ RepA K H (Fo B m S) m vs ds ∧ g xs ds = some (ys, z) ∧
  ∀ us v, us.length ≤ sizeLine → RepA K H (Fo B m S) m us ys → Rep K H (Fo B m S) m v z → Q v (upd H a (.lst us))
section
variable {X : Cx} {W : WX} {o e : Expr} {es : List Expr} {fo : Ex} {fs : List Ex} {name : Str} {apos cpos : Pos} {id : String} {g : List D → List D → Option (List D × D)}
theorem ty_lst {K : PySem.W.Frag} {H : Hp} {a : Addr} {vs : List V} (h : H a = some (.lst vs)) : tyV K "list" (.ref a) H := Or.inl ⟨rfl, _, Or.inl (Or.inl h)⟩
theorem mut_fin {K : PySem.W.Frag} {mg : Str → Option Value} {σ : L2.St} {B : Addr → Prop} {m : List Addr} {S : Sto} {H : Hp} {Q : VK} {d : D} {ds : List D} {x : V} {vs : List V} (r : Rl K mg B m H S) (rx : Rep K H (Fo B m S) m x d) (q : RepA K H (Fo B m S) m vs ds)
    (f : fin K mg W B m S σ H (doMut g S d ds) Q) : rMut K g x vs H Q := by
  unfold doMut at f
  cases e1 : lstOf S d with
  | none => rw [e1] at f; exact f.elim
  | some nx =>
    obtain ⟨n, xs⟩ := nx
    rw [e1] at f
    dsimp only at f
    cases e2 : g xs ds with
    | none => rw [e2] at f; exact f.elim
    | some yz =>
      obtain ⟨ys, z⟩ := yz
      rw [e2] at f
      obtain ⟨a, ws, rfl, h1, h2, h3, h4, h5⟩ := lstOf_some r e1 rx
      refine ⟨mg, B, m, S, n, a, ws, xs, ds, ys, z, rfl, r, h1, h2, h3, h4, h5, q, e2, fun us v hz hq hv => ?_⟩
      have kp := kp_upd (ho := .lst us) (o' := .lst ys) r h1 h2
      exact f m _ v (Post.upd r h1 h2 (.lst upd_same hz (hq.kp kp))) (hv.kp kp)
/-- the receiver is a live list when the arguments are reckoned -/
theorem ev_mut (pa : PlainAttrs "list") (slot : Slot "list" name id) (hty : typeOf (.builtin id) = pure (.type "method_descriptor")) (hm : MtR X id (rMut X.K g)) (ho : EV X W o fo) (ha : EVA X W (e :: es) fs) (hfs : fs ≠ [] := by exact fun h => nomatch h)
    (hbase : attributeBase o name X.env (eval o X.env) = eval o X.env := by rfl)
    (hfew : ((backTo cpos (starEach (e :: es) X.env)).all (fun x => !x.1) && (backToKw cpos (keywordEach [] X.env)).all (fun x => x.1.isSome)
      && decide ((e :: es).length + ([] : List Keyword).length + (if ([] : List Keyword).isEmpty then 0 else 1) < 30)) = true := by rfl)
    (hline : (apos.endLine == cpos.line) = true := by rfl) (hs : starEach (e :: es) X.env = (false, eval e X.env) :: starEach es X.env := by rfl) (hplain : (backTo cpos (starEach es X.env)).any (·.1) = false := by rfl) :
    EV X W (.Call (.Attribute o name apos) (e :: es) [] cpos) (eMeth g fo fs) := by
  refine pe_imp (pe_bm pa slot hty hm ho ha hbase hfew hline hs hplain) fun σ H Q h => ?_
  obtain ⟨B, m, ρ, S, r, re, f⟩ := up_one (g := fun d ρ S => if (lstOf S d).isSome = true then (evL fs ρ S).bind fun ds S => doMut g S d ds else .bad) h
  refine ⟨B, m, ρ, S, r, re, f.mono fun x H1 => ?_⟩
  rintro ⟨B, m, ρ, S, d, r, re, rx, f⟩
  cases e1 : lstOf S d with
  | none => rw [e1] at f; exact f.elim
  | some nx =>
    obtain ⟨n, xs⟩ := nx
    rw [e1] at f
    simp only [Option.isSome_some, if_true] at f
    obtain ⟨a, ws, rfl, h1, h2, h3, h4, h5⟩ := lstOf_some r e1 rx
    refine ⟨ty_lst h3, B, m, ρ, S, r, re, finA.mono (finA.bind f) fun vs H2 => ?_⟩
    rintro ⟨m2, S2, ds, p2, q2, f2⟩
    exact mut_fin p2.rl (rx.kp (p2.kp r)) q2 f2
theorem ev_mut0 (pa : PlainAttrs "list") (slot : Slot "list" name id) (hty : typeOf (.builtin id) = pure (.type "method_descriptor")) (hm : MtR X id (rMut X.K g)) (ho : EV X W o fo)
    (hbase : attributeBase o name X.env (eval o X.env) = eval o X.env := by rfl) (hline : (apos.endLine == cpos.line) = true := by rfl) :
    EV X W (.Call (.Attribute o name apos) [] [] cpos) (eMeth0 g fo) := by
  refine pe_imp (pe_bm0 pa slot hty hm ho hbase hline) fun σ H Q h => ?_
  obtain ⟨B, m, ρ, S, r, re, f⟩ := up_one (g := fun d ρ S => doMut g S d []) h
  refine ⟨B, m, ρ, S, r, re, f.mono fun x H1 => ?_⟩
  rintro ⟨B, m, ρ, S, d, r, re, rx, f⟩
  refine ⟨?_, mut_fin r rx .nil f⟩
  unfold doMut at f
  cases e1 : lstOf S d with
  | none => rw [e1] at f; exact f.elim
  | some nx =>
    obtain ⟨n, xs⟩ := nx
    obtain ⟨a, ws, rfl, h1, h2, h3, h4, h5⟩ := lstOf_some r e1 rx
    exact ty_lst h3
end
def gAppend : List D → List D → Option (List D × D) := fun xs ds => match ds with
  | [d] => if xs.length < sizeLine then some (xs ++ [d], .non) else none
  | _ => none
def gClear : List D → List D → Option (List D × D) := fun _ ds => match ds with
  | [] => some ([], .non)
  | _ => none
def gReverse : List D → List D → Option (List D × D) := fun xs ds => match ds with
  | [] => some (xs.reverse, .non)
  | _ => none
def gPopAt : List D → List D → Option (List D × D) := fun xs ds => match ds with
  | [.int i] => if -(2 ^ 63) ≤ i ∧ i < 2 ^ 63 then match seqIndex? i xs.length with
    | some k => match xs[k]? with
      | some z => some (xs.eraseIdx k, z)
      | none => none
    | none => none else none
  | _ => none
def gPop : List D → List D → Option (List D × D) := fun xs ds => match ds with
  | [] => match xs[xs.length - 1]? with
    | some z => some (xs.dropLast, z)
    | none => none
  | _ => none
theorem RepA.dropLast {K : PySem.W.Frag} {H : Hp} {Fb : Addr → Prop} {m : List Addr} {vs : List V} {ds : List D} (h : RepA K H Fb m vs ds) : RepA K H Fb m vs.dropLast ds.dropLast := by
  rw [List.dropLast_eq_take, List.dropLast_eq_take, h.length]
  exact h.take _
section
variable {X : Cx} {W : WX} {o e : Expr} {fo fe : Ex} {apos cpos : Pos}
theorem mg_append : MtR X "list.append" (rMut X.K gAppend) := by
  intro pins s σ H x vs v us Q I rx rs ⟨mg, B, m, S, n, a, ws, xs, ds, ys, z, ex, r, h1, h2, h3, h4, h5, q, e, k⟩
  subst ex
  unfold gAppend at e
  split at e
  · split at e
    · rename_i d hz
      cases e
      cases q with
      | cons qd qn =>
        cases qn
        exact mt_append pins s σ H _ _ v us Q I rx rs ⟨a, ws, _, rfl, rfl, h3, by rw [h5.length]; exact hz, k _ _ (by have := h5.length; simp; omega) (h5.append (.cons qd .nil)) .non⟩
    · cases e
  · cases e
theorem mg_clear : MtR X "list.clear" (rMut X.K gClear) := by
  intro pins s σ H x vs v us Q I rx rs ⟨mg, B, m, S, n, a, ws, xs, ds, ys, z, ex, r, h1, h2, h3, h4, h5, q, e, k⟩
  subst ex
  unfold gClear at e
  split at e
  · cases e
    cases q
    exact mt_clear pins s σ H _ _ v us Q I rx rs ⟨a, ws, rfl, rfl, h3, k _ _ (by simp) .nil .non⟩
  · cases e
theorem mg_reverse : MtR X "list.reverse" (rMut X.K gReverse) := by
  intro pins s σ H x vs v us Q I rx rs ⟨mg, B, m, S, n, a, ws, xs, ds, ys, z, ex, r, h1, h2, h3, h4, h5, q, e, k⟩
  subst ex
  unfold gReverse at e
  split at e
  · cases e
    cases q
    exact mt_reverse pins s σ H _ _ v us Q I rx rs ⟨a, ws, rfl, rfl, h3, k _ _ (by simpa using h4) h5.reverse .non⟩
  · cases e
theorem mg_popAt : MtR X "list.pop" (rMut X.K gPopAt) := by
  intro pins s σ H x vs v us Q I rx rs ⟨mg, B, m, S, n, a, ws, xs, ds, ys, z, ex, r, h1, h2, h3, h4, h5, q, e, k⟩
  subst ex
  unfold gPopAt at e
  split at e
  · rename_i i
    split at e
    · rename_i hi
      split at e
      · rename_i j ej
        split at e
        · rename_i w ew
          cases e
          cases q with
          | cons qd qn =>
            cases qn
            cases qd
            obtain ⟨wv, e1, e2⟩ := h5.get ew
            exact mt_popAt pins s σ H _ _ v us Q I rx rs ⟨a, ws, i, j, wv, rfl, rfl, h3, hi.1, hi.2, by rw [h5.length]; exact ej, e1, k _ _ (Nat.le_trans (List.length_eraseIdx_le ..) h4) (h5.eraseIdx j) e2⟩
        · cases e
      · cases e
    · cases e
  · cases e
theorem mg_pop : MtR X "list.pop" (rMut X.K gPop) := by
  intro pins s σ H x vs v us Q I rx rs ⟨mg, B, m, S, n, a, ws, xs, ds, ys, z, ex, r, h1, h2, h3, h4, h5, q, e, k⟩
  subst ex
  unfold gPop at e
  split at e
  · split at e
    · rename_i w ew
      cases e
      cases q
      obtain ⟨wv, e1, e2⟩ := h5.get ew
      exact mt_pop pins s σ H _ _ v us Q I rx rs ⟨a, ws, wv, rfl, rfl, h3, by rw [h5.length]; exact e1, k _ _ (by rw [List.length_dropLast]; omega) h5.dropLast e2⟩
    · cases e
  · cases e
theorem ev_append (ho : EV X W o fo) (ha : EVA X W [e] [fe]) (hbase : attributeBase o "append" X.env (eval o X.env) = eval o X.env := by rfl)
    (hfew : ((backTo cpos (starEach [e] X.env)).all (fun x => !x.1) && (backToKw cpos (keywordEach [] X.env)).all (fun x => x.1.isSome) && decide ([e].length + ([] : List Keyword).length + (if ([] : List Keyword).isEmpty then 0 else 1) < 30)) = true := by rfl)
    (hline : (apos.endLine == cpos.line) = true := by rfl) (hs : starEach [e] X.env = (false, eval e X.env) :: starEach [] X.env := by rfl) (hplain : (backTo cpos (starEach [] X.env)).any (·.1) = false := by rfl) :
    EV X W (.Call (.Attribute o "append" apos) [e] [] cpos) (eMeth gAppend fo [fe]) := ev_mut PySem.F.plainAttrs_list PySem.F.slot_list_append PySem.F.type_list_append mg_append ho ha (by exact fun h => nomatch h) hbase hfew hline hs hplain
theorem ev_popAt (ho : EV X W o fo) (ha : EVA X W [e] [fe]) (hbase : attributeBase o "pop" X.env (eval o X.env) = eval o X.env := by rfl)
    (hfew : ((backTo cpos (starEach [e] X.env)).all (fun x => !x.1) && (backToKw cpos (keywordEach [] X.env)).all (fun x => x.1.isSome) && decide ([e].length + ([] : List Keyword).length + (if ([] : List Keyword).isEmpty then 0 else 1) < 30)) = true := by rfl)
    (hline : (apos.endLine == cpos.line) = true := by rfl) (hs : starEach [e] X.env = (false, eval e X.env) :: starEach [] X.env := by rfl) (hplain : (backTo cpos (starEach [] X.env)).any (·.1) = false := by rfl) :
    EV X W (.Call (.Attribute o "pop" apos) [e] [] cpos) (eMeth gPopAt fo [fe]) := ev_mut PySem.F.plainAttrs_list PySem.F.slot_list_pop PySem.F.type_list_pop mg_popAt ho ha (by exact fun h => nomatch h) hbase hfew hline hs hplain
theorem ev_pop0 (ho : EV X W o fo) (hbase : attributeBase o "pop" X.env (eval o X.env) = eval o X.env := by rfl) (hline : (apos.endLine == cpos.line) = true := by rfl) : EV X W (.Call (.Attribute o "pop" apos) [] [] cpos) (eMeth0 gPop fo) :=
  ev_mut0 PySem.F.plainAttrs_list PySem.F.slot_list_pop PySem.F.type_list_pop mg_pop ho hbase hline
theorem ev_clear (ho : EV X W o fo) (hbase : attributeBase o "clear" X.env (eval o X.env) = eval o X.env := by rfl) (hline : (apos.endLine == cpos.line) = true := by rfl) : EV X W (.Call (.Attribute o "clear" apos) [] [] cpos) (eMeth0 gClear fo) :=
  ev_mut0 PySem.F.plainAttrs_list PySem.F.slot_list_clear PySem.F.type_list_clear mg_clear ho hbase hline
theorem ev_reverse (ho : EV X W o fo) (hbase : attributeBase o "reverse" X.env (eval o X.env) = eval o X.env := by rfl) (hline : (apos.endLine == cpos.line) = true := by rfl) : EV X W (.Call (.Attribute o "reverse" apos) [] [] cpos) (eMeth0 gReverse fo) :=
  ev_mut0 PySem.F.plainAttrs_list PySem.F.slot_list_reverse PySem.F.type_list_reverse mg_reverse ho hbase hline
end

/-! ### xs[i] = e -/
/-- a live dict -/
def dicOf (S : Sto) : D → Option (Nat × List (D × D))
  | .ref n => match S[n]? with
    | some (some (.dic false kvs)) => some (n, kvs)
    | _ => none
  | _ => none
theorem dicOf_some {K : PySem.W.Frag} {mg : Str → Option Value} {B : Addr → Prop} {m : List Addr} {S : Sto} {H : Hp} {d : D} {n : Nat} {kvs : List (D × D)} {v : V} (r : Rl K mg B m H S) (e : dicOf S d = some (n, kvs)) (q : Rep K H (Fo B m S) m v d) :
    ∃ a kv, v = .ref a ∧ m[n]? = some a ∧ S[n]? = some (some (.dic false kvs)) ∧ H a = some (.dK kv) ∧ kv.length ≤ sizeLine ∧ KR K H (Fo B m S) m kv kvs := by
  cases d with
  | ref k =>
    simp only [dicOf] at e
    split at e
    · rename_i xs' e2
      cases e
      cases q with
      | ref e1 =>
        have ob := r.obj _ _ _ e1 e2
        cases ob with
        | dK h z e3 q => exact ⟨_, _, rfl, e1, e2, h, z, kr_of e3 q⟩
    · cases e
  | _ => simp [dicOf] at e
/-- a live dict is written -/
theorem Post.updD {K : PySem.W.Frag} {mg : Str → Option Value} {B : Addr → Prop} {m : List Addr} {S : Sto} {H : Hp} {n : Nat} {a : Addr} {kw : List (Key × V)} {kvs kws : List (D × D)} (r : Rl K mg B m H S) (h1 : m[n]? = some a) (h2 : S[n]? = some (some (.dic false kvs))) (q : KR K H (Fo B m S) m kw kws) (hz : kw.length ≤ sizeLine) :
    Post K mg B m S H m (S.set n (some (.dic false kws))) (L2.upd H a (.dK kw)) := by
  have kp := kp_upd (ho := .dK kw) (o' := .dic false kws) r h1 h2
  have q2 := q.kp kp
  exact Post.upd r h1 h2 (.dK upd_same hz q2.keys q2.vals)
def putAtD (S : Sto) (d k z : D) : Option Sto := match dicOf S d with
  | some (n, kvs) => match unK k with
    | some kk => if kvs.length < sizeLine then some (S.set n (some (.dic false (putD kvs kk z)))) else none
    | none => none
  | none => none
theorem putAt_ok {K : PySem.W.Frag} {mg : Str → Option Value} {B : Addr → Prop} {m : List Addr} {S S' : Sto} {H : Hp} {d k z : D} {vd vk vz : V} (r : Rl K mg B m H S) (rd : Rep K H (Fo B m S) m vd d) (rk : Rep K H (Fo B m S) m vk k) (rz : Rep K H (Fo B m S) m vz z) (e : putAtD S d k z = some S') :
    ∃ a H', vd = .ref a ∧ DPut H a vk vz H' ∧ Post K mg B m S H m S' H' := by
  unfold putAtD at e
  cases e1 : dicOf S d with
  | none => rw [e1] at e; cases e
  | some nk =>
    obtain ⟨n, kvs⟩ := nk
    rw [e1] at e
    dsimp only at e
    cases e2 : unK k with
    | none => rw [e2] at e; cases e
    | some kk =>
      rw [e2] at e
      dsimp only at e
      split at e
      · rename_i hl
        cases e
        obtain ⟨a, kv, rfl, h1, h2, h3, h4, h5⟩ := dicOf_some r e1 rd
        have hk := rk.key e2
        subst hk
        have hz : (putK kv kk vz).length ≤ sizeLine := by have := length_putK kv kk vz; have := h5.length; omega
        exact ⟨a, _, rfl, DPut.k h3 (by rw [h5.length]; exact hl), Post.updD r h1 h2 (h5.put kk rz) hz⟩
      · cases e
def rSetLD : TSet := fun o i v H Q => rSetL o i v H Q ∨ rSetD o i v H Q
theorem set_LD {X : Cx} (hu : X.A.units + 1 < cLine) : PSet X rSetLD := fun pins s σ H o i v ov iv u Q I ro ri rv h => h.elim (set_list pins s σ H o i v ov iv u Q I ro ri rv) (set_dict hu pins s σ H o i v ov iv u Q I ro ri rv)
def sSetIx (o i e : Ex) : Sx := fun ρ S => (e ρ S).bindS ρ fun z S => (o ρ S).bindS ρ fun d S => (i ρ S).bindS ρ fun k S => match lstOf S d, k with
  | some (n, xs), .int j => match ixN xs.length j with
    | some p => .fl (.nx ρ) (S.set n (some (.lst (xs.set p z))))
    | none => .bad
  | _, _ => match putAtD S d k z with
    | some S' => .fl (.nx ρ) S'
    | none => .bad
section
variable {X : Cx} {W : WX} {o i e : Expr} {fo fi fe : Ex} {pos p : Pos}
theorem sv_setIx (hu : X.A.units + 64 < cLine) (he : EV X W e fe) (ho : EV X W o fo) (hi : EV X W i fi)
    (ha : ∀ v, assign (.Subscript o i p) X.env v = (do
      let ov ← holding [v] (eval o X.env)
      let iv ← holding [v, ov] (eval i X.env)
      standAt p
      holding [v, ov, iv] (setItem ov iv v)
      release [v, ov, iv] []) := by intro _; rfl)
    (hs : swapsWithSole [.Subscript o i p] e pos.line X.env = pure false := by rfl) (hw : swappedStores [.Subscript o i p] e X.env = pure none := by rfl)
    (h1 : (assignEach [.Subscript o i p] X.env).map (·.2) = [assign (.Subscript o i p) X.env] := by rfl) : SV X W (.Assign [.Subscript o i p] e pos) (sSetIx fo fi fe) := by
  refine ps_imp (ps_asg he (pg_sub ho hi (set_LD (by omega)) ha) hs hw h1) fun E σ H h => ?_
  obtain ⟨B, m, ρ, S, r, re, f⟩ := upS_one (g := fun z ρ S => (fo ρ S).bindS ρ fun d S => (fi ρ S).bindS ρ fun k S => match lstOf S d, k with
    | some (n, xs), .int j => match ixN xs.length j with
      | some p => .fl (.nx ρ) (S.set n (some (.lst (xs.set p z))))
      | none => .bad
    | _, _ => match putAtD S d k z with
      | some S' => .fl (.nx ρ) S'
      | none => .bad) h
  refine ⟨B, m, ρ, S, r, re, f.mono fun x H1 => ?_⟩
  rintro ⟨B, m, ρ, S, dz, r, re, rz, f⟩
  refine ⟨B, m, ρ, S, r, re, fin.mono (fin.bindS re r f) fun vo H2 => ?_⟩
  rintro ⟨m2, S2, dO, p2, q2, f2⟩
  have re2 := re.kp (p2.kp r)
  refine ⟨B, m2, ρ, S2, p2.rl, re2, fin.mono (fin.bindS re2 p2.rl f2) fun vi H3 => ?_⟩
  rintro ⟨m3, S3, dk, p3, q3, f3⟩
  have rz3 := (rz.kp (p2.kp r)).kp (p3.kp p2.rl)
  have ro3 := q2.kp (p3.kp p2.rl)
  have re3 := re2.kp (p3.kp p2.rl)
  split at f3
  · rename_i n xs j e1
    split at f3
    · rename_i pl e2
      obtain ⟨a, ws, rfl, h1, h2, h3, h4, h5⟩ := lstOf_some p3.rl e1 ro3
      cases q3
      have kp := kp_upd (ho := .lst (ws.set pl x)) (o' := .lst (xs.set pl dz)) p3.rl h1 h2
      refine .inl ⟨a, ws, j, pl, rfl, rfl, h3, by rw [h5.length]; exact e2, ?_⟩
      exact f3 m3 _ σ (Post.upd p3.rl h1 h2 (.lst upd_same (by simpa using h4) ((h5.set pl rz3).kp kp))) (re3.kp kp)
    · exact f3.elim
  · split at f3
    · rename_i S' e2
      obtain ⟨a, H', rfl, g, po⟩ := putAt_ok p3.rl ro3 q3 rz3 e2
      exact .inr ⟨a, H', rfl, g, f3 m3 H' σ po (re3.kp (po.kp p3.rl))⟩
    · exact f3.elim
end

/-! ### x op= e -/
def sAug (i : Nat) (g : D → D → Option D) (e : Ex) : Sx := fun ρ S => match ρ[i]? with
  | some (some d) => (e ρ S).bindS ρ fun y S => match g (view S d) (view S y) with
    | some z => .fl (.nx (ρ.set i (some z))) S
    | none => .bad
  | _ => .bad
section
variable {X : Cx} {W : WX} {e : Expr} {fe : Ex} {pos pos' : Pos} {op : Operator} {g : D → D → Option D}
theorem sv_aug {i : Nat} {x : Str} (hN : X.N.Nodup) (hi : X.N[i]? = some x) (hx : Loc X.env.scope x) (he : EV X W e fe) (ho : OpR X (inplaceOp op) (rG2 X.K g)) (hf : X.fn x = true ∨ X.env.scope.names.lookup x = some .local := by first | exact .inl rfl | exact .inr rfl | assumption) :
    SV X W (.AugAssign (.Name x pos') op e pos) (sAug i g fe) := by
  refine ps_imp (ps_aug hN hi hx he (ti := rG2 X.K g) (fun pins s σ H x y v u Q I r1 r2 h => ho pins s σ H x y v u Q I r1 r2 h) hf) fun E σ H h => ?_
  obtain ⟨B, m, ρ, S, r, re, f⟩ := h
  unfold sAug at f
  split at f
  · rename_i d ed
    obtain ⟨v, ev, rv⟩ := re.2 i d ed
    refine ⟨v, ev, B, m, ρ, S, r, re, fin.mono (fin.bindS re r f) fun y H1 => ?_⟩
    rintro ⟨m1, S1, dy, p1, q1, f1⟩
    split at f1
    · rename_i z ez
      refine ⟨_, m1, _, _, z, fr_of p1.rl, vw p1.rl (rv.kp (p1.kp r)), vw p1.rl q1, ez, fun H' w s q => ?_⟩
      have pg := Post.grow p1.rl s
      exact f1 m1 H' _ pg (((re.kp (p1.kp r)).kp (pg.kp p1.rl)).set q)
    · exact f1.elim
  · exact f.elim
theorem ig_add : OpR X (inplaceOp .Add) (rG2 X.K fun a b => match a, b with | .int i, .int j => some (.int (i + j)) | _, _ => none) := og_int iop_add fun dx dy d e => by
  split at e
  · rename_i i j; cases e; exact ⟨i, j, _, rfl, rfl, rfl, fun H Q k => ⟨i, j, rfl, rfl, k _ fun _ _ _ => .int _⟩⟩
  · cases e
theorem ig_mul : OpR X (inplaceOp .Mult) (rG2 X.K fun a b => match a, b with | .int i, .int j => if (-(2 ^ 64) < i ∧ i < 2 ^ 64) ∨ (-(2 ^ 64) < j ∧ j < 2 ^ 64) then some (.int (i * j)) else none | _, _ => none) := og_int iop_mul fun dx dy d e => by
  split at e
  · rename_i i j
    split at e
    · rename_i hc; cases e; exact ⟨i, j, _, rfl, rfl, rfl, fun H Q k => ⟨i, j, rfl, rfl, hc, k _ fun _ _ _ => .int _⟩⟩
    · cases e
  · cases e
theorem ig_mod : OpR X (inplaceOp .Mod) (rG2 X.K modD) := og_int iop_mod fun dx dy d e => by
  unfold modD at e
  split at e
  · rename_i i j
    split at e
    · rename_i hc; cases e; exact ⟨i, j, _, rfl, rfl, rfl, fun H Q k => ⟨i, j, rfl, rfl, hc, k _ fun _ _ _ => .int _⟩⟩
    · cases e
  · cases e
theorem ig_div : OpR X (inplaceOp .FloorDiv) (rG2 X.K divD) := og_int iop_fdiv fun dx dy d e => by
  unfold divD at e
  split at e
  · rename_i i j
    split at e
    · rename_i hc; cases e; exact ⟨i, j, _, rfl, rfl, rfl, fun H Q k => ⟨i, j, rfl, rfl, hc, k _ fun _ _ _ => .int _⟩⟩
    · cases e
  · cases e
end

/-! ### a < b < c -/
def eChain (g g' : D → D → Option D) (a b c : Ex) : Ex := fun ρ S => (a ρ S).bind fun x S => (b ρ S).bind fun y S => match g (view S x) (view S y) with
  | some (.bl k) => if k = true then (c ρ S).bind fun z S => ans S (g' (view S y) (view S z)) else .ok (.bl false) S
  | _ => .bad
section
variable {X : Cx} {W : WX} {a b c : Expr} {fa fb fc : Ex} {pos : Pos} {op op' : CmpOp} {g g' : D → D → Option D}
theorem chain_of {K : PySem.W.Frag} {mg : Str → Option Value} {W : WX} {σ : L2.St} {H : Hp} {Q : VK} (h : up K mg W (eChain g g' fa fb fc) σ H Q) : tChain (rG2 K g) (rG2 K g') (up K mg W fa) (up K mg W fb) (up K mg W fc) σ H Q := by
  obtain ⟨B, m, ρ, S, r, re, f⟩ := up_two (g := fun x y ρ S => match g (view S x) (view S y) with
  | some (.bl k) => if k = true then (fc ρ S).bind fun z S => ans S (g' (view S y) (view S z)) else .ok (.bl false) S
  | _ => .bad) h
  refine ⟨B, m, ρ, S, r, re, f.mono fun x H1 => ?_⟩
  rintro ⟨B, m, ρ, S, r, re, f⟩
  refine ⟨B, m, ρ, S, r, re, f.mono fun y H2 => ?_⟩
  rintro ⟨B, m, ρ, S, dx, dy, r, re, rx, ry, f⟩
  split at f
  · rename_i k e
    refine ⟨_, m, _, _, _, fr_of r, vw r rx, vw r ry, e, fun H3 z s q => ?_⟩
    have p3 := Post.grow r s
    cases q
    refine ⟨k, rfl, ?_⟩
    have f3 := fin.later p3 f
    cases k with
    | false =>
      rw [if_neg Bool.false_ne_true] at f3 ⊢
      exact f3 m H3 _ (Post.refl p3.rl) (.bl false)
    | true =>
      rw [if_pos rfl] at f3 ⊢
      refine ⟨B, m, ρ, S, p3.rl, re.kp (p3.kp r), fin.mono (fin.bind f3) fun w H4 => ?_⟩
      rintro ⟨m4, S4, dz, p4, q4, f4⟩
      cases e5 : g' (view S4 dy) (view S4 dz) with
      | none => rw [e5] at f4; exact f4.elim
      | some d =>
        rw [e5] at f4
        exact ⟨_, m4, _, _, d, fr_of p4.rl, vw p4.rl ((ry.kp (p3.kp r)).kp (p4.kp p3.rl)), vw p4.rl q4, e5, fun H' z s q => f4.ok p4.rl s q⟩
  · exact f.elim
theorem ev_chain (ho : OpR X (compareOp op) (rG2 X.K g)) (ho' : OpR X (compareOp op') (rG2 X.K g')) (ha : EV X W a fa) (hb : EV X W b fb) (hc : EV X W c fc) (hm : lastMarks [op, op'] [b, c] = false := by with_unfolding_all rfl) :
    EV X W (.Compare a [op, op'] [b, c] pos) (eChain g g' fa fb fc) := pe_imp (pe_chain ho ho' ha hb hc hm) fun σ H Q h => chain_of h
theorem tv_chain (ho : OpR X (compareOp op) (rG2 X.K g)) (ho' : OpR X (compareOp op') (rG2 X.K g')) (ha : EV X W a fa) (hb : EV X W b fb) (hc : EV X W c fc) (hm : lastMarks [op, op'] [b, c] = false := by with_unfolding_all rfl) :
    TV X W (.Compare a [op, op'] [b, c] pos) (tVal (eChain g g' fa fb fc)) := by
  refine pt_imp (pt_chain ho ho' ha hb hc hm) fun σ H Q h => ?_
  exact chain_of (tval_of h)
end
end DL

/-! ## DLk -/
set_option Elab.async false
set_option linter.all false
set_option maxRecDepth 100000
set_option maxHeartbeats 4000000
namespace DL
open PySem PySem.Spec PyProof.Rows L2

/-! ### a list made aside becomes ours -/
theorem kp_adopt {B : Addr → Prop} {m : List Addr} {S : Sto} {H : Hp} {D : Addr} {o : Ob} (hl : m.length = S.length) : Kp H H (Fo (BD B D) m S) (Fo B (m ++ [D]) (S ++ [some o])) m (m ++ [D]) := by
  refine ⟨fun _ _ h _ => h, fun _ _ h _ => h, fun _ _ _ h => h, fun a u h f z => ?_, fun n a h => ?_⟩
  · rcases z with z | z
    · exact f (.inl (.inl z))
    · rcases liv_app hl z with z | ⟨z, _⟩
      · exact f (.inr z)
      · exact f (.inl (.inr z))
  · rw [List.getElem?_append_left (List.getElem?_eq_some_iff.mp h).1]; exact h
theorem Rl.adopt {K : PySem.W.Frag} {mg : Str → Option Value} {B : Addr → Prop} {m : List Addr} {S : Sto} {H : Hp} {D : Addr} {acc : List V} {ds : List DL.D} (r : Rl K mg (BD B D) m H S) (nB : ¬ B D) (nD : D ∉ m) (hD : H D = some (.lst acc)) (q : RepA K H (Fo (BD B D) m S) m acc ds) (hz : acc.length ≤ sizeLine) :
    Rl K mg B (m ++ [D]) H (S ++ [some (.lst ds)]) := by
  have kp := kp_adopt (B := B) (D := D) (H := H) (o := .lst ds) r.len
  refine ⟨by simp [r.len], ?_, fun a h z => ?_, fun a h => r.bt a (.inl h), fun a h => ?_, fun n a u e1 e2 => ?_⟩
  · refine List.nodup_append.mpr ⟨r.nod, by simp, fun a h1 b h2 e => ?_⟩
    simp at h2
    subst h2
    subst e
    exact nD h1
  · rcases liv_app r.len h with h | ⟨h, _⟩
    · exact r.nb a h (.inl z)
    · exact nB (h ▸ z)
  · rcases List.mem_append.mp h with h | h
    · exact r.mt a h
    · simp at h
      subst h
      rw [hD]; simp
  · by_cases hn : n < m.length
    · rw [List.getElem?_append_left hn] at e1
      rw [List.getElem?_append_left (by rw [← r.len]; exact hn)] at e2
      cases r.obj n a u e1 e2 with
      | lst h z q => exact .lst h z (q.kp kp)
      | dK h z e q => exact .dK h z e (q.kp kp)
      | dT h z e q => exact .dT h z e (q.kp kp)
      | ins g h e q => exact .ins g h e (q.kp kp)
    · rw [List.getElem?_append_right (by omega)] at e1
      have hl := r.len
      rw [List.getElem?_append_right (by omega)] at e2
      have hz' : n - m.length = 0 := by
        have := (List.getElem?_eq_some_iff.mp e1).1
        simp at this
        omega
      rw [hz'] at e1
      rw [show n - S.length = 0 by omega] at e2
      simp at e1 e2
      subst e1 e2
      exact .lst hD hz (q.kp kp)
section
variable {X : Cx} {W : WX} {tg iter elt : Expr} {ifs : List Expr} {fi : Ix} {t : Tg} {tt : Tx} {fe : Ex} {scope : Scope} {own : List (Str × Nat)} {pos : Pos}
theorem compM_fin {K : PySem.W.Frag} {mg : Str → Option Value} {σ : L2.St} {Q : VK} (B : Addr → Prop) (m1 : List Addr) (S1 : Sto) (H1 : Hp) (m2 : List Addr) (S2 : Sto) (H2 : Hp) (D : Addr) (acc : List V) (ds : List DL.D) (r1 : Rl K mg B m1 H1 S1) (hD : H1 D = none) (pc : Pc m1 S1 H1 m2 S2 H2) (rl : Rl K mg (BD B D) m2 H2 S2) (hacc : H2 D = some (.lst acc))
    (qa : RepA K H2 (Fo (BD B D) m2 S2) m2 acc ds) (za : acc.length ≤ sizeLine) (nD : D ∉ m2) (f : fin K mg W B m1 S1 σ H1 (.ok (.ref S2.length) (S2 ++ [some (.lst ds)])) Q) : Q (.ref D) H2 := by
  have nB : ¬ B D := fun z => r1.bt D z hD
  have rl2 := rl.adopt nB nD hacc qa za
  refine f (m2 ++ [D]) H2 _ (post_of_pc ⟨?_, pc.keep, pc.smm, fun a h => ?_⟩ rl2) (.ref (by rw [List.getElem?_append_right (by rw [rl.len]; exact Nat.le_refl _), rl.len]; simp))
  · obtain ⟨l, e, fr⟩ := pc.ext
    refine ⟨l ++ [D], by rw [e, List.append_assoc], fun a h => ?_⟩
    rcases List.mem_append.mp h with h | h
    · exact fr a h
    · simp at h
      rw [h]; exact hD
  · rcases liv_app rl.len h with h | ⟨h, _⟩
    · exact pc.liv a h
    · right; rw [h]; exact hD
theorem ev_compM (hc : X.calm = true) (hN : X.N.Nodup) (hi : IV X W tg iter fi) (ok : BlkOk X.N X.env.scope scope own)
    (hg : ∀ (s : Shared) (H : Hp) (C : Addr) (cl : List (Str × Addr)) (fp : List Addr), GV (X.blk s H scope (compEnvC scope cl C X.env) fp) tg t) (ht : ∀ (s : Shared) (H : Hp) (C : Addr) (cl : List (Str × Addr)) (fp : List Addr), TVs (X.blk s H scope (compEnvC scope cl C X.env) fp) W0 ifs tt)
    (he : ∀ (s : Shared) (H : Hp) (C : Addr) (cl : List (Str × Addr)) (fp : List Addr), EV (X.blk s H scope (compEnvC scope cl C X.env) fp) W0 elt fe) (hv : ∀ i ∈ t.sl, i ∈ own.map (·.2) := by decide) (hs : ∀ x, foldedSetIterable iter X.env x = pure x := by intro _; rfl) :
    EV X W (.ListComp elt [⟨tg, iter, ifs, 0⟩] scope pos) (eCompM fi t tt fe (own.map (·.2))) :=
  pe_imp (pe_lc (g := Tg.rd X.K t) (tt := upT X.K X.mg W0 tt) (te := up X.K X.mg W0 fe) hc hN hi ok hg ht he hs) fun σ H Q h => lc_of hv h compM_fin
/-- y = [..] on one line -/
theorem sv_setComp {i : Nat} {y : Str} {py spos : Pos} (hc : X.calm = true) (hN : X.N.Nodup) (hy : X.N[i]? = some y) (hyl : X.env.scope.names.lookup y = some .local) (hsw : swapsWith (.ListComp elt [⟨tg, iter, ifs, 0⟩] scope pos) (some (.Name y py)) spos.line X.env = pure true) (hi : IV X W tg iter fi) (ok : BlkOk X.N X.env.scope scope own)
    (hg : ∀ (s : Shared) (H : Hp) (C : Addr) (cl : List (Str × Addr)) (fp : List Addr), GV (X.blk s H scope (compEnvC scope cl C X.env) fp) tg t) (ht : ∀ (s : Shared) (H : Hp) (C : Addr) (cl : List (Str × Addr)) (fp : List Addr), TVs (X.blk s H scope (compEnvC scope cl C X.env) fp) W0 ifs tt)
    (he : ∀ (s : Shared) (H : Hp) (C : Addr) (cl : List (Str × Addr)) (fp : List Addr), EV (X.blk s H scope (compEnvC scope cl C X.env) fp) W0 elt fe) (hv : ∀ i ∈ t.sl, i ∈ own.map (·.2) := by decide) (hs : ∀ x, foldedSetIterable iter X.env x = pure x := by intro _; rfl) :
    SV X W (.Assign [.Name y py] (.ListComp elt [⟨tg, iter, ifs, 0⟩] scope pos) spos) (sAsg i (eComp fi t tt fe (own.map (·.2)))) := by
  refine ps_imp (ps_setLc (g := Tg.rd X.K t) (tt := upT X.K X.mg W0 tt) (te := up X.K X.mg W0 fe) hc hN hy hyl hsw hi ok hg ht he hs) fun E σ H h => ?_
  obtain ⟨B, m, ρ, S, r, re, f⟩ := h
  refine lc_of (W := W) (Fin := fun acc S => .ok (.lst acc) S) hv (Q := fun x H1 => gName i x σ H1 E.nx) ⟨B, m, ρ, S, r, re, ?_⟩ fun B m1 S1 H1 m2 S2 H2 D acc ds r1 hD pc rl hacc qa za nD f => ?_
  · have f' : finS X.K X.mg W B m S H ((eComp fi t tt fe (own.map (·.2)) ρ S).bindS ρ fun d S => .fl (.nx (ρ.set i (some d))) S) E := f
    show fin X.K X.mg W B m S σ H (eComp fi t tt fe (own.map (·.2)) ρ S) _
    refine fin.mono (fin.bindS re r f') fun v H1 => ?_
    rintro ⟨m1, S1, d, p, q, f1⟩
    exact f1 m1 H1 _ (Post.refl p.rl) ((re.kp (p.kp r)).set q)
  · have rl2 : Rl X.K X.mg B m2 H2 S2 := rl.less fun a z => .inl z
    have nf : ¬ Fo B m2 S2 D := by
      rintro (z | z)
      · exact r1.bt D z hD
      · exact rl.nb D z (.inr rfl)
    exact f m2 H2 _ (post_of_pc pc rl2) (.lst hacc nf za (qa.kp (kp_anti fo_bd)))
theorem sv_setCompM {i : Nat} {y : Str} {py spos : Pos} (hc : X.calm = true) (hN : X.N.Nodup) (hy : X.N[i]? = some y) (hyl : X.env.scope.names.lookup y = some .local) (hsw : swapsWith (.ListComp elt [⟨tg, iter, ifs, 0⟩] scope pos) (some (.Name y py)) spos.line X.env = pure true) (hi : IV X W tg iter fi) (ok : BlkOk X.N X.env.scope scope own)
    (hg : ∀ (s : Shared) (H : Hp) (C : Addr) (cl : List (Str × Addr)) (fp : List Addr), GV (X.blk s H scope (compEnvC scope cl C X.env) fp) tg t) (ht : ∀ (s : Shared) (H : Hp) (C : Addr) (cl : List (Str × Addr)) (fp : List Addr), TVs (X.blk s H scope (compEnvC scope cl C X.env) fp) W0 ifs tt)
    (he : ∀ (s : Shared) (H : Hp) (C : Addr) (cl : List (Str × Addr)) (fp : List Addr), EV (X.blk s H scope (compEnvC scope cl C X.env) fp) W0 elt fe) (hv : ∀ i ∈ t.sl, i ∈ own.map (·.2) := by decide) (hs : ∀ x, foldedSetIterable iter X.env x = pure x := by intro _; rfl) :
    SV X W (.Assign [.Name y py] (.ListComp elt [⟨tg, iter, ifs, 0⟩] scope pos) spos) (sAsg i (eCompM fi t tt fe (own.map (·.2)))) := by
  refine ps_imp (ps_setLc (g := Tg.rd X.K t) (tt := upT X.K X.mg W0 tt) (te := up X.K X.mg W0 fe) hc hN hy hyl hsw hi ok hg ht he hs) fun E σ H h => ?_
  obtain ⟨B, m, ρ, S, r, re, f⟩ := h
  refine lc_of (W := W) (Fin := fun acc S => .ok (.ref S.length) (S ++ [some (.lst acc)])) hv (Q := fun x H1 => gName i x σ H1 E.nx) ⟨B, m, ρ, S, r, re, ?_⟩ compM_fin
  have f' : finS X.K X.mg W B m S H ((eCompM fi t tt fe (own.map (·.2)) ρ S).bindS ρ fun d S => .fl (.nx (ρ.set i (some d))) S) E := f
  show fin X.K X.mg W B m S σ H (eCompM fi t tt fe (own.map (·.2)) ρ S) _
  refine fin.mono (fin.bindS re r f') fun v H1 => ?_
  rintro ⟨m1, S1, d, p, q, f1⟩
  exact f1 m1 H1 _ (Post.refl p.rl) ((re.kp (p.kp r)).set q)
end

/-! ### list(x) of a list that will be written -/
def eListM (g : List D → Option D) (fs : List Ex) : Ex := fun ρ S => (evL fs ρ S).bind fun ds S => match g (ds.map (view S)) with
  | some (.lst xs) => .ok (.ref S.length) (S ++ [some (.lst xs)])
  | _ => .bad
section
variable {X : Cx} {W : WX} {e : Expr} {es : List Expr} {fs : List Ex} {pos p : Pos}
theorem ev_listM (hg : Gl X "list") (hm : X.mg "list" = none) (ha : EVA X W (e :: es) fs) (hv : bootBuiltins "list" = some (.type "list") := by decide +kernel)
    (he : starEach (e :: es) X.env = (false, eval e X.env) :: starEach es X.env := by rfl) (hpl : (backTo pos (starEach es X.env)).any (·.1) = false := by rfl) : EV X W (.Call (.Name "list" p) (e :: es) [] pos) (eListM listD fs) := by
  refine pe_imp (pe_callTy call_list_of hg hm hv ha (by decide) (by decide) he hpl) fun σ H Q h => ?_
  obtain ⟨B, m, ρ, S, r, re, f⟩ := upA_one (g := fun ds ρ S => match listD (ds.map (view S)) with
    | some (.lst xs) => .ok (.ref S.length) (S ++ [some (.lst xs)])
    | _ => .bad) h
  refine ⟨B, m, ρ, S, r, re, finA.mono f fun vs H1 => ?_⟩
  rintro ⟨B, m, ρ, S, ds, r, re, q, f⟩
  split at f
  · rename_i xs e1
    have vx := vwA r q
    unfold listD at e1
    split at e1
    · rename_i e2
      cases e1
      rw [e2] at vx
      obtain ⟨v, rfl, hv⟩ := vx.one
      obtain ⟨a, ws, rfl, h1, z1, q1⟩ := hv.asL
      exact ⟨a, ws, rfl, .inl (SqL.of h1), fun p hp => f (m ++ [p]) _ _ (Post.new r hp (.lst upd_same z1 (q1.kp (kp_new r hp)))) (rep_new r)⟩
    · rename_i e2
      cases e1
      rw [e2] at vx
      obtain ⟨v, rfl, hv⟩ := vx.one
      obtain ⟨a, ws, rfl, h1, z1, q1⟩ := hv.asT
      exact ⟨a, ws, rfl, .inr h1, fun p hp => f (m ++ [p]) _ _ (Post.new r hp (.lst upd_same z1 (q1.kp (kp_new r hp)))) (rep_new r)⟩
    · cases e1
  · exact f.elim
end

/-! ### list(range(n)) -/
def eLstRg (a b : Ex) : Ex := fun ρ S => (a ρ S).bind fun x S => (b ρ S).bind fun y S => match x, y with
  | .int i, .int j => if -16777216 ≤ i ∧ i ≤ 16777216 ∧ -16777216 ≤ j ∧ j ≤ 16777216 ∧ (j - i).toNat ≤ 16777216 then .ok (.lst (iRng i j)) S else .bad
  | _, _ => .bad
def eLstRgM (a b : Ex) : Ex := fun ρ S => (a ρ S).bind fun x S => (b ρ S).bind fun y S => match x, y with
  | .int i, .int j => if -16777216 ≤ i ∧ i ≤ 16777216 ∧ -16777216 ≤ j ∧ j ≤ 16777216 ∧ (j - i).toNat ≤ 16777216 then .ok (.ref S.length) (S ++ [some (.lst (iRng i j))]) else .bad
  | _, _ => .bad
theorem rgV_rep {K : PySem.W.Frag} {H : Hp} {Fb : Addr → Prop} {m : List Addr} (i j : Int) : RepA K H Fb m (rgV i j) (iRng i j) := by
  unfold rgV iRng
  have : ∀ l : List Nat, RepA K H Fb m (l.map fun k => V.int (i + (k : Nat))) (l.map fun k => D.int (i + (k : Nat))) := by
    intro l
    induction l with
    | nil => exact .nil
    | cons x l ih => exact .cons (.int _) ih
  exact this _
theorem rgok {i j : Int} (h : -16777216 ≤ i ∧ i ≤ 16777216 ∧ -16777216 ≤ j ∧ j ≤ 16777216 ∧ (j - i).toNat ≤ 16777216) : RgOk i j := ⟨by omega, by omega, by omega, by omega, by have := h.2.2.2.2; omega⟩
section
variable {X : Cx} {W : WX} {e e2 : Expr} {fa fb : Ex} {p p2 pos pos2 : Pos}
theorem ev_lstRg1 (hc : X.calm = true) (hg : Gl X "list") (hm : X.mg "list" = none) (hg2 : Gl X "range") (hm2 : X.mg "range" = none) (ha : EV X W e fa)
    (na : starEach [e] X.env = (false, eval e X.env) :: starEach [] X.env := by rfl) (nb : starEach [.Call (.Name "range" p2) [e] [] pos2] X.env = (false, eval (.Call (.Name "range" p2) [e] [] pos2) X.env) :: starEach [] X.env := by rfl) :
    EV X W (.Call (.Name "list" p) [.Call (.Name "range" p2) [e] [] pos2] [] pos) (eLstRg (eC (.int 0)) fa) := by
  refine pe_imp (pe_listRg hc hg hm (prg_1 hg2 hm2 ha na) nb) fun σ H Q h => ?_
  obtain ⟨B, m, ρ, S, r, re, f⟩ := up_one (fa := fa) (g := fun y ρ S => match D.int 0, y with
  | .int i, .int j => if -16777216 ≤ i ∧ i ≤ 16777216 ∧ -16777216 ≤ j ∧ j ≤ 16777216 ∧ (j - i).toNat ≤ 16777216 then .ok (.lst (iRng i j)) S else .bad
  | _, _ => .bad) h
  refine ⟨B, m, ρ, S, r, re, f.mono fun x H1 => ?_⟩
  rintro ⟨B, m, ρ, S, dx, r, re, rx, f⟩
  cases dx with
  | int j =>
    cases rx
    dsimp only at f
    split at f
    · rename_i hj
      refine ⟨j, rfl, rgok hj, fun q hq => f.ok r (same_upd hq) (.lst upd_same (fr_of r q hq) ?_ (rgV_rep 0 j))⟩
      rw [rgV_length, sizeLine_eq]; omega
    · exact f.elim
  | _ => exact f.elim
theorem ev_lstRg1M (hc : X.calm = true) (hg : Gl X "list") (hm : X.mg "list" = none) (hg2 : Gl X "range") (hm2 : X.mg "range" = none) (ha : EV X W e fa)
    (na : starEach [e] X.env = (false, eval e X.env) :: starEach [] X.env := by rfl) (nb : starEach [.Call (.Name "range" p2) [e] [] pos2] X.env = (false, eval (.Call (.Name "range" p2) [e] [] pos2) X.env) :: starEach [] X.env := by rfl) :
    EV X W (.Call (.Name "list" p) [.Call (.Name "range" p2) [e] [] pos2] [] pos) (eLstRgM (eC (.int 0)) fa) := by
  refine pe_imp (pe_listRg hc hg hm (prg_1 hg2 hm2 ha na) nb) fun σ H Q h => ?_
  obtain ⟨B, m, ρ, S, r, re, f⟩ := up_one (fa := fa) (g := fun y ρ S => match D.int 0, y with
  | .int i, .int j => if -16777216 ≤ i ∧ i ≤ 16777216 ∧ -16777216 ≤ j ∧ j ≤ 16777216 ∧ (j - i).toNat ≤ 16777216 then .ok (.ref S.length) (S ++ [some (.lst (iRng i j))]) else .bad
  | _, _ => .bad) h
  refine ⟨B, m, ρ, S, r, re, f.mono fun x H1 => ?_⟩
  rintro ⟨B, m, ρ, S, dx, r, re, rx, f⟩
  cases dx with
  | int j =>
    cases rx
    dsimp only at f
    split at f
    · rename_i hj
      exact ⟨j, rfl, rgok hj, fun q hq => f (m ++ [q]) _ _ (Post.new r hq (.lst upd_same (by rw [rgV_length, sizeLine_eq]; omega) (rgV_rep 0 j))) (rep_new r)⟩
    · exact f.elim
  | _ => exact f.elim
end

/-! ### constants of the module -/
section
variable {X : Cx} {W : WX} {x : Str} {pos : Pos}
theorem ev_gint {i : Int} (hg : Gl X x) (hm : ∃ t, X.mg x = some (.int i t)) (hd : (x == ("__debug__" : Str)) = false := by decide) : EV X W (.Name x pos) (eC (.int i)) := by
  obtain ⟨t, hm⟩ := hm
  exact pe_imp (pe_glob (v := .int i) hg hm ⟨t, rfl⟩ hd) fun σ H Q ⟨B, m, ρ, S, r, re, f⟩ => fin.ok r f (Same.refl H) (.int i)
theorem ev_gstr {i : Str} (hg : Gl X x) (hm : ∃ t, X.mg x = some (.str i t)) (hd : (x == ("__debug__" : Str)) = false := by decide) : EV X W (.Name x pos) (eC (.str i)) := by
  obtain ⟨t, hm⟩ := hm
  exact pe_imp (pe_glob (v := .str i) hg hm ⟨t, rfl⟩ hd) fun σ H Q ⟨B, m, ρ, S, r, re, f⟩ => fin.ok r f (Same.refl H) (.str i)
theorem ev_gtupI {a : Addr} {ns : List Int} (hg : Gl X x) (hm : X.mg x = some (.ref a)) (hk : ∀ H, SqT X.K H a (ns.map V.int)) (hz : ns.length ≤ sizeLine) (hd : (x == ("__debug__" : Str)) = false := by decide) : EV X W (.Name x pos) (eC (.tup (ns.map .int))) :=
  pe_imp (pe_glob (v := .ref a) hg hm rfl hd) fun σ H Q ⟨B, m, ρ, S, r, re, f⟩ => fin.ok r f (Same.refl H) (.tup (hk H) (by simpa using hz) (repA_ints ns))
end

/-! ### xs[::-1] -/
def revD : D → Option D
  | .lst xs => some (.lst xs.reverse)
  | .tup xs => some (.tup xs.reverse)
  | _ => none
theorem revAdj (n : Nat) : Builtin.Slice.sliceAdjust none none (-1) (n : Int) = ((n : Int) - 1, -1) := by
  unfold Builtin.Slice.sliceAdjust
  simp
theorem revPl (n : Nat) : Builtin.Slice.slicePlaces ((n : Int) - 1) (-1) (-1) = n := by
  unfold Builtin.Slice.slicePlaces
  simp
  split <;> omega
theorem fmCongr {α β : Type} {f : α → Option β} {g : α → β} : ∀ (l : List α), (∀ k ∈ l, f k = some (g k)) → l.filterMap f = l.map g
  | [], _ => rfl
  | a :: l, h => by
    rw [List.filterMap_cons, h a (by simp), List.map_cons, fmCongr l fun k hk => h k (by simp [hk])]
theorem revPick (xs : Array Value) : ((List.range xs.size).filterMap fun (k : Nat) => xs[(((xs.size : Nat) : Int) - 1 + (k : Int) * -1).toNat]?).toArray = xs.toList.reverse.toArray := by
  have e : ∀ k ∈ List.range xs.size, xs[(((xs.size : Nat) : Int) - 1 + (k : Int) * -1).toNat]? = some (xs.toList.reverse.getD k .none) := by
    intro k hk
    have hk' : k < xs.size := by simpa using hk
    have e1 : (((xs.size : Nat) : Int) - 1 + (k : Int) * -1).toNat = xs.size - 1 - k := by omega
    rw [e1, Array.getElem?_eq_getElem (by omega)]
    rw [List.getD_eq_getElem?_getD, List.getElem?_reverse (by simpa using hk')]
    rw [Array.length_toList, Array.getElem?_toList, Array.getElem?_eq_getElem (by omega)]
    rfl
  have e2 : (List.range xs.size).filterMap (fun (k : Nat) => xs[(((xs.size : Nat) : Int) - 1 + (k : Int) * -1).toNat]?) = (List.range xs.size).map fun k => xs.toList.reverse.getD k .none := by
    exact fmCongr _ e
  rw [e2]
  congr 1
  apply List.ext_getElem
  · simp
  · intro i h1 h2
    simp at h1
    rw [List.getElem_map, List.getElem_range, List.getD_eq_getElem?_getD, List.getElem?_eq_getElem (by simpa using h1)]
    rfl
theorem getItem_tuple_rev {prog : Program} {w : World} {A : Around} {E : Value → Shared → Prop} {s : Shared} {t sl : Addr} {items : Array Value} {vl vu vs : Value} {Q : Value → Shared → Prop} (ht : IsTup s.heap t items) (hs : s.heap.IsSliceOf sl vl vu vs) (pl : IsPart vl none) (pu : IsPart vu none) (ps : IsPart vs (some (-1)))
    (h : Q (.ref s.heap.objs.size) { s with heap := s.heap.push { cls := .type "tuple", data := .seq items.toList.reverse.toArray } })
    (hsz : items.size ≤ sizeLine) : wpAny (model prog w) A (getItem (.ref t) (.ref sl)) Q E s := by
  obtain ⟨os, hos, hcs, hds⟩ := id hs
  have hTs : s.TypeIs (.ref sl) "slice" := ⟨os, hos, hcs⟩
  unfold getItem
  try with_reducible refine wpAny_holding ?_
  first | refine wpAny_bind (wpAny_pure ?_) | skip
  refine wpAny_bind (wpAny_sequenceKey ht.typeIs (by decide) ?_)
  refine wpAny_bind (wpAny_callSpecial?_slot (name := Str.ofString "__getitem__") ht.typeIs PyProof.Rows.slot_tuple_getitem
    (wpAny_call_entry PyProof.Rows.slot_tuple_getitem ht.typeIs entry_tuple_getitem ?_ (args_tuple_getitem _ _)))
  show wpAny _ _ (Builtin.Tuple.tupleItemsOf (.ref t) >>= _) _ _ s
  refine wpAny_bind (tupleItemsOf_ ht ?_)
  refine wpAny_bind (wpAny_typeOf hTs ?_)
  rw [if_pos (by decide)]
  refine wpAny_bind ?_
  unfold Builtin.Slice.sliceApplied Builtin.Slice.sliceFields
  refine wpAny_bind (wpAny_bind (wpAny_field hos hds (x := vl) rfl (wpAny_bind (wpAny_field hos hds (x := vu) rfl (wpAny_bind (wpAny_field hos hds (x := vs) rfl (wpAny_pure ?_)))))))
  refine wpAny_bind (HT.slicePart_ ps ?_)
  show wpAny _ _ (if ((-1 : Int) == 0) = true then _ else _) _ _ s
  rw [if_neg (by decide)]
  refine wpAny_bind (HT.slicePart_ pl (wpAny_bind (HT.slicePart_ pu (wpAny_bind (wpAny_pure ?_)))))
  show wpAny _ _ (match Builtin.Slice.sliceAdjust none none (-1) ((items.size : Nat) : Int) with | (lo, hi) => pure (lo, (-1 : Int), Builtin.Slice.slicePlaces lo hi (-1))) _ _ s
  rw [revAdj]
  show wpAny _ _ (pure (((items.size : Nat) : Int) - 1, (-1 : Int), Builtin.Slice.slicePlaces (((items.size : Nat) : Int) - 1) (-1) (-1))) _ _ s
  rw [revPl]
  refine wpAny_pure ?_
  show wpAny _ _ (if ((((items.size : Nat) : Int) - 1) == 0 && (-1 : Int) == 1 && items.size == items.size) = true then _ else _) _ _ s
  rw [if_neg (by simp), revPick]
  have htake : sizeOk (.seq items.toList.reverse.toArray) := by
    show items.toList.reverse.toArray.size ≤ sizeLine
    simpa using hsz
  first
    | exact wpAny_bind (m := Builtin.Tuple.tupleExact _) (wpAny_newObj_type (wpAny_pure ⟨_, rfl, wpAny_pure h⟩) htake)
    | exact wpAny_bind (m := Builtin.Tuple.tupleExact _) (wpAny_newObj_type (wpAny_bind (wpAny_pure (wpAny_pure ⟨_, rfl, wpAny_pure h⟩))) htake)
    | exact wpAny_bind (wpAny_bind (m := Builtin.Tuple.tupleExact _) (wpAny_newObj_type (wpAny_pure (wpAny_pure ⟨_, rfl, wpAny_pure h⟩)) htake))
    | exact wpAny_bind (wpAny_bind (m := Builtin.Tuple.tupleExact _) (wpAny_newObj_type (wpAny_pure ⟨_, rfl, wpAny_pure h⟩) htake))
section
variable {X : Cx} {W : WX} {e : Expr} {fe : Ex} {k : Nat} {p1 p2 p3 pos : Pos}
theorem ev_rev (he : EV X W e fe) : EV X W (.Subscript e (.Slice none none (some (.UnaryOp .USub (.Constant (.int 1) k p1) p2)) p3) pos) (eOp1 revD fe) := by
  refine ⟨fun pins s σ H Q I h0 => ?_⟩
  have h1 := one_of h0
  refine Subscript_ (thn (he.run pins s σ H _ I h1) fun v s1 ⟨x, H1, I1, r1, Fb, m, dx, d, fr, vx, e1, kk⟩ => ?_)
  have hst : PO X (some (.UnaryOp .USub (.Constant (.int 1) k p1) p2)) (tPart (tUn (rU fun i => .int (-i)) (tC (.int 1)))) := po_some (pe_un un_neg pe_int)
  refine wpAny_Slice (thn (po_none.run pins s1 σ H1 (fun o H2 => o = none ∧ H2 = H1) I1 ⟨rfl, rfl⟩) fun vl s2 ⟨l, H2, I2, pl, el, e2⟩ => ?_)
  subst el e2
  refine thn (po_none.run pins s2 σ H2 (fun o H3 => o = none ∧ H3 = H2) I2 ⟨rfl, rfl⟩) fun vu s3 ⟨u, H3, I3, pu, eu, e3⟩ => ?_
  subst eu e3
  refine thn (hst.run pins s3 σ H3 (fun o H4 => o = some (-1) ∧ H4 = H3) I3 ⟨1, rfl, -1, rfl, rfl, rfl⟩) fun vs s4 ⟨o, H4, I4, ps, eo, e4⟩ => ?_
  subst eo e4
  have I5 : Inv X pins σ H4 { s4 with heap := s4.heap.push { cls := .type "slice", data := .fields #[vl, vu, vs] } } := I4.kept (t' := s4.toks) fun b ob q => Heap.get?_push_of_some _ q
  unfold revD at e1
  split at e1
  · rename_i xs
    cases e1
    obtain ⟨a, ws, rfl, h1, z1, q1⟩ := vx.asL
    cases r1
    obtain ⟨its, r, ht, hz⟩ := I5.list (SqL.of (K := X.K) h1)
    have hlen := r.length
    show wpAny (model X.prog X.w) X.A (subscriptTail e (.Slice none none (some (.UnaryOp .USub (.Constant (.int 1) k p1) p2)) p3) (.ref a) (.ref s4.heap.objs.size)) (EP X pins σ Q) X.xe { s4 with heap := s4.heap.push { cls := .type "slice", data := .fields #[vl, vu, vs] } }
    refine tail_any (ops := [.ref a, .ref s4.heap.objs.size]) ht.isList.typeIs (PySem.slot_list_getitem.lookup) ?_ (by with_unfolding_all rfl)
    refine wpAny_getItem_list_slice ht.isList (Heap.IsSliceOf.new _ vl vu vs) pl pu ps (by decide) ?_ (by rw [List.size_toArray]; omega)
    rw [PySem.W.krv_pick]
    have hp := I5.hok.fresh (a := (s4.heap.push { cls := .type "slice", data := .fields #[vl, vu, vs] }).objs.size) (Nat.le_refl _)
    refine ⟨.ref _, _, I5.laid (t' := s4.toks) (o := .lst ws.reverse) (fun b ob q => Heap.get?_push_of_some _ q) (Nat.le_refl _) ?_, rfl, kk _ _ (same_upd hp) (.lst upd_same (fr _ hp) (by simpa using z1) (q1.reverse.kp (kp_same (same_upd hp))))⟩
    exact ⟨by rw [List.length_reverse]; exact hz, _, 0, r.reverse, Heap.get?_push_size _ rfl⟩
  · rename_i xs
    cases e1
    obtain ⟨a, ws, rfl, h1, z1, q1⟩ := vx.asT
    cases r1
    obtain ⟨its, r, ht, hz⟩ := I5.tuple h1
    have hlen := r.length
    show wpAny (model X.prog X.w) X.A (subscriptTail e (.Slice none none (some (.UnaryOp .USub (.Constant (.int 1) k p1) p2)) p3) (.ref a) (.ref s4.heap.objs.size)) (EP X pins σ Q) X.xe { s4 with heap := s4.heap.push { cls := .type "slice", data := .fields #[vl, vu, vs] } }
    refine tail_any (ops := [.ref a, .ref s4.heap.objs.size]) ht.typeIs (PyProof.Rows.slot_tuple_getitem.lookup) ?_ (by with_unfolding_all rfl)
    refine getItem_tuple_rev ht (Heap.IsSliceOf.new _ vl vu vs) pl pu ps ?_ (by rw [List.size_toArray]; omega)
    have hp := I5.hok.fresh (a := (s4.heap.push { cls := .type "slice", data := .fields #[vl, vu, vs] }).objs.size) (Nat.le_refl _)
    refine ⟨.ref _, _, I5.laid (t' := s4.toks) (o := .tup ws.reverse) (fun b ob q => Heap.get?_push_of_some _ q) (Nat.le_refl _) ?_, rfl, kk _ _ (same_upd hp) (.tup (.of upd_same) (by simpa using z1) (q1.reverse.kp (kp_same (same_upd hp))))⟩
    refine ⟨by rw [List.length_reverse]; exact hz, _, r.reverse, ?_⟩
    show IsTup _ _ its.reverse.toArray
    have e7 : its.reverse.toArray = its.toArray.toList.reverse.toArray := by simp
    rw [e7]
    exact IsTup.new _ _
  · cases e1
end
end DL

/-! ## DLz -/
set_option Elab.async false
set_option linter.all false
set_option maxRecDepth 100000
set_option maxHeartbeats 4000000
namespace DL
open PySem PySem.Spec PyProof.Rows L2

/-! ### zip, strict or not, of lists and tuples -/
abbrev IsZipB (b : Bool) (h : Heap) (z TI TO : Addr) (f0 : Value) : Prop :=
  h.get? z = some { cls := .type "zip", dict := none, data := .fields #[f0, .bool false, .bool b, .ref TI, .ref TO], slots := #[] }
def SI (t : Bool) (h : Heap) (it a : Addr) (k : Nat) : Prop := if t = true then h.IsTupleIter it a k else h.IsListIter it a k
def SS (t : Bool) (h : Heap) (a : Addr) (xs : Array Value) : Prop := if t = true then h.IsTuple a xs else h.IsList a xs
theorem SI.extBut {t : Bool} {h h' : Heap} {a b l : Addr} {i : Nat} (x : SI t h a l i) (hs : Heap.ExtBut b h h') (hab : a ≠ b) : SI t h' a l i := by
  cases t with
  | true => exact Heap.IsTupleIter.extBut (show h.IsTupleIter a l i from x) hs hab
  | false => exact Heap.IsListIter.extBut (show h.IsListIter a l i from x) hs hab
theorem SI.at {t : Bool} {h h' : Heap} {a l : Addr} {i : Nat} (x : SI t h a l i) (k : ∀ o, h.get? a = some o → h'.get? a = some o) : SI t h' a l i := by
  cases t with
  | true => obtain ⟨o, e, r⟩ := (show h.IsTupleIter a l i from x); exact ⟨o, k o e, r⟩
  | false => obtain ⟨o, e, r⟩ := (show h.IsListIter a l i from x); exact ⟨o, k o e, r⟩
theorem SI.obj {t : Bool} {h : Heap} {a l : Addr} {i : Nat} (x : SI t h a l i) : ∃ o, h.get? a = some o ∧ ∀ v, o.data ≠ .cell v := by
  cases t with
  | true => obtain ⟨o, e, _, d⟩ := (show h.IsTupleIter a l i from x); exact ⟨o, e, fun v z => by rw [d] at z; cases z⟩
  | false => obtain ⟨o, e, _, d⟩ := (show h.IsListIter a l i from x); exact ⟨o, e, fun v z => by rw [d] at z; cases z⟩
theorem SI.lt {t : Bool} {h : Heap} {a l : Addr} {i : Nat} (x : SI t h a l i) : a < h.objs.size := by
  obtain ⟨o, e, _⟩ := x.obj
  exact Heap.lt_size e
theorem SS.extBut {t : Bool} {h h' : Heap} {a b : Addr} {xs : Array Value} (x : SS t h a xs) (hs : Heap.ExtBut b h h') (hab : a ≠ b) : SS t h' a xs := by
  cases t with
  | true => obtain ⟨o, e, r⟩ := (show h.IsTuple a xs from x); exact ⟨o, hs a o hab e, r⟩
  | false => exact Heap.IsList.extBut (show h.IsList a xs from x) hs hab
section
variable {prog : Program} {w : World} {A : Around} {E : Value → Shared → Prop} {s : Shared}
theorem src_item {t : Bool} {it l : Addr} {i : Nat} {items : Array Value} {x : Value} {Q : Value → Shared → Prop} (hit : SI t s.heap it l i) (hl : SS t s.heap l items) (hx : items[i]? = some x)
    (hQ : ∀ h', SI t h' it l (i + 1) → Heap.SameBut it s.heap h' → Q x { s with heap := h' }) : wpAny (model prog w) A (Builtin.SmallTypes.nextOf (.ref it)) Q E s := by
  cases t with
  | true => exact RZ.nextOf_tuple_item (show s.heap.IsTupleIter it l i from hit) (show s.heap.IsTuple l items from hl) hx hQ
  | false => exact wpAny_nextOf_list_item (show s.heap.IsListIter it l i from hit) (show s.heap.IsList l items from hl) hx hQ
theorem src_end {t : Bool} {it l : Addr} {i : Nat} {items : Array Value} {Q : Value → Shared → Prop} (hh : A.handled = none) (hit : SI t s.heap it l i) (hl : SS t s.heap l items) (hx : items[i]? = none)
    (hE : ∀ h' e, Heap.ExtBut it s.heap h' → (∃ o, h'.get? e = some o ∧ o.cls = .type "StopIteration") → E (.ref e) { s with heap := h' }) : wpAny (model prog w) A (Builtin.SmallTypes.nextOf (.ref it)) Q E s := by
  cases t with
  | true => exact RZ.nextOf_tuple_end hh (show s.heap.IsTupleIter it l i from hit) (show s.heap.IsTuple l items from hl) hx hE
  | false => exact wpAny_nextOf_list_end hh (show s.heap.IsListIter it l i from hit) (show s.heap.IsList l items from hl) hx hE
theorem srcE_item {t : Bool} {it l : Addr} {i : Nat} {items : Array Value} {x : Value} {Q : Option Value → Shared → Prop} (hit : SI t s.heap it l i) (hl : SS t s.heap l items) (hx : items[i]? = some x)
    (hQ : ∀ h', SI t h' it l (i + 1) → Heap.SameBut it s.heap h' → Q (some x) { s with heap := h' }) : wpAny (model prog w) A (Builtin.SmallTypes.nextOrEnd (.ref it)) Q E s := by
  unfold Builtin.SmallTypes.nextOrEnd
  refine wpAny_bind (wpAny_attempt (src_item hit hl hx fun h' a b => ?_))
  exact wpAny_pure (hQ h' a b)
theorem srcE_end {t : Bool} {it l : Addr} {i : Nat} {items : Array Value} {Q : Option Value → Shared → Prop} (hh : A.handled = none) (hit : SI t s.heap it l i) (hl : SS t s.heap l items) (hx : items[i]? = none)
    (hQ : ∀ h', Heap.ExtBut it s.heap h' → Q none { s with heap := h' }) : wpAny (model prog w) A (Builtin.SmallTypes.nextOrEnd (.ref it)) Q E s := by
  unfold Builtin.SmallTypes.nextOrEnd
  refine wpAny_bind (wpAny_attempt (src_end hh hit hl hx fun h' e hk he => ?_))
  obtain ⟨o, ho, hc⟩ := he
  refine wpAny_bind (wpAny_isInstance (T := "StopIteration") (b := true) ⟨o, ho, hc⟩ isSubtype_stop ?_)
  exact wpAny_pure (hQ _ hk)
theorem zipS_next_item {t1 t2 : Bool} {z TI TO i1 i2 l1 l2 : Addr} {k1 k2 : Nat} {xs ys : Array Value} {x y a b : Value} {Q : Value → Shared → Prop} (D : ZipApart z TI TO i1 i2 l1 l2)
    (hz : IsZipB true s.heap z TI TO .none) (hTI : IsPair s.heap TI (.ref i1) (.ref i2)) (hTO : IsPair s.heap TO a b)
    (h1 : SI t1 s.heap i1 l1 k1) (h2 : SI t2 s.heap i2 l2 k2) (hl1 : SS t1 s.heap l1 xs) (hl2 : SS t2 s.heap l2 ys) (hx : xs[k1]? = some x) (hy : ys[k2]? = some y)
    (hQ : ∀ h', IsZipB true h' z TI TO (rawInt s.heap.objs.size) → IsPair h' TO x y → SI t1 h' i1 l1 (k1 + 1) → SI t2 h' i2 l2 (k2 + 1) → IsPair h' s.heap.objs.size x y → h'.objs.size = s.heap.objs.size + 1 →
      (∀ c o, c ≠ z → c ≠ TO → c ≠ i1 → c ≠ i2 → s.heap.get? c = some o → h'.get? c = some o) → Q (.ref s.heap.objs.size) { s with heap := h' }) :
    wpAny (model prog w) A (Builtin.«zip.__next__» ⟨[.ref z], []⟩) (fun fin s' => ∃ v, fin = .done (.ret v) ∧ Q v s') E s := by
  show wpAny _ _ (field (.ref z) 2 >>= _) _ _ _
  refine wpAny_bind (wpAny_field hz rfl (x := .bool true) rfl ?_)
  show wpAny _ _ (field (.ref z) 3 >>= _) _ _ _
  refine wpAny_bind (wpAny_field hz rfl (x := .ref TI) rfl ?_)
  refine wpAny_bind (wpAny_seqItems hTI rfl ?_)
  show wpAny _ _ (Builtin.SmallTypes.ownedTupleIsFree (.ref z) >>= _) _ _ _
  refine wpAny_bind ?_
  unfold Builtin.SmallTypes.ownedTupleIsFree
  refine wpAny_bind (wpAny_field hz rfl (x := .none) rfl (wpAny_pure ?_))
  simp only [if_true]
  refine wpAny_bind (wpAny_rule ?_)
  refine wpAny_bind (wpAny_field hz rfl (x := .ref TO) rfl ?_)
  refine wpAny_bind (wpAny_setField_rec hz (by simp) fun h₁ hz₁ hs₁ => ?_)
  replace hz₁ : IsZipB true h₁ z TI TO .ellipsis := hz₁
  refine wpAny_bind ?_
  simp only [List.zipIdx_cons, List.zipIdx_nil, List.forIn_cons, List.forIn_nil]
  refine wpAny_bind (wpAny_bind (wpAny_onRaise ?_))
  show wpAny _ _ (Builtin.SmallTypes.nextOrEnd (.ref i1)) _ _ _
  refine srcE_item (h1.extBut hs₁.extBut D.i1z) (hl1.extBut hs₁.extBut D.l1z) hx fun h₂ h1₂ hs₂ => ?_
  have hTO₂ : IsPair h₂ TO a b := hs₂.extBut _ _ D.TOi1 (hs₁.extBut _ _ D.TOz hTO)
  refine wpAny_bind (wpAny_seqItems hTO₂ rfl ?_)
  refine wpAny_bind (wpAny_updateSeq_pair hTO₂ fun h₃ hTO₃ hs₃ => ?_)
  replace hTO₃ : IsPair h₃ TO x b := hTO₃
  refine wpAny_bind (wpAny_letGo (wpAny_pure ?_))
  refine wpAny_bind (wpAny_bind (wpAny_onRaise ?_))
  show wpAny _ _ (Builtin.SmallTypes.nextOrEnd (.ref i2)) _ _ _
  refine srcE_item (((h2.extBut hs₁.extBut D.i2z).extBut hs₂.extBut D.i12.symm).extBut hs₃.extBut D.TOi2.symm)
    (((hl2.extBut hs₁.extBut D.l2z).extBut hs₂.extBut D.l2i1).extBut hs₃.extBut D.l2TO) hy fun h₄ h2₄ hs₄ => ?_
  have hTO₄ : IsPair h₄ TO x b := hs₄.extBut _ _ D.TOi2 hTO₃
  refine wpAny_bind (wpAny_seqItems hTO₄ rfl ?_)
  refine wpAny_bind (wpAny_updateSeq_pair hTO₄ fun h₅ hTO₅ hs₅ => ?_)
  replace hTO₅ : IsPair h₅ TO x y := hTO₅
  refine wpAny_bind (wpAny_letGo (wpAny_pure (wpAny_pure ?_)))
  refine wpAny_bind (wpAny_seqItems hTO₅ rfl ?_)
  refine wpAny_bind (wpAny_newTuple ?_)
  have hsz : h₅.objs.size = s.heap.objs.size := by rw [hs₅.1, hs₄.1, hs₃.1, hs₂.1, hs₁.1]
  have hz₅ : IsZipB true h₅ z TI TO .ellipsis := hs₅.extBut _ _ D.TOz.symm (hs₄.extBut _ _ D.i2z.symm (hs₃.extBut _ _ D.TOz.symm (hs₂.extBut _ _ D.i1z.symm hz₁)))
  have hk₅ : ∀ c o, c ≠ z → c ≠ TO → c ≠ i1 → c ≠ i2 → s.heap.get? c = some o → h₅.get? c = some o := fun c o c1 c2 c3 c4 e =>
    hs₅.extBut _ _ c2 (hs₄.extBut _ _ c4 (hs₃.extBut _ _ c2 (hs₂.extBut _ _ c3 (hs₁.extBut _ _ c1 e))))
  have h1₅ : SI t1 h₅ i1 l1 (k1 + 1) := ((h1₂.extBut hs₃.extBut D.TOi1.symm).extBut hs₄.extBut D.i12).extBut hs₅.extBut D.TOi1.symm
  have h2₅ : SI t2 h₅ i2 l2 (k2 + 1) := h2₄.extBut hs₅.extBut D.TOi2.symm
  have hzlt : z < h₅.objs.size := Heap.lt_size hz₅
  have hTOlt : TO < h₅.objs.size := Heap.lt_size hTO₅
  have hi1lt : i1 < h₅.objs.size := h1₅.lt
  have hi2lt : i2 < h₅.objs.size := h2₅.lt
  show wpAny _ _ (Builtin.SmallTypes.ownedTupleHandOut (.ref z) (.ref h₅.objs.size) >>= _) _ _ _
  refine wpAny_bind ?_
  unfold Builtin.SmallTypes.ownedTupleHandOut
  have hz₆ : IsZipB true (h₅.push { cls := .type "tuple", data := .seq #[x, y] }) z TI TO .ellipsis := Heap.get?_push_of_some _ hz₅
  refine wpAny_bind (wpAny_setField_rec hz₆ (by simp) fun h₇ hz₇ hs₇ => ?_)
  replace hz₇ : IsZipB true h₇ z TI TO (rawInt h₅.objs.size) := hz₇
  refine wpAny_setField_rec hz₇ (by simp) fun h₈ hz₈ hs₈ => ?_
  replace hz₈ : IsZipB true h₈ z TI TO (rawInt h₅.objs.size) := hz₈
  have up : ∀ c o, c ≠ z → h₅.get? c = some o → h₈.get? c = some o := fun c o c1 e => hs₈.extBut _ _ c1 (hs₇.extBut _ _ c1 (Heap.get?_push_of_some _ e))
  have hT₈ : IsPair h₈ h₅.objs.size x y := hs₈.extBut _ _ (Nat.ne_of_gt hzlt) (hs₇.extBut _ _ (Nat.ne_of_gt hzlt) (Heap.get?_push_size _ rfl))
  have hz8 : h₈.objs.size = h₅.objs.size + 1 := by rw [hs₈.1, hs₇.1, Heap.size_push]
  rw [hsz] at hz₈ hT₈ hz8
  refine wpAny_pure ⟨_, rfl, ?_⟩
  show Q (.ref h₅.objs.size) _
  rw [hsz]
  exact hQ h₈ hz₈ (up _ _ D.TOz hTO₅) (h1₅.at fun o e => up _ o D.i1z e) (h2₅.at fun o e => up _ o D.i2z e) hT₈ hz8 fun c o c1 c2 c3 c4 e => up c o c1 (hk₅ c o c1 c2 c3 c4 e)
theorem zipS_next_end {t1 t2 : Bool} {z TI TO i1 i2 l1 l2 : Addr} {k1 k2 : Nat} {xs ys : Array Value} {a b : Value} {Q : Fin → Shared → Prop} (hh : A.handled = none) (D : ZipApart z TI TO i1 i2 l1 l2)
    (hz : IsZipB true s.heap z TI TO .none) (hTI : IsPair s.heap TI (.ref i1) (.ref i2)) (hTO : IsPair s.heap TO a b)
    (h1 : SI t1 s.heap i1 l1 k1) (h2 : SI t2 s.heap i2 l2 k2) (hl1 : SS t1 s.heap l1 xs) (hl2 : SS t2 s.heap l2 ys) (hx : xs[k1]? = none) (hy : ys[k2]? = none)
    (hE : ∀ h' e, (∀ c o, c ≠ z → c ≠ TO → c ≠ i1 → c ≠ i2 → s.heap.get? c = some o → h'.get? c = some o) → (∃ o, h'.get? e = some o ∧ o.cls = .type "StopIteration") → E (.ref e) { s with heap := h' }) :
    wpAny (model prog w) A (Builtin.«zip.__next__» ⟨[.ref z], []⟩) Q E s := by
  show wpAny _ _ (field (.ref z) 2 >>= _) _ _ _
  refine wpAny_bind (wpAny_field hz rfl (x := .bool true) rfl ?_)
  show wpAny _ _ (field (.ref z) 3 >>= _) _ _ _
  refine wpAny_bind (wpAny_field hz rfl (x := .ref TI) rfl ?_)
  refine wpAny_bind (wpAny_seqItems hTI rfl ?_)
  show wpAny _ _ (Builtin.SmallTypes.ownedTupleIsFree (.ref z) >>= _) _ _ _
  refine wpAny_bind ?_
  unfold Builtin.SmallTypes.ownedTupleIsFree
  refine wpAny_bind (wpAny_field hz rfl (x := .none) rfl (wpAny_pure ?_))
  simp only [if_true]
  refine wpAny_bind (wpAny_rule ?_)
  refine wpAny_bind (wpAny_field hz rfl (x := .ref TO) rfl ?_)
  refine wpAny_bind (wpAny_setField_rec hz (by simp) fun h₁ hz₁ hs₁ => ?_)
  replace hz₁ : IsZipB true h₁ z TI TO .ellipsis := hz₁
  refine wpAny_bind ?_
  simp only [List.zipIdx_cons, List.zipIdx_nil, List.forIn_cons, List.forIn_nil]
  refine wpAny_bind (wpAny_bind (wpAny_onRaise ?_))
  show wpAny _ _ (Builtin.SmallTypes.nextOrEnd (.ref i1)) _ _ _
  refine srcE_end hh (h1.extBut hs₁.extBut D.i1z) (hl1.extBut hs₁.extBut D.l1z) hx fun h₂ hs₂ => ?_
  have hz₂ : IsZipB true h₂ z TI TO .ellipsis := hs₂ _ _ D.i1z.symm hz₁
  refine wpAny_bind (wpAny_setField_rec hz₂ (by simp) fun h₃ _ hs₃ => ?_)
  refine wpAny_bind ?_
  refine wpAny_bind ?_
  simp only [List.drop_succ_cons, List.drop_zero, List.zipIdx_cons, List.zipIdx_nil, List.forIn_cons, List.forIn_nil]
  refine wpAny_bind ?_
  refine wpAny_bind (srcE_end hh (((h2.extBut hs₁.extBut D.i2z).extBut hs₂ D.i12.symm).extBut hs₃.extBut D.i2z) (((hl2.extBut hs₁.extBut D.l2z).extBut hs₂ D.l2i1).extBut hs₃.extBut D.l2z) hy fun h₄ hs₄ => ?_)
  rw [if_neg (show ¬ ((none : Option Value).isSome = true) by decide)]
  refine wpAny_pure (wpAny_pure (wpAny_bind (wpAny_rule ?_)))
  show wpAny _ _ (newExc (.type "StopIteration") [] >>= _) _ _ _
  refine wpAny_bind ?_
  simp only [newExc, newTuple]
  refine wpAny_bind (wpAny_newObj_type ?_ (by size_fits))
  refine wpAny_bind (m := firstArgMember _ _) (wpAny_of_eq (a := Value.none) (by first | rfl | (simp only [firstArgMember]; rfl)) ?_)
  refine wpAny_newObj_type ?_ (by size_fits)
  simp only [raiseNew]
  refine wpAny_bind (wpAny_handled ?_)
  first | rw [show A.in1.handled = none from hh] | rw [hh]
  refine wpAny_bind (wpAny_pure (wpAny_throw ?_))
  refine hE _ _ (fun c o c1 c2 c3 c4 x => Heap.get?_push_of_some _ (Heap.get?_push_of_some _ (hs₄ _ _ c4 (hs₃.extBut _ _ c1 (hs₂ _ _ c3 (hs₁.extBut _ _ c1 x)))))) ⟨_, Heap.get?_push_size _ rfl, rfl⟩
theorem pyNext_zipS_item {t1 t2 : Bool} {z TI TO i1 i2 l1 l2 : Addr} {k1 k2 : Nat} {xs ys : Array Value} {x y a b : Value} {Q : Option Value → Shared → Prop} (D : ZipApart z TI TO i1 i2 l1 l2)
    (hz : IsZipB true s.heap z TI TO .none) (hTI : IsPair s.heap TI (.ref i1) (.ref i2)) (hTO : IsPair s.heap TO a b)
    (h1 : SI t1 s.heap i1 l1 k1) (h2 : SI t2 s.heap i2 l2 k2) (hl1 : SS t1 s.heap l1 xs) (hl2 : SS t2 s.heap l2 ys) (hx : xs[k1]? = some x) (hy : ys[k2]? = some y)
    (hQ : ∀ h', IsZipB true h' z TI TO (rawInt s.heap.objs.size) → IsPair h' TO x y → SI t1 h' i1 l1 (k1 + 1) → SI t2 h' i2 l2 (k2 + 1) → IsPair h' s.heap.objs.size x y → h'.objs.size = s.heap.objs.size + 1 →
      (∀ c o, c ≠ z → c ≠ TO → c ≠ i1 → c ≠ i2 → s.heap.get? c = some o → h'.get? c = some o) → Q (some (.ref s.heap.objs.size)) { s with heap := h' }) :
    wpAny (model prog w) A (pyNext (.ref z)) Q E s := by
  have hT : s.TypeIs (.ref z) "zip" := ⟨_, hz, rfl⟩
  unfold pyNext
  exact wpAny_bind (wpAny_attempt (wpAny_callSpecial?_slot (name := Str.ofString "__next__") hT F.slot_zip_next
    (wpAny_call_entry F.slot_zip_next hT F.entry_zip_next
      (zipS_next_item D hz hTI hTO h1 h2 hl1 hl2 hx hy fun h' a1 a2 a3 a4 a5 a6 a7 => wpAny_pure (hQ h' a1 a2 a3 a4 a5 a6 a7)) (F.args_zip_next_1 _))))
theorem pyNext_zipS_end {t1 t2 : Bool} {z TI TO i1 i2 l1 l2 : Addr} {k1 k2 : Nat} {xs ys : Array Value} {a b : Value} {Q : Option Value → Shared → Prop} (hh : A.handled = none) (D : ZipApart z TI TO i1 i2 l1 l2)
    (hz : IsZipB true s.heap z TI TO .none) (hTI : IsPair s.heap TI (.ref i1) (.ref i2)) (hTO : IsPair s.heap TO a b)
    (h1 : SI t1 s.heap i1 l1 k1) (h2 : SI t2 s.heap i2 l2 k2) (hl1 : SS t1 s.heap l1 xs) (hl2 : SS t2 s.heap l2 ys) (hx : xs[k1]? = none) (hy : ys[k2]? = none)
    (hQ : ∀ h', (∀ c o, c ≠ z → c ≠ TO → c ≠ i1 → c ≠ i2 → s.heap.get? c = some o → h'.get? c = some o) → Q none { s with heap := h' }) : wpAny (model prog w) A (pyNext (.ref z)) Q E s := by
  have hT : s.TypeIs (.ref z) "zip" := ⟨_, hz, rfl⟩
  unfold pyNext
  refine wpAny_bind (wpAny_attempt (wpAny_callSpecial?_slot (name := Str.ofString "__next__") hT F.slot_zip_next
    (wpAny_call_entry F.slot_zip_next hT F.entry_zip_next (zipS_next_end hh D hz hTI hTO h1 h2 hl1 hl2 hx hy fun h' e hk he => ?_) (F.args_zip_next_1 _))))
  obtain ⟨o, ho, hc⟩ := he
  refine wpAny_bind (wpAny_isInstance (T := "StopIteration") (b := true) ⟨o, ho, hc⟩ isSubtype_stop ?_)
  exact wpAny_pure (hQ _ hk)
theorem letGo_zipS {elts : List Expr} {x1} {pos : Pos} {z TI TO T : Addr} {Q : Unit → Shared → Prop} (hz : IsZipB true s.heap z TI TO (rawInt T))
    (hQ : ∀ h', IsZipB true h' z TI TO .none → Heap.SameBut z s.heap h' → Q () { s with heap := h' }) :
    wpAny (model prog w) A (letOwnedTupleGo (.Tuple elts x1 pos) (.ref z) (.ref T)) Q E s := by
  unfold letOwnedTupleGo
  refine wpAny_bind (wpAny_load hz ?_)
  show wpAny _ _ (if (["enumerate", "zip", "dict_itemiterator", "dict_reverseitemiterator", "odict_iterator", "itertools.zip_longest", "itertools.pairwise"].contains "zip" &&
      (#[rawInt T, .bool false, .bool true, .ref TI, .ref TO] : Array Value)[0]? == some (rawInt T)) = true then _ else _) Q E s
  rw [if_pos (by simp)]
  refine wpAny_bind (wpAny_rule ?_)
  show wpAny _ _ (setField (.ref z) 0 .none) Q E s
  exact wpAny_setField_rec hz (by simp) fun h' hz' hs' => hQ h' hz' hs'
theorem pyIter_zipS {z TI TO : Addr} {f0 : Value} {Q : Value → Shared → Prop} (hz : IsZipB true s.heap z TI TO f0) (h : Q (.ref z) s) : wpAny (model prog w) A (pyIter (.ref z)) Q E s := by
  have hT : s.TypeIs (.ref z) "zip" := ⟨_, hz, rfl⟩
  refine wpAny_pyIter_slot hT F.slot_zip_iter (wpAny_call_entry F.slot_zip_iter hT F.entry_zip_iter ?_ (F.args_zip_iter_1 _))
  show wpAny _ _ (ret (.ref z)) _ _ s
  exact wpAny_pure ⟨_, rfl, "zip", _, hT, F.slot_zip_next.lookup, h⟩
end
def itO (t : Bool) (l : Addr) : Obj := { cls := .type (if t = true then "tuple_iterator" else "list_iterator"), data := .fields #[.ref l, .int 0 0] }
theorem itO_free (t : Bool) (l : Addr) : (itO t l).isFreed = false := by cases t <;> rfl
theorem src_iter {prog : Program} {w : World} {A : Around} {E : Value → Shared → Prop} {s : Shared} {t : Bool} {l : Addr} {xs : Array Value} {Q : Value → Shared → Prop} (h : SS t s.heap l xs) (q : Q (.ref s.heap.objs.size) { s with heap := s.heap.push (itO t l) }) : wpAny (model prog w) A (pyIter (.ref l)) Q E s := by
  cases t with
  | true => exact wpAny_pyIter_tuple (show s.heap.IsTuple l xs from h) q
  | false => exact wpAny_pyIter_list (show s.heap.IsList l xs from h) q
theorem SI.new {t : Bool} {h : Heap} {l : Addr} : SI t (h.push (itO t l)) h.objs.size l 0 := by
  cases t with
  | true => exact ⟨_, Heap.get?_push_size _ rfl, rfl, rfl⟩
  | false => exact ⟨_, Heap.get?_push_size _ rfl, rfl, rfl⟩
theorem SS.keep {t : Bool} {h h' : Heap} {a : Addr} {xs : Array Value} (x : SS t h a xs) (k : ∀ o, h.get? a = some o → h'.get? a = some o) : SS t h' a xs := by
  cases t with
  | true => obtain ⟨o, e, r⟩ := (show h.IsTuple a xs from x); exact ⟨o, k o e, r⟩
  | false => obtain ⟨o, e, r⟩ := (show h.IsList a xs from x); exact ⟨o, k o e, r⟩
theorem SS.lt {t : Bool} {h : Heap} {a : Addr} {xs : Array Value} (x : SS t h a xs) : a < h.objs.size := by
  cases t with
  | true => obtain ⟨o, e, r⟩ := (show h.IsTuple a xs from x); exact Heap.lt_size e
  | false => obtain ⟨o, e, r⟩ := (show h.IsList a xs from x); exact Heap.lt_size e
abbrev zS1 (h : Heap) (t1 : Bool) (l1 : Addr) : Heap := h.push (itO t1 l1)
abbrev zS2 (h : Heap) (t1 t2 : Bool) (l1 l2 : Addr) : Heap := (zS1 h t1 l1).push (itO t2 l2)
abbrev zS3 (h : Heap) (t1 t2 : Bool) (l1 l2 : Addr) : Heap := (zS2 h t1 t2 l1 l2).push { cls := .type "tuple", data := .seq #[.ref h.objs.size, .ref (zS1 h t1 l1).objs.size] }
abbrev zS4 (h : Heap) (t1 t2 : Bool) (l1 l2 : Addr) : Heap := (zS3 h t1 t2 l1 l2).push { cls := .type "tuple", data := .seq #[.none, .none] }
abbrev zS5 (h : Heap) (t1 t2 : Bool) (l1 l2 : Addr) : Heap := (zS4 h t1 t2 l1 l2).push { cls := .type "zip", data := .fields #[.none, .bool false, .bool true, .ref (zS2 h t1 t2 l1 l2).objs.size, .ref (zS3 h t1 t2 l1 l2).objs.size] }
abbrev kwS : List (Str × Value) := [(Str.ofString "strict", .bool true)]
theorem meets_zipS_new (t1 t2 : Bool) (l1 l2 : Addr) (xs ys : Array Value) :
    Meets (Builtin.«zip.__new__» ⟨[.type "zip", .ref l1, .ref l2], kwS⟩) (fun _ R s => SS t1 s.heap l1 xs ∧ SS t2 s.heap l2 ys ∧
      R (.ok (.ret (.ref (zS4 s.heap t1 t2 l1 l2).objs.size))) { s with heap := zS5 s.heap t1 t2 l1 l2 }) :=
  .of_wp fun prog w A R s h => by
    obtain ⟨hp, g, d, tk, os⟩ := s; obtain ⟨hl1, hl2, h⟩ := h
    have hsub := sub_zip
    have q1 : ∀ {A' : Around} {E : Value → Shared → Prop} {Q : Value → Shared → Prop}, Q (.ref hp.objs.size) ⟨hp.push (itO t1 l1), g, d, tk, os⟩ → wpAny (model prog w) A' (pyIter (.ref l1)) Q E ⟨hp, g, d, tk, os⟩ := fun q => src_iter (s := ⟨hp, g, d, tk, os⟩) hl1 q
    have q2 : ∀ {A' : Around} {E : Value → Shared → Prop} {Q : Value → Shared → Prop}, Q (.ref (hp.push (itO t1 l1)).objs.size) ⟨(hp.push (itO t1 l1)).push (itO t2 l2), g, d, tk, os⟩ → wpAny (model prog w) A' (pyIter (.ref l2)) Q E ⟨hp.push (itO t1 l1), g, d, tk, os⟩ :=
      fun q => src_iter (s := ⟨hp.push (itO t1 l1), g, d, tk, os⟩) (hl2.keep fun o e => Heap.get?_push_of_some _ e) q
    have e1 : (Str.ofString "strict" != ("strict" : Str)) = false := by decide +kernel
    wp_walk using q1, q2
    exact ⟨_, rfl, h⟩
theorem typeCall_zipS (a b : Value) : checkTypeCall "zip" ⟨[a, b], kwS⟩ = pure () := by kernel_rfl
theorem newCall_zipS (a b : Value) : checkBuiltinCall "zip.__new__" ⟨[.type "zip", a, b], kwS⟩ = pure () := by kernel_rfl
theorem args_object_initS (obj a b : Value) : argsOk "object.__init__" ⟨[obj, a, b], kwS⟩ := by unfold argsOk; kernel_rfl
section
variable {prog : Program} {w : World} {A : Around} {E : Value → Shared → Prop} {s : Shared}
theorem call_zipS {t1 t2 : Bool} {l1 l2 : Addr} {xs ys : Array Value} {Q : Value → Shared → Prop} (hl1 : SS t1 s.heap l1 xs) (hl2 : SS t2 s.heap l2 ys)
    (h : ∀ h', IsZipB true h' (s.heap.objs.size + 4) (s.heap.objs.size + 2) (s.heap.objs.size + 3) .none → IsPair h' (s.heap.objs.size + 2) (.ref s.heap.objs.size) (.ref (s.heap.objs.size + 1)) →
      IsPair h' (s.heap.objs.size + 3) .none .none → SI t1 h' s.heap.objs.size l1 0 → SI t2 h' (s.heap.objs.size + 1) l2 0 → h'.objs.size = s.heap.objs.size + 5 →
      (∀ c o, s.heap.get? c = some o → h'.get? c = some o) → Q (.ref (s.heap.objs.size + 4)) { s with heap := h' }) :
    wpAny (model prog w) A (call (.type "zip") [.ref l1, .ref l2] kwS) Q E s := by
  refine callType_newKw F.called_zip (by decide) (typeCall_zipS _ _) (newCall_zipS _ _) (fun obj => args_object_initS obj _ _) F.entry_zip_new
    (meets_zipS_new t1 t2 l1 l2 xs ys) ⟨hl1, hl2, ?_⟩
  have z1 : (zS1 s.heap t1 l1).objs.size = s.heap.objs.size + 1 := Heap.size_push ..
  have z2 : (zS2 s.heap t1 t2 l1 l2).objs.size = s.heap.objs.size + 2 := by rw [Heap.size_push, z1]
  have z3 : (zS3 s.heap t1 t2 l1 l2).objs.size = s.heap.objs.size + 3 := by rw [Heap.size_push, z2]
  have z4 : (zS4 s.heap t1 t2 l1 l2).objs.size = s.heap.objs.size + 4 := by rw [Heap.size_push, z3]
  have z5 : (zS5 s.heap t1 t2 l1 l2).objs.size = s.heap.objs.size + 5 := by rw [Heap.size_push, z4]
  have g5 : (zS5 s.heap t1 t2 l1 l2).get? (zS4 s.heap t1 t2 l1 l2).objs.size = some _ := Heap.get?_push_size _ rfl
  have g4 : (zS5 s.heap t1 t2 l1 l2).get? (zS3 s.heap t1 t2 l1 l2).objs.size = some _ := Heap.get?_push_of_some _ (Heap.get?_push_size _ rfl)
  have g3 : (zS5 s.heap t1 t2 l1 l2).get? (zS2 s.heap t1 t2 l1 l2).objs.size = some _ := Heap.get?_push_of_some _ (Heap.get?_push_of_some _ (Heap.get?_push_size _ rfl))
  have g2 : SI t2 (zS5 s.heap t1 t2 l1 l2) (zS1 s.heap t1 l1).objs.size l2 0 := SI.at (h := zS2 s.heap t1 t2 l1 l2) SI.new fun o e => Heap.get?_push_of_some _ (Heap.get?_push_of_some _ (Heap.get?_push_of_some _ e))
  have g1 : SI t1 (zS5 s.heap t1 t2 l1 l2) s.heap.objs.size l1 0 := SI.at (h := zS1 s.heap t1 l1) SI.new fun o e => Heap.get?_push_of_some _ (Heap.get?_push_of_some _ (Heap.get?_push_of_some _ (Heap.get?_push_of_some _ e)))
  show _ ∧ _
  rw [z2, z3, z4] at g5
  rw [z1, z2] at g3
  rw [z3] at g4
  rw [z1] at g2
  rw [z4]
  exact ⟨⟨_, g5, rfl⟩, h _ g5 g3 g4 g1 g2 z5 fun c o x =>
    Heap.get?_push_of_some _ (Heap.get?_push_of_some _ (Heap.get?_push_of_some _ (Heap.get?_push_of_some _ (Heap.get?_push_of_some _ x))))⟩
end
/-- read as a list or a tuple -/
def SqB (t : Bool) (K : PySem.W.Frag) (H : Hp) (a : Addr) (xs : List V) : Prop := if t = true then SqT K H a xs else SqL K H a xs
theorem seqB {X : Cx} {pins : List (Addr × Obj)} {σ : L2.St} {H : Hp} {s : Shared} {t : Bool} {a : Addr} {xs : List V} (I : Inv X pins σ H s) (h : SqB t X.K H a xs) : ∃ its : List Value, Vals xs its ∧ SS t s.heap a its.toArray := by
  cases t with
  | true => obtain ⟨its, r, p, _⟩ := I.tuple (show SqT X.K H a xs from h); exact ⟨its, r, p⟩
  | false => obtain ⟨its, r, p, _⟩ := I.list (show SqL X.K H a xs from h); exact ⟨its, r, p.isList⟩
theorem seqB_inj {X : Cx} {pins : List (Addr × Obj)} {σ : L2.St} {H : Hp} {s : Shared} {t : Bool} {a : Addr} {xs ys : List V} (I : Inv X pins σ H s) (h : SqB t X.K H a xs) (h' : SqB t X.K H a ys) : xs = ys := by
  cases t with
  | true => exact I.tuple_inj (show SqT X.K H a xs from h) h'
  | false => exact I.list_inj (show SqL X.K H a xs from h) h'
def ItzS (t1 t2 : Bool) (K : PySem.W.Frag) (a b : Addr) : It :=
  ⟨fun i H => ∃ (xs ys : List V) (x y : V), SqB t1 K H a xs ∧ SqB t2 K H b ys ∧ xs[i]? = some x ∧ ys[i]? = some y,
    fun i H v H' => ∃ T x y, v = .ref T ∧ H T = none ∧ H' = upd H T (.tup [x, y]) ∧ (∀ xs, SqB t1 K H a xs → xs[i]? = some x) ∧ ∀ ys, SqB t2 K H b ys → ys[i]? = some y,
    fun i H => ∃ xs ys : List V, SqB t1 K H a xs ∧ SqB t2 K H b ys ∧ xs.length ≤ i ∧ ys.length ≤ i⟩
theorem turn_zipS {t1 t2 : Bool} {P : Program} {w : World} {K : PySem.W.Frag} {elts : List Expr} {kk : Nat} {tpos : Pos} {a b z TI TO i1 i2 : Addr} (D : ZipApart z TI TO i1 i2 a b) :
    Turn P w K (.Tuple elts kk tpos) (ItzS t1 t2 K a b) [z, TI, TO, i1, i2] z (fun i h => IsZipB true h z TI TO .none ∧ IsPair h TI (.ref i1) (.ref i2) ∧ (∃ x y, IsPair h TO x y) ∧ SI t1 h i1 a i ∧ SI t2 h i2 b i) where
  mem := by simp
  obj := fun i h st c hc => by
    obtain ⟨hz, hTI, ⟨x, y, hTO⟩, h1, h2⟩ := st
    have e' : c = z ∨ c = TI ∨ c = TO ∨ c = i1 ∨ c = i2 := by simpa using hc
    rcases e' with q | q | q | q | q
    · rw [q]; exact ⟨_, hz, fun v q => nomatch q⟩
    · rw [q]; exact ⟨_, hTI, fun v q => nomatch q⟩
    · rw [q]; exact ⟨_, hTO, fun v q => nomatch q⟩
    · rw [q]; exact h1.obj
    · rw [q]; exact h2.obj
  keep := fun i h h' st k => by
    obtain ⟨hz, hTI, ⟨x, y, hTO⟩, h1, h2⟩ := st
    exact ⟨k z (by simp) _ hz, k TI (by simp) _ hTI, ⟨x, y, k TO (by simp) _ hTO⟩, h1.at fun o q => k i1 (by simp) o q, h2.at fun o q => k i2 (by simp) o q⟩
  item := by
    intro X hP hw hK hc i pins s σ H E I hf st hg
    subst hP hw hK
    obtain ⟨hz, hTI, ⟨x0, y0, hTO⟩, h1, h2⟩ := st
    obtain ⟨xs, ys, x, y, hqx, hqy, hx, hy⟩ := hg
    obtain ⟨its, rv, p⟩ := seqB I hqx
    obtain ⟨its2, rv2, p2⟩ := seqB I hqy
    obtain ⟨u, hu, ru⟩ := rv.get hx
    obtain ⟨u2, hu2, ru2⟩ := rv2.get hy
    have hzl : z < s.heap.objs.size := Heap.lt_size hz
    refine pyNext_zipS_item D hz hTI hTO h1 h2 p p2 (x := u) (y := u2) (by simpa using hu) (by simpa using hu2) fun h' z' TO' h1' h2' hT hsz hk => ?_
    refine ⟨_, rfl, letGo_zipS (s := { s with heap := h' }) z' fun h'' z'' sb => ?_⟩
    have hT2 : h''.get? s.heap.objs.size = some { cls := .type "tuple", data := .seq #[u, u2] } := (sb.2 _ (Nat.ne_of_gt hzl)).trans hT
    have new : ObjOk X.prog X.w (upd H s.heap.objs.size (.tup [x, y])) h'' s.heap.objs.size (.tup [x, y]) :=
      ⟨by show 2 ≤ sizeLine; decide, [u, u2], .cons ru (.cons ru2 .nil), ⟨_, hT2, rfl, _, rfl⟩⟩
    have I1 : Inv X pins σ (upd H s.heap.objs.size (.tup [x, y])) { s with heap := h'' } :=
      I.turnedNew (t' := s.toks) (ch := [z, TI, TO, i1, i2]) (fun c o hb q => (sb.2 c (fun q' => hb (by simp [q']))).trans (hk c o (fun q' => hb (by simp [q'])) (fun q' => hb (by simp [q'])) (fun q' => hb (by simp [q'])) (fun q' => hb (by simp [q'])) q)) hf (Nat.le_refl _) new
    refine ⟨.ref s.heap.objs.size, _, I1, rfl, ⟨_, x, y, rfl, I.hok.fresh (Nat.le_refl _), rfl, fun l hl => by rw [seqB_inj I hl hqx]; exact hx, fun l hl => by rw [seqB_inj I hl hqy]; exact hy⟩, ⟨z'', ?_, ⟨u, u2, ?_⟩, ?_, ?_⟩, fun c hcm => ?_⟩
    · exact (sb.2 _ D.TIz).trans (hk _ _ D.TIz D.TITO D.TIi1 D.TIi2 hTI)
    · exact (sb.2 _ D.TOz).trans TO'
    · exact h1'.at fun o q => (sb.2 _ D.i1z).trans q
    · exact h2'.at fun o q => (sb.2 _ D.i2z).trans q
    · have hlt : c < s.heap.objs.size := by
        have e' : c = z ∨ c = TI ∨ c = TO ∨ c = i1 ∨ c = i2 := by simpa using hcm
        rcases e' with q | q | q | q | q
        · rw [q]; exact hzl
        · rw [q]; exact Heap.lt_size hTI
        · rw [q]; exact Heap.lt_size hTO
        · rw [q]; exact h1.lt
        · rw [q]; exact h2.lt
      rw [upd_ne (Nat.ne_of_lt hlt)]
      exact (hf c hcm).1
  done := by
    intro X hP hw hK hc i pins s σ H E I hf st hg
    subst hP hw hK
    obtain ⟨hz, hTI, ⟨x0, y0, hTO⟩, h1, h2⟩ := st
    obtain ⟨xs, ys, hqx, hqy, he1, he2⟩ := hg
    obtain ⟨its, rv, p⟩ := seqB I hqx
    obtain ⟨its2, rv2, p2⟩ := seqB I hqy
    have l1 := rv.length
    have l2 := rv2.length
    exact pyNext_zipS_end (I.ok.hd hc) D hz hTI hTO h1 h2 p p2 (by simp; omega) (by simp; omega) fun h' hk => ⟨rfl, I.turnedL (t' := s.toks) (ch := [z, TI, TO, i1, i2]) (fun c o hb q =>
      hk c o (fun q' => hb (by simp [q'])) (fun q' => hb (by simp [q'])) (fun q' => hb (by simp [q'])) (fun q' => hb (by simp [q'])) q) hf⟩
  self := fun A i s Q E st h => pyIter_zipS st.1 h
/-- the items of zip(.., strict=True) -/
def asSq : D → Option (Bool × List D)
  | .tup xs => some (true, xs)
  | .lst xs => some (false, xs)
  | _ => none
def zipDs (xs ys : List D) : List D := (xs.zip ys).map fun p => .tup [p.1, p.2]
def iZipS (a b : Ex) : Ix := fun ρ S => (a ρ S).bind fun x S => (b ρ S).bind fun y S => match asSq x, asSq y with
  | some p, some q => if p.2.length = q.2.length then .ok (zipDs p.2 q.2) S else .bad
  | _, _ => .bad
section
variable {K : PySem.W.Frag} {H : Hp} {Fb : Addr → Prop} {m : List Addr}
theorem asSq_rep {v : V} {d : D} {p : Bool × List D} (h : Rep K H Fb m v d) (e : asSq d = some p) : ∃ a vs, v = .ref a ∧ RepA K H Fb m vs p.2 ∧ SqB p.1 K H a vs ∧ ∀ H2 F2 m2, Kp H H2 Fb F2 m m2 → SqB p.1 K H2 a vs := by
  cases d with
  | tup xs => cases e; cases h with | tup h z q => exact ⟨_, _, rfl, q, h, fun H2 F2 m2 k => k.sqT h⟩
  | lst xs => cases e; cases h with | lst h f z q => exact ⟨_, _, rfl, q, SqL.of h, fun H2 F2 m2 k => SqL.of (k.lst _ _ h f)⟩
  | _ => simp [asSq] at e
theorem itr_zipS {t1 t2 : Bool} {a b : Addr} {xs ys : List D} {vs ws : List V} (q1 : RepA K H Fb m vs xs) (q2 : RepA K H Fb m ws ys) (h1 : ∀ H2 F2 m2, Kp H H2 Fb F2 m m2 → SqB t1 K H2 a vs) (h2 : ∀ H2 F2 m2, Kp H H2 Fb F2 m m2 → SqB t2 K H2 b ws)
    (hl : xs.length = ys.length) : ItR K H Fb m (ItzS t1 t2 K a b) (zipDs xs ys) := by
  intro H2 F2 m2 k
  have s1 := h1 H2 F2 m2 k
  have s2 := h2 H2 F2 m2 k
  have l1 := q1.length
  have l2 := q2.length
  have hz : (zipDs xs ys).length = xs.length := by simp [zipDs]; omega
  refine ⟨fun i hi => ?_, fun i hi => ⟨vs, ws, s1, s2, by omega, by omega⟩⟩
  rw [hz] at hi
  obtain ⟨v, ev, rv⟩ := (q1.kp k).get (d := xs[i]) (List.getElem?_eq_getElem hi)
  obtain ⟨w, ew, rw'⟩ := (q2.kp k).get (d := ys[i]'(by omega)) (List.getElem?_eq_getElem (by omega))
  refine ⟨⟨vs, ws, v, w, s1, s2, ev, ew⟩, fun x H3 y => ?_⟩
  obtain ⟨T, x1, y1, e1, e2, e3, e4, e5⟩ := y
  subst e1 e3
  have a1 := e4 vs s1
  rw [ev] at a1; cases a1
  have a2 := e5 ws s2
  rw [ew] at a2; cases a2
  refine ⟨.tup [xs[i], ys[i]'(by omega)], by rw [zipDs, List.getElem?_map, List.getElem?_eq_getElem (show i < (xs.zip ys).length by simp; omega), List.getElem_zip]; rfl, same_upd e2, ?_⟩
  exact .tup (.of upd_same) (by show 2 ≤ sizeLine; decide) ((RepA.cons rv (.cons rw' .nil)).kp (kp_same (same_upd e2)))
end
theorem fresh5 {X : Cx} {pins : List (Addr × Obj)} {σ : L2.St} {H1 : Hp} {s1 : Shared} (I1 : Inv X pins σ H1 s1) : ∀ c, c ∈ [s1.heap.objs.size + 4, s1.heap.objs.size + 2, s1.heap.objs.size + 3, s1.heap.objs.size, s1.heap.objs.size + 1] → FpOk X pins H1 c := fun c hcm => by
  have e' : c = s1.heap.objs.size + 4 ∨ c = s1.heap.objs.size + 2 ∨ c = s1.heap.objs.size + 3 ∨ c = s1.heap.objs.size ∨ c = s1.heap.objs.size + 1 := by simpa using hcm
  have hle : s1.heap.objs.size ≤ c := by
    rcases e' with z | z | z | z | z
    · rw [z]; exact Nat.le_add_right _ _
    · rw [z]; exact Nat.le_add_right _ _
    · rw [z]; exact Nat.le_add_right _ _
    · rw [z]; exact Nat.le_refl _
    · rw [z]; exact Nat.le_add_right _ _
  exact I1.fpOk hle (I1.hok.fresh hle)
theorem callWith_typeK {M : Model} {A : Around} {E : Value → Shared → Prop} {s : Shared} {pos : Pos} {T : String} {args : List (Bool × Sem Value)} {keywords : List (Option Str × Sem Value)} {Q : Value → Shared → Prop}
    (hplain : args.any (·.1) = false) (hkw : keywords.any (·.1.isNone) = false) (h : wpAny M A (evalArgs (.type T) true args keywords) (fun a s₁ => wpAny M A (call (.type T) a.pos a.kw) Q E s₁) E s) :
    wpAny M A (callWith pos (.type T) [] args keywords) Q E s := by
  unfold callWith
  refine wpAny_bind (wpAny_holding (wpAny_mono h (fun a s₁ h₁ => wpAny_bind (wpAny_standAt ?_)) fun _ _ x => x))
  simp only [hplain, hkw, Bool.or_false]
  refine wpAny_bind (wpAny_pure ?_)
  exact wpAny_bind (wpAny_mono h₁ (fun r s₂ hr => wpAny_bind (wpAny_holding (wpAny_point (wpAny_pure hr)))) fun _ _ x => x)
section
variable {X : Cx} {W : WX} {e e2 : Expr} {fa fb : Ex} {p pos tpos p3 kp : Pos} {elts : List Expr} {kk j : Nat}
theorem iv_zipS (hg : Gl X "zip") (hm : X.mg "zip" = none) (ha : EV X W e fa) (hb : EV X W e2 fb) (hs2 : starEach [e2] X.env = [(false, eval e2 X.env)] := by rfl)
    (he1 : starEach [e, e2] X.env = (false, eval e X.env) :: starEach [e2] X.env := by rfl)
    (he : backTo pos (starEach [e, e2] X.env) = (false, eval e X.env) :: backTo pos (starEach [e2] X.env) := by rfl) (hpl : (backTo pos (starEach [e, e2] X.env)).any (·.1) = false := by rfl)
    (hall : (backToKw pos (keywordEach [⟨some "strict", .Constant (.bool true) j p3, kp⟩] X.env)).all (·.1.isSome) = true := by rfl) (hnone : (backToKw pos (keywordEach [⟨some "strict", .Constant (.bool true) j p3, kp⟩] X.env)).any (·.1.isNone) = false := by rfl)
    (hks : (backToKw pos (keywordEach [⟨some "strict", .Constant (.bool true) j p3, kp⟩] X.env)).filterMap (·.1) = [Str.ofString "strict"] := by rfl) :
    IV X W (.Tuple elts kk tpos) (.Call (.Name "zip" p) [e, e2] [⟨some "strict", .Constant (.bool true) j p3, kp⟩] pos) (iZipS fa fb) := by
  refine ⟨fun pins s σ H R I h => ?_⟩
  obtain ⟨B, m, ρ, S, r, re, f⟩ := h
  -- the two sources
  have hA : upA X.K X.mg W (evL [fa, fb]) σ H fun vs H1 => ∃ B m S ρ dx dy v1 v2, vs = [v1, v2] ∧ Rl X.K X.mg B m H1 S ∧ RepE X.K H1 (Fo B m S) m σ ρ ∧ Rep X.K H1 (Fo B m S) m v1 dx ∧ Rep X.K H1 (Fo B m S) m v2 dy ∧
      finI X.K X.mg W B m S σ H1 (match asSq dx, asSq dy with | some p, some q => if p.2.length = q.2.length then .ok (zipDs p.2 q.2) S else .bad | _, _ => .bad) R := by
    refine ⟨B, m, ρ, S, r, re, ?_⟩
    have f' : finI X.K X.mg W B m S σ H ((fa ρ S).bind fun x S => (fb ρ S).bind fun y S => match asSq x, asSq y with | some p, some q => if p.2.length = q.2.length then .ok (zipDs p.2 q.2) S else .bad | _, _ => .bad) R := f
    unfold evL evL evL
    cases e1 : fa ρ S with
    | bad => rw [e1] at f'; exact f'.elim
    | exc c p S1 => rw [e1] at f'; exact f'
    | ok dx S1 =>
      rw [e1] at f'
      simp only [DL.R.bind] at f' ⊢
      cases e2 : fb ρ S1 with
      | bad => rw [e2] at f'; exact f'.elim
      | exc c p S1 => rw [e2] at f'; exact f'
      | ok dy S2 =>
        rw [e2] at f'
        simp only [DL.R.bind] at f' ⊢
        intro m' H' vs po q
        cases q with
        | cons q1 qt =>
          cases qt with
          | cons q2 qn =>
            cases qn
            exact ⟨B, m', S2, ρ, dx, dy, _, _, rfl, po.rl, re.kp (po.kp r), q1, q2, finI.later po f'⟩
  have hpa : PA X [e, e2] (upA X.K X.mg W (evL [fa, fb])) := ea_cons ha (ea_cons hb ea_nil hs2) he1
  refine wpAny_Call_Name_kw (ld_blt I hg hm PyProof.Rows.boot_zip ?_)
  refine callWith_typeK hpl hnone ?_
  rw [he]
  refine evalArgs_kwB hall ?_
  rw [← he]
  refine thn (hpa.run pos pins s σ H _ I hA) fun us s1 ⟨vs, H1, I1, r1, q1⟩ => ?_
  refine kws_cons (Constant_bool (kws_nil ?_))
  rw [hks]
  obtain ⟨B, m, S, ρ, dx, dy, v1, v2, rfl, rl, re, rx, ry, fI⟩ := q1
  obtain ⟨u1, u2, rfl, ru1, ru2⟩ := vals2 r1
  cases e1 : asSq dx with
  | none => rw [e1] at fI; exact fI.elim
  | some p =>
    cases e2 : asSq dy with
    | none => rw [e1, e2] at fI; exact fI.elim
    | some q =>
      rw [e1, e2] at fI
      dsimp only at fI
      split at fI
      · rename_i hl
        obtain ⟨a, vs, rfl, qa, sa, ka⟩ := asSq_rep rx e1
        obtain ⟨b, ws, rfl, qb, sb, kb⟩ := asSq_rep ry e2
        cases ru1
        cases ru2
        obtain ⟨its, rv, p1⟩ := seqB I1 sa
        obtain ⟨its2, rv2, p2⟩ := seqB I1 sb
        refine call_zipS p1 p2 fun h' hz hTI hTO h1 h2 hsz hk => pyIter_zipS hz ?_
        have I2 : Inv X pins σ H1 { s1 with heap := h' } := I1.kept (t' := s1.toks) hk
        exact ⟨s1.heap.objs.size + 4, [s1.heap.objs.size + 4, s1.heap.objs.size + 2, s1.heap.objs.size + 3, s1.heap.objs.size, s1.heap.objs.size + 1], _, _, H1, rfl, I2, turn_zipS (PySem.W.ktu_apart s1.heap.objs.size a b p1.lt p2.lt), ⟨hz, hTI, ⟨_, _, hTO⟩, h1, h2⟩, fresh5 I1, fI m H1 _ (Post.refl rl) (itr_zipS qa qb ka kb hl)⟩
      · exact fI.elim
end
end DL

/-! ## DLn -/
set_option Elab.async false
set_option linter.all false
set_option maxRecDepth 100000
set_option maxHeartbeats 4000000
namespace DL
open PySem PySem.Spec PyProof.Rows L2

section
variable {P : Program} {w : World} {K : PySem.W.Frag} {mg : Str → Option Value} {base : Heap}
/-- a def of the head's facts -/
theorem fn_denD {x qual : Str} {params : Arguments} {body : List Stmt} {scope : Scope} {dvs : List V} {kws : List (Str × V)} {f : Addr} {fd : FuncData} {N ps : List Str} {k : Nat} {b : Sx} (F : FunD K x qual params body scope dvs kws f fd) (sc : FnScope N ps scope)
    (h : ∀ (cdv : Value) (A : Around) (outer : List Env) (s : Shared) (H : Hp) (E : XK), DL.Room k (A.deeper (envOfC qual scope s.heap.objs.size f cdv)) →
      Takes (cxOf (L2.CX P w) P w K mg base N qual scope f cdv A outer s H E) (WB E) → PassesOwn (model P w) (A.deeper (envOfC qual scope s.heap.objs.size f cdv)) (envOfC qual scope s.heap.objs.size f cdv) (cxOf (L2.CX P w) P w K mg base N qual scope f cdv A outer s H E).xe →
      SVs (cxOf (L2.CX P w) P w K mg base N qual scope f cdv A outer s H E) (WB E) body b) : DL.FnOk P w K mg base (L2.CX P w) (k + 1) f fd ps (spD K mg ps.length (fnB N.length b)) := by
  refine funD_ok F sc (fun vs H Q E h => ?_) (fun cdv A outer s H vs Q E hr hs => ?_)
  · obtain ⟨_, _, _, _, _, _, e, _⟩ := h
    exact e
  · obtain ⟨B, m, S, ds, r, q, e, g⟩ := hs
    refine ⟨_, h cdv A outer s H E hr (takes_of rfl rfl rfl rfl) (passes_of rfl), B, m, _, S, r, repE_start q, ?_⟩
    unfold fnB at g
    show finS K mg (WB E) B m S H (b (ds.map some ++ List.replicate (N.length - ds.length) none) S) _
    cases e1 : b (ds.map some ++ List.replicate (N.length - ds.length) none) S with
    | bad => rw [e1] at g; exact g.elim
    | exc c p ρ' S' => rw [e1] at g; exact fun m' H' σ' cls dd po re x => g m' H' cls dd po x
    | fl fl S' =>
      rw [e1] at g
      cases fl with
      | nx ρ' => exact fun m' H' σ' po re => g m' H' .non po .non
      | rt d => exact fun m' H' v po rv => g m' H' v po rv
      | bk _ => exact g.elim
      | ct _ => exact g.elim
theorem fn_bad {k : Nat} {f : Addr} {fd : FuncData} {ps : List Str} : DL.FnOk P w K mg base (L2.CX P w) k f fd ps (spD K mg ps.length fun _ _ => .bad) :=
  ⟨fun vs H Q E h => by obtain ⟨_, _, _, _, _, _, e, g⟩ := h; exact g.elim, fun A outer s H args us vs Q E _ _ _ _ h => by obtain ⟨_, _, _, _, _, _, e, g⟩ := h; exact g.elim⟩
theorem fn_P {k n : Nat} {f : Addr} {fd : FuncData} {ps : List Str} {F : Fn} (h : DL.FnOk P w K mg base (L2.CX P w) k f fd ps (spD K mg n F)) : DL.FnOk P w K mg base (L2.CX P w) k f fd ps (spD K mg n (fnP F)) := h.imp spP_of
end
/-! ### a def that asks what stands, and tells a plain thing -/
mutual
def flat : D → Bool
  | .non => true
  | .bl _ => true
  | .int _ => true
  | .str _ => true
  | .raw _ => true
  | .tup xs => flats xs
  | _ => false
def flats : List D → Bool
  | [] => true
  | d :: ds => flat d && flats ds
end
def frz (S : Sto) : D → D
  | .ref n => match S[n]? with
    | some (some (.lst xs)) => .lst xs
    | _ => .ref n
  | d => d
def fnV (F : Fn) : Fn := fun ds S => if noRefs (ds.map (frz S)) = true then match F (ds.map (frz S)) [] with
  | .ok d _ => if flat d = true then .ok d S else .bad
  | _ => .bad else .bad
section
variable {K : PySem.W.Frag} {mg : Str → Option Value} {H : Hp} {Fb Fb' : Addr → Prop} {m m' : List Addr}
mutual
theorem Rep.flat : ∀ {v : V} {d : D}, Rep K H Fb m v d → DL.flat d = true → Rep K H Fb' m' v d
  | _, _, .non, _ => .non
  | _, _, .bl b, _ => .bl b
  | _, _, .int i, _ => .int i
  | _, _, .str x, _ => .str x
  | _, _, .tup h z r, e => .tup h z (RepA.flat r (by simpa [DL.flat] using e))
  | _, _, .lst h f z r, e => by simp [DL.flat] at e
  | _, _, .dK h z q r, e => by simp [DL.flat] at e
  | _, _, .dT h z q r, e => by simp [DL.flat] at e
  | _, _, .ref h, e => by simp [DL.flat] at e
  | _, _, .raw v, _ => .raw v
  | _, _, .scr h z, e => by simp [DL.flat] at e
theorem RepA.flat : ∀ {vs : List V} {ds : List D}, RepA K H Fb m vs ds → flats ds = true → RepA K H Fb' m' vs ds
  | _, _, .nil, _ => .nil
  | _, _, .cons h r, e => .cons (Rep.flat h (by simp [flats] at e; exact e.1)) (RepA.flat r (by simp [flats] at e; exact e.2))
end
theorem Rep.frz {B : Addr → Prop} {S : Sto} {v : V} {d : D} (r : Rl K mg B m H S) (h : Rep K H (Fo B m S) m v d) (e : DL.noRef (DL.frz S d) = true) : Rep K H (fun _ => False) [] v (DL.frz S d) := by
  cases d with
  | ref n =>
    cases h with
    | ref hn =>
      unfold DL.frz at e ⊢
      dsimp only at e ⊢
      cases hx : S[n]? with
      | none => rw [hx] at e; simp [DL.noRef] at e
      | some o =>
        cases o with
        | none => rw [hx] at e; simp [DL.noRef] at e
        | some o =>
          cases o with
          | lst xs =>
            rw [hx] at e
            cases r.obj _ _ _ hn hx with
            | lst h z q => exact .lst h (fun f => f) z (q.noRef (fun _ f => f.elim) (by simpa [DL.noRef] using e))
          | dic t kvs => rw [hx] at e; simp [DL.noRef] at e
          | ins c fs => rw [hx] at e; simp [DL.noRef] at e
  | _ => exact Rep.noRef (fun _ f => f.elim) h e
theorem RepA.frz {B : Addr → Prop} {S : Sto} (r : Rl K mg B m H S) : ∀ {vs : List V} {ds : List D}, RepA K H (Fo B m S) m vs ds → noRefs (ds.map (DL.frz S)) = true → RepA K H (fun _ => False) [] vs (ds.map (DL.frz S))
  | _, _, .nil, _ => .nil
  | _, _, .cons h q, e => .cons (Rep.frz r h (by simp [noRefs] at e; exact e.1)) (RepA.frz r q (by simp [noRefs] at e; simpa using e.2))
theorem spV_of {n : Nat} {F : Fn} (vs : List V) (H : Hp) (Q : VK) (E : XK) (h : spD K mg n (fnV F) vs H Q E) : spD K mg n F vs H Q E := by
  obtain ⟨B, m, S, ds, r, q, e, g⟩ := h
  unfold fnV at g
  split at g
  · rename_i hd
    have e0 : ∀ a, Fo (fun _ => False) [] [] a → False := fun a z => z.elim id fun ⟨n, o, e1, e2⟩ => by simp at e1
    refine ⟨fun _ => False, [], [], ds.map (frz S), ⟨rfl, List.nodup_nil, fun a ⟨n, o, e1, e2⟩ => by simp at e1, fun a z => z.elim, fun a z => by simp at z, fun n a o e1 e2 => by simp at e1⟩, (RepA.frz r q hd).noRef (fun a z => e0 a z) hd, e, ?_⟩
    cases e1 : F (ds.map (frz S)) [] with
    | bad => rw [e1] at g; exact g.elim
    | exc c pl S' => rw [e1] at g; exact g.elim
    | ok d S' =>
      rw [e1] at g
      dsimp only at g
      split at g
      · rename_i hn
        intro m' H' v p rv
        have sm : Same H H' := fun a o e => p.keep a o e fun ⟨n, o, e1, e2⟩ => by simp at e1
        exact g m H' v (Post.grow r sm) (rv.flat hn)
      · exact g.elim
  · exact g.elim
end
section
variable {P : Program} {w : World} {K : PySem.W.Frag} {mg : Str → Option Value} {base : Heap}
theorem fn_V {k n : Nat} {f : Addr} {fd : FuncData} {ps : List Str} {F : Fn} (h : DL.FnOk P w K mg base (L2.CX P w) k f fd ps (spD K mg n F)) : DL.FnOk P w K mg base (L2.CX P w) k f fd ps (spD K mg n (fnV F)) := h.imp spV_of
end
/-! ### zip of two lists, of two tuples -/
def iZip2 (a b : Ex) : Ix := fun ρ S => (a ρ S).bind fun x S => (b ρ S).bind fun y S => match x, y with
  | .lst xs, .lst ys => .ok (zipDs xs ys) S
  | .tup xs, .tup ys => .ok (zipDs xs ys) S
  | _, _ => .bad
section
variable {K : PySem.W.Frag} {H : Hp} {Fb : Addr → Prop} {m : List Addr}
theorem itr_zip2 {a b : Addr} {xs ys : List D} {vs ws : List V} (q1 : RepA K H Fb m vs xs) (q2 : RepA K H Fb m ws ys) (h1 : ∀ H2 F2 m2, Kp H H2 Fb F2 m m2 → SqL K H2 a vs) (h2 : ∀ H2 F2 m2, Kp H H2 Fb F2 m m2 → SqL K H2 b ws) : ItR K H Fb m (Itz K a b) (zipDs xs ys) := by
  intro H2 F2 m2 k
  have s1 := h1 H2 F2 m2 k
  have s2 := h2 H2 F2 m2 k
  have l1 := q1.length
  have l2 := q2.length
  have hz : (zipDs xs ys).length = min xs.length ys.length := by simp [zipDs]
  refine ⟨fun i hi => ?_, fun i hi => ⟨vs, ws, s1, s2, by omega⟩⟩
  rw [hz] at hi
  obtain ⟨v, ev, rv⟩ := (q1.kp k).get (d := xs[i]'(by omega)) (List.getElem?_eq_getElem (by omega))
  obtain ⟨w, ew, rw'⟩ := (q2.kp k).get (d := ys[i]'(by omega)) (List.getElem?_eq_getElem (by omega))
  refine ⟨⟨vs, ws, v, w, s1, s2, ev, ew⟩, fun x H3 y => ?_⟩
  obtain ⟨T, x1, y1, e1, e2, e3, e4, e5⟩ := y
  subst e1 e3
  have a1 := e4 vs s1
  rw [ev] at a1; cases a1
  have a2 := e5 ws s2
  rw [ew] at a2; cases a2
  refine ⟨.tup [xs[i]'(by omega), ys[i]'(by omega)], by rw [zipDs, List.getElem?_map, List.getElem?_eq_getElem (show i < (xs.zip ys).length by simp; omega), List.getElem_zip]; rfl, same_upd e2, ?_⟩
  exact .tup (.of upd_same) (by show 2 ≤ sizeLine; decide) ((RepA.cons rv (.cons rw' .nil)).kp (kp_same (same_upd e2)))
theorem itr_zip2T {a b : Addr} {xs ys : List D} {vs ws : List V} (q1 : RepA K H Fb m vs xs) (q2 : RepA K H Fb m ws ys) (h1 : SqT K H a vs) (h2 : SqT K H b ws) : ItR K H Fb m (RZ.ItzT K a b) (zipDs xs ys) := by
  intro H2 F2 m2 k
  have s1 := k.sqT h1
  have s2 := k.sqT h2
  have l1 := q1.length
  have l2 := q2.length
  have hz : (zipDs xs ys).length = min xs.length ys.length := by simp [zipDs]
  refine ⟨fun i hi => ?_, fun i hi => ⟨vs, ws, s1, s2, by omega⟩⟩
  rw [hz] at hi
  obtain ⟨v, ev, rv⟩ := (q1.kp k).get (d := xs[i]'(by omega)) (List.getElem?_eq_getElem (by omega))
  obtain ⟨w, ew, rw'⟩ := (q2.kp k).get (d := ys[i]'(by omega)) (List.getElem?_eq_getElem (by omega))
  refine ⟨⟨vs, ws, v, w, s1, s2, ev, ew⟩, fun x H3 y => ?_⟩
  obtain ⟨T, x1, y1, e1, e2, e3, e4, e5⟩ := y
  subst e1 e3
  have a1 := e4 vs s1
  rw [ev] at a1; cases a1
  have a2 := e5 ws s2
  rw [ew] at a2; cases a2
  refine ⟨.tup [xs[i]'(by omega), ys[i]'(by omega)], by rw [zipDs, List.getElem?_map, List.getElem?_eq_getElem (show i < (xs.zip ys).length by simp; omega), List.getElem_zip]; rfl, same_upd e2, ?_⟩
  exact .tup (.of upd_same) (by show 2 ≤ sizeLine; decide) ((RepA.cons rv (.cons rw' .nil)).kp (kp_same (same_upd e2)))
end
section
variable {X : Cx} {W : WX} {e e2 : Expr} {fa fb : Ex} {p pos tpos : Pos} {elts : List Expr} {kk : Nat}
theorem iv_zip2 (hg : Gl X "zip") (hm : X.mg "zip" = none) (ha : EV X W e fa) (hb : EV X W e2 fb) (hs2 : starEach [e2] X.env = [(false, eval e2 X.env)] := by rfl)
    (he1 : starEach [e, e2] X.env = (false, eval e X.env) :: starEach [e2] X.env := by rfl) (hpl : (backTo pos (starEach [e2] X.env)).any (·.1) = false := by rfl) :
    IV X W (.Tuple elts kk tpos) (.Call (.Name "zip" p) [e, e2] [] pos) (iZip2 fa fb) := by
  have hpa : PA X [e, e2] (upA X.K X.mg W (evL [fa, fb])) := ea_cons ha (ea_cons hb ea_nil hs2) he1
  refine pi_imp (RZ.pi_zipA hg hm hpa he1 hpl) fun σ H R h => ?_
  obtain ⟨B, m, ρ, S, r, re, f⟩ := h
  refine ⟨B, m, ρ, S, r, re, ?_⟩
  have f' : finI X.K X.mg W B m S σ H ((fa ρ S).bind fun x S => (fb ρ S).bind fun y S => match x, y with | .lst xs, .lst ys => .ok (zipDs xs ys) S | .tup xs, .tup ys => .ok (zipDs xs ys) S | _, _ => .bad) R := f
  unfold evL evL evL
  cases e1 : fa ρ S with
  | bad => rw [e1] at f'; exact f'.elim
  | exc c p S1 => rw [e1] at f'; exact f'
  | ok dx S1 =>
    rw [e1] at f'
    simp only [DL.R.bind] at f' ⊢
    cases e2 : fb ρ S1 with
    | bad => rw [e2] at f'; exact f'.elim
    | exc c p S1 => rw [e2] at f'; exact f'
    | ok dy S2 =>
      rw [e2] at f'
      simp only [DL.R.bind] at f' ⊢
      intro m' H' vs po q
      cases q with
      | cons q1 qt =>
        cases qt with
        | cons q2 qn =>
          cases qn
          cases q1 <;> cases q2 <;> first | exact f'.elim | skip
          · rename_i _ _ _ h1 z1 r1 _ _ _ h2 z2 r2
            exact ⟨_, _, _, _, rfl, .inr ⟨h1, h2, f' m' H' _ po (itr_zip2T r1 r2 h1 h2)⟩⟩
          · rename_i _ _ _ h1 n1 z1 r1 _ _ _ h2 n2 z2 r2
            exact ⟨_, _, _, _, rfl, .inl ⟨SqL.of h1, SqL.of h2, f' m' H' _ po (itr_zip2 r1 r2 (fun H2 F2 m2 k => SqL.of (k.lst _ _ h1 n1)) fun H2 F2 m2 k => SqL.of (k.lst _ _ h2 n2))⟩⟩
end
/-! ### the law -/
theorem cx_none {P : Program} {w : World} : ∀ (H : Hp) (s : Shared) (e : Value) (s' : Shared), L2.CX P w [] H s (fun _ _ _ => False) e s' → False := fun _ _ _ _ h => by
  obtain ⟨_, _, _, _, _, _, _, _, _, _, _, _, z⟩ := h
  exact z.elim
theorem sp_law {K : PySem.W.Frag} {mg : Str → Option Value} {F : Fn} (h : ∀ ns : List Int, ns.length ≤ 63 → ∃ S, F [.scr ns] [] = .ok (.bl true) S) (H : Hp) (a : Addr) (ns : List Int) (hl : ns.length ≤ 63) (_ : Only H) (hS : SqL K H a (ns.map V.int)) : spD K mg 1 F [.ref a] H (fun v _ => v = .bl true) fun _ _ _ => False := by
  obtain ⟨S, e⟩ := h ns hl
  have e0 : ∀ a, Fo (fun _ => False) [] [] a → False := fun a z => z.elim id fun ⟨n, o, e1, e2⟩ => by simp at e1
  refine ⟨fun _ => False, [], [], [.scr ns], ⟨rfl, List.nodup_nil, fun a ⟨n, o, e1, e2⟩ => by simp at e1, fun a z => z.elim, fun a z => by simp at z, fun n a o e1 e2 => by simp at e1⟩, .cons (.scr ?_ (Nat.le_trans hl (by decide))) .nil, rfl, ?_⟩
  · rcases hS with h | h
    · exact .inl ⟨h, e0 a⟩
    · exact .inr h
  · rw [e]
    intro m' H' v p rv
    cases rv
    rfl
/-! ### defs of the head -/
def HasFd (K : PySem.W.Frag) (a : Addr) (fd : FuncData) : Prop := ∃ oc od osl, K.lookup a = some ⟨oc, od, .func fd, osl⟩
def OkF (P : Program) (w : World) (K : PySem.W.Frag) (mg : Str → Option Value) (base : Heap) (x : Str) (ps : List Str) (k : Nat) (F : Fn) : Prop :=
  ∃ fd, HasFd K (He.ga K x) fd ∧ DL.FnOk P w K mg base (L2.CX P w) k (He.ga K x) fd ps (spD K mg ps.length F) ∧ Binds K fd ps [] ∧ mg x = some (.ref (He.ga K x)) ∧ PySem.W.keepIn K (.ref (He.ga K x)) = true
section
variable {P : Program} {w : World} {K : PySem.W.Frag} {mg : Str → Option Value} {base : Heap} {x name qual : Str} {params : Arguments} {body : List Stmt} {scope : Scope} {f : Addr} {N ps : List Str} {k : Nat} {b : Sx} {F : Fn}
theorem OkF.at_ {dvs : List V} {kws : List (Str × V)} {fd : FuncData} (h : OkF P w K mg base x ps k F) (g : FunD K name qual params body scope dvs kws (He.ga K x) fd) : DL.FnOk P w K mg base (L2.CX P w) k (He.ga K x) fd ps (spD K mg ps.length F) := by
  obtain ⟨fd2, ⟨oc, od, osl, e⟩, h, _⟩ := h
  obtain ⟨oc2, od2, dV, kV, doc, pm, an, cdv, ct, osl2, rfl, lk, hcd, _, _⟩ := g.ex
  rw [e] at lk
  cases lk
  exact h
theorem okF_mk (h : ∃ fd, FunD K name qual params body scope [] [] (He.fAd K (x, none)) fd) (hm : mg x = some (.ref (He.ga K x)))
    (hbind : ∀ (kV doc pm : Value) (an : Option Addr) (cdv ct : Value) (us : List Value), us.length = ps.length → bindArgs (PySem.W.fnOf name qual params body scope .none kV doc pm an cdv ct) ⟨us, []⟩ = pure (ps.zip us))
    (hF : ∀ fd, FunD K name qual params body scope [] [] (He.ga K x) fd → DL.FnOk P w K mg base (L2.CX P w) k (He.ga K x) fd ps (spD K mg ps.length F)) : OkF P w K mg base x ps k F := by
  obtain ⟨fd, g⟩ := h
  refine ⟨fd, ?_, hF fd g, g.bindsN hbind, hm, g.kp⟩
  obtain ⟨oc, od, dV, kV, doc, pm, an, cdv, ct, osl, rfl, lk, hcd, _, _⟩ := g.ex
  exact ⟨_, _, _, lk⟩
abbrev BodyOk (P : Program) (w : World) (K : PySem.W.Frag) (mg : Str → Option Value) (base : Heap) (x qual : Str) (body : List Stmt) (scope : Scope) (N : List Str) (k : Nat) (b : Sx) : Prop :=
  ∀ (cdv : Value) (A : Around) (outer : List Env) (s : Shared) (H : Hp) (E : XK), DL.Room k (A.deeper (envOfC qual scope s.heap.objs.size (He.ga K x) cdv)) →
      Takes (cxOf (L2.CX P w) P w K mg base N qual scope (He.ga K x) cdv A outer s H E) (WB E) → PassesOwn (model P w) (A.deeper (envOfC qual scope s.heap.objs.size (He.ga K x) cdv)) (envOfC qual scope s.heap.objs.size (He.ga K x) cdv) (cxOf (L2.CX P w) P w K mg base N qual scope (He.ga K x) cdv A outer s H E).xe →
      SVs (cxOf (L2.CX P w) P w K mg base N qual scope (He.ga K x) cdv A outer s H E) (WB E) body b
theorem okF_N (h : ∃ fd, FunD K name qual params body scope [] [] (He.fAd K (x, none)) fd) (hm : mg x = some (.ref (He.ga K x))) (sc : FnScope N ps scope)
    (hbind : ∀ (kV doc pm : Value) (an : Option Addr) (cdv ct : Value) (us : List Value), us.length = ps.length → bindArgs (PySem.W.fnOf name qual params body scope .none kV doc pm an cdv ct) ⟨us, []⟩ = pure (ps.zip us))
    (hb : BodyOk P w K mg base x qual body scope N k b) : OkF P w K mg base x ps (k + 1) (fnB N.length b) :=
  okF_mk h hm hbind fun fd g => fn_denD g sc hb
theorem okF_P (h : ∃ fd, FunD K name qual params body scope [] [] (He.fAd K (x, none)) fd) (hm : mg x = some (.ref (He.ga K x))) (sc : FnScope N ps scope)
    (hbind : ∀ (kV doc pm : Value) (an : Option Addr) (cdv ct : Value) (us : List Value), us.length = ps.length → bindArgs (PySem.W.fnOf name qual params body scope .none kV doc pm an cdv ct) ⟨us, []⟩ = pure (ps.zip us))
    (hb : BodyOk P w K mg base x qual body scope N k b) : OkF P w K mg base x ps (k + 1) (fnP (fnB N.length b)) :=
  okF_mk h hm hbind fun fd g => fn_P (fn_denD g sc hb)
theorem okF_V (h : ∃ fd, FunD K name qual params body scope [] [] (He.fAd K (x, none)) fd) (hm : mg x = some (.ref (He.ga K x))) (sc : FnScope N ps scope)
    (hbind : ∀ (kV doc pm : Value) (an : Option Addr) (cdv ct : Value) (us : List Value), us.length = ps.length → bindArgs (PySem.W.fnOf name qual params body scope .none kV doc pm an cdv ct) ⟨us, []⟩ = pure (ps.zip us))
    (hb : BodyOk P w K mg base x qual body scope N k b) : OkF P w K mg base x ps (k + 1) (fnV (fnB N.length b)) :=
  okF_mk h hm hbind fun fd g => fn_V (fn_denD g sc hb)
theorem okF_bad (h : ∃ fd, FunD K name qual params body scope [] [] (He.fAd K (x, none)) fd) (hm : mg x = some (.ref (He.ga K x)))
    (hbind : ∀ (kV doc pm : Value) (an : Option Addr) (cdv ct : Value) (us : List Value), us.length = ps.length → bindArgs (PySem.W.fnOf name qual params body scope .none kV doc pm an cdv ct) ⟨us, []⟩ = pure (ps.zip us)) : OkF P w K mg base x ps k fun _ _ => .bad :=
  okF_mk h hm hbind fun fd g => fn_bad
end
section
variable {X : Cx} {W : WX} {x : Str} {ps : List Str} {k j : Nat} {F : Fn} {p pos : Pos} {e : Expr} {es : List Expr} {fs : List Ex}
theorem ev_fnO (O : OkF X.prog X.w X.K X.mg X.base x ps k F) (hr : DL.Room j X.A) (hg : Gl X x) (tk : Takes X W) (ha : EVA X W (e :: es) fs) (hj : k ≤ j := by omega) (hn : fs.length = ps.length := by rfl) (hdb : (x == ("__debug__" : Str)) = false := by decide) (he : starEach (e :: es) X.env = (false, eval e X.env) :: starEach es X.env := by rfl) (hpl : (backTo pos (starEach es X.env)).any (·.1) = false := by rfl) :
    EV X W (.Call (.Name x p) (e :: es) [] pos) (eFn F fs) := by
  obtain ⟨fd, _, FO, hb, hm, hk⟩ := O
  exact ev_fn FO (hr.mono hj) hg hm hk hb tk ha hn hdb he hpl
end
def igAdd : D → D → Option D
  | .int i, .int j => some (.int (i + j))
  | _, _ => none
def igMul : D → D → Option D
  | .int i, .int j => if (-(2 ^ 64) < i ∧ i < 2 ^ 64) ∨ (-(2 ^ 64) < j ∧ j < 2 ^ 64) then some (.int (i * j)) else none
  | _, _ => none
section
variable {X : Cx}
theorem ig_addN : OpR X (inplaceOp .Add) (rG2 X.K igAdd) := og_int iop_add fun dx dy d e => by
  unfold igAdd at e
  split at e
  · rename_i i j; cases e; exact ⟨i, j, _, rfl, rfl, rfl, fun H Q k => ⟨i, j, rfl, rfl, k _ fun _ _ _ => .int _⟩⟩
  · cases e
theorem ig_mulN : OpR X (inplaceOp .Mult) (rG2 X.K igMul) := og_int iop_mul fun dx dy d e => by
  unfold igMul at e
  split at e
  · rename_i i j
    split at e
    · rename_i hj
      cases e
      exact ⟨i, j, _, rfl, rfl, rfl, fun H Q k => ⟨i, j, rfl, rfl, hj, k _ fun _ _ _ => .int _⟩⟩
    · cases e
  · cases e
end
/-! ### a list of ours that will not be written any more -/
def sFrz (i : Nat) (s : Sx) : Sx := fun ρ S => match ρ[i]? with
  | some (some (.ref n)) => match S[n]? with
    | some (some (.lst xs)) => s (ρ.set i (some (.lst xs))) (S.set n none)
    | some (some (.dic false kvs)) => s (ρ.set i (some (.dic false kvs))) (S.set n none)
    | _ => .bad
  | _ => .bad
section
variable {K : PySem.W.Frag} {mg : Str → Option Value} {B : Addr → Prop} {m m' : List Addr} {S S' : Sto} {H H' : Hp} {n : Nat}
theorem liv_kill {a : Addr} (h : Liv m (S.set n none) a) : Liv m S a ∧ m[n]? ≠ some a ∨ (Liv m S a ∧ ∃ k, k ≠ n ∧ m[k]? = some a) := by
  obtain ⟨k, o, e1, e2⟩ := h
  by_cases hk : k = n
  · subst hk
    rw [List.getElem?_set] at e2
    simp at e2
  · rw [List.getElem?_set_ne (fun e => hk e.symm)] at e2
    exact .inr ⟨⟨k, o, e1, e2⟩, k, hk, e1⟩
theorem liv_kill' {a : Addr} (h : Liv m (S.set n none) a) : Liv m S a := (liv_kill h).elim (·.1) (·.1)
theorem Rl.kill (r : Rl K mg B m H S) : Rl K mg B m H (S.set n none) := by
  have kp : Kp H H (Fo B m S) (Fo B m (S.set n none)) m m := kp_anti fun a z => z.imp id liv_kill'
  refine ⟨by simp [r.len], r.nod, fun a l z => r.nb a (liv_kill' l) z, r.bt, r.mt, fun k a u e1 e2 => ?_⟩
  by_cases hk : k = n
  · subst hk
    rw [List.getElem?_set] at e2
    simp at e2
  · rw [List.getElem?_set_ne (fun e => hk e.symm)] at e2
    cases r.obj k a u e1 e2 with
    | lst h z q => exact .lst h z (q.kp kp)
    | dK h z e q => exact .dK h z e (q.kp kp)
    | dT h z e q => exact .dT h z e (q.kp kp)
    | ins g h e q => exact .ins g h e (q.kp kp)
theorem Post.unkill (p : Post K mg B m (S.set n none) H m' S' H') : Post K mg B m S H m' S' H' :=
  ⟨p.ext, fun a o h hl => p.keep a o h fun z => hl (liv_kill' z), p.smm, p.rl, fun a h => (p.liv a h).imp liv_kill' id⟩
end
section
variable {X : Cx} {W : WX} {st : Stmt} {s : Sx} {i : Nat}
/-- a dict locked for ever: nobody of ours writes it any more -/
theorem ps_lockF {st : Stmt} {t : TS} (h : PS X st t) : PS X st (fun E σ H => t E σ H ∨ ∃ d u, H d = some u ∧ Mut (some u) ∧ ∀ od, t E σ (L2.upd H d (.frz od u))) :=
  ⟨fun pins s σ H E I q => q.elim (fun q => h.run pins s σ H E I q) fun ⟨d, u, e, mu, q⟩ => let ⟨od, I'⟩ := I.lock e mu; h.run pins s σ _ E I' (q od)⟩
theorem Rl.lockD {K : PySem.W.Frag} {mg : Str → Option Value} {B : Addr → Prop} {m : List Addr} {S : Sto} {H : Hp} {n : Nat} {a : Addr} {o : Ob} {u : HO} (r : Rl K mg B m H S) (ha : m[n]? = some a) (ex : S[n]? = some (some o)) :
    Rl K mg B m (L2.upd H a u) (S.set n none) ∧ Kp H (L2.upd H a u) (Fo B m S) (Fo B m (S.set n none)) m m ∧ ∀ m' S' H', Post K mg B m (S.set n none) (L2.upd H a u) m' S' H' → Post K mg B m S H m' S' H' := by
  have hl : Liv m S a := ⟨n, o, ha, ex⟩
  have na : ∀ b, ¬ Fo B m S b → b ≠ a := fun b f e => f (.inr (e ▸ hl))
  have nk : ¬ Liv m (S.set n none) a := by
    rintro l
    rcases liv_kill l with ⟨_, z⟩ | ⟨_, k, hk, hk2⟩
    · exact z ha
    · obtain ⟨l1, g1⟩ := List.getElem?_eq_some_iff.mp hk2
      obtain ⟨l2, g2⟩ := List.getElem?_eq_some_iff.mp ha
      exact hk ((List.getElem_inj r.nod).mp (g1.trans g2.symm))
  have kp : Kp H (L2.upd H a u) (Fo B m S) (Fo B m (S.set n none)) m m := by
    refine ⟨fun b xs h f => by rw [upd_ne (na b f)]; exact h, fun b u' h f => by unfold Rd; rw [upd_ne (na b f)]; exact h, fun b o' f h => ?_, fun b u' h f z => f (z.imp id liv_kill'), fun _ _ h => h⟩
    have : b ≠ a := by
      rintro rfl
      exact (r.obj n _ _ ha ex).not_fix f h
    rw [upd_ne this]; exact h
  have sm : ∀ b, H b ≠ none → L2.upd H a u b ≠ none := fun b h => by
    by_cases e : b = a
    · subst e; rw [upd_same]; simp
    · rw [upd_ne e]; exact h
  refine ⟨⟨by simp [r.len], r.nod, fun b l z => r.nb b (liv_kill' l) z, fun b z => sm b (r.bt b z), fun b z => sm b (r.mt b z), fun k b o' e1 e2 => ?_⟩, kp, fun m' S' H' p => ?_⟩
  · have hb : b ≠ a := fun e => nk ⟨k, o', e ▸ e1, e2⟩
    have hk : k ≠ n := by
      rintro rfl
      rw [List.getElem?_set] at e2
      simp at e2
    rw [List.getElem?_set_ne (Ne.symm hk)] at e2
    cases r.obj k b o' e1 e2 with
    | lst h z q => exact .lst (by rw [upd_ne hb]; exact h) z (q.kp kp)
    | dK h z e q => exact .dK (by rw [upd_ne hb]; exact h) z e (q.kp kp)
    | dT h z e q => exact .dT (by rw [upd_ne hb]; exact h) z e (q.kp kp)
    | ins g h e q => exact .ins g (by rw [upd_ne hb]; exact h) e (q.kp kp)
  · refine ⟨?_, fun b o' h hl' => ?_, fun b h => p.smm b (sm b h), p.rl, fun b h => ?_⟩
    · obtain ⟨l, e, g⟩ := p.ext
      refine ⟨l, e, fun b hb => ?_⟩
      have := g b hb
      by_cases e : b = a
      · subst e; rw [upd_same] at this; cases this
      · rw [upd_ne e] at this; exact this
    · have hb : b ≠ a := fun e => hl' (e ▸ hl)
      exact p.keep b o' (by rw [upd_ne hb]; exact h) fun z => hl' (liv_kill' z)
    · rcases p.liv b h with z | z
      · exact .inl (liv_kill' z)
      · by_cases e : b = a
        · subst e; rw [upd_same] at z; cases z
        · rw [upd_ne e] at z; exact .inr z
theorem sv_frz (h : SV X W st s) : SV X W st (sFrz i s) := by
  refine ps_imp (ps_lockF h) fun E σ H h => ?_
  obtain ⟨B, m, ρ, S, r, re, f⟩ := h
  unfold sFrz at f
  split at f
  · rename_i n en
    split at f
    · rename_i xs ex
      have kp : Kp H H (Fo B m S) (Fo B m (S.set n none)) m m := kp_anti fun a z => z.imp id liv_kill'
      obtain ⟨v, ev, rv⟩ := re.2 i _ en
      cases rv with
      | ref ha =>
        rename_i a
        cases r.obj _ _ _ ha ex with
        | lst h z q =>
          have nf : ¬ Fo B m (S.set n none) a := by
            rintro (b | l)
            · exact r.nb a ⟨n, _, ha, ex⟩ b
            · rcases liv_kill l with ⟨_, z⟩ | ⟨_, k, hk, hk2⟩
              · exact z ha
              · obtain ⟨l1, g1⟩ := List.getElem?_eq_some_iff.mp hk2
                obtain ⟨l2, g2⟩ := List.getElem?_eq_some_iff.mp ha
                exact hk ((List.getElem_inj r.nod).mp (g1.trans g2.symm))
          refine .inl ⟨B, m, ρ.set i (some (.lst xs)), S.set n none, r.kill, ⟨by simp [re.1], fun j d e => ?_⟩, ?_⟩
          · by_cases hj : i = j
            · subst hj
              rw [List.getElem?_set] at e
              have hi : i < ρ.length := (List.getElem?_eq_some_iff.mp en).1
              simp [hi] at e
              subst e
              exact ⟨_, ev, .lst h nf z (q.kp kp)⟩
            · rw [List.getElem?_set_ne hj] at e
              obtain ⟨w, ew, rw'⟩ := re.2 j d e
              exact ⟨w, ew, rw'.kp kp⟩
          · generalize hr : s (ρ.set i (some (.lst xs))) (S.set n none) = r2 at f
            cases r2 with
            | bad => exact f.elim
            | exc c p ρ' S' => exact fun m' H' σ' cls dd po => f m' H' σ' cls dd po.unkill
            | fl fl S' =>
              cases fl with
              | nx ρ' => exact fun m' H' σ' po => f m' H' σ' po.unkill
              | bk ρ' => exact fun m' H' σ' po => f m' H' σ' po.unkill
              | ct ρ' => exact fun m' H' σ' po => f m' H' σ' po.unkill
              | rt d => exact fun m' H' v po => f m' H' v po.unkill
    · rename_i kvs ex
      obtain ⟨v, ev, rv⟩ := re.2 i _ en
      cases rv with
      | ref ha =>
        rename_i a
        cases r.obj _ _ _ ha ex with
        | @dK kv _ h z e q =>
          refine .inr ⟨a, .dK kv, h, trivial, fun od => ?_⟩
          obtain ⟨r', kp, un⟩ := r.lockD (u := .frz od (.dK kv)) ha ex
          refine ⟨B, m, ρ.set i (some (.dic false kvs)), S.set n none, r', ⟨by simp [re.1], fun j d e' => ?_⟩, ?_⟩
          · by_cases hj : i = j
            · subst hj
              rw [List.getElem?_set] at e'
              have hi : i < ρ.length := (List.getElem?_eq_some_iff.mp en).1
              simp [hi] at e'
              subst e'
              exact ⟨_, ev, .dK ⟨od, upd_same⟩ z e (q.kp kp)⟩
            · rw [List.getElem?_set_ne hj] at e'
              obtain ⟨w, ew, rw'⟩ := re.2 j d e'
              exact ⟨w, ew, rw'.kp kp⟩
          · generalize hr : s (ρ.set i (some (.dic false kvs))) (S.set n none) = r2 at f
            cases r2 with
            | bad => exact f.elim
            | exc c p ρ' S' => exact fun m' H' σ' cls dd po => f m' H' σ' cls dd (un _ _ _ po)
            | fl fl S' =>
              cases fl with
              | nx ρ' => exact fun m' H' σ' po => f m' H' σ' (un _ _ _ po)
              | bk ρ' => exact fun m' H' σ' po => f m' H' σ' (un _ _ _ po)
              | ct ρ' => exact fun m' H' σ' po => f m' H' σ' (un _ _ _ po)
              | rt d => exact fun m' H' v po => f m' H' v (un _ _ _ po)
    · exact f.elim
  · exact f.elim
end
end DL

/-! ## DLp -/
set_option Elab.async false
set_option linter.all false
set_option maxRecDepth 100000
set_option maxHeartbeats 4000000
namespace DL
open PySem PySem.Spec PyProof.Rows
/-! ### the mathematics of denotations -/
theorem view_int (S : Sto) (i : Int) : view S (.int i) = .int i := rfl
theorem view_bl (S : Sto) (b : Bool) : view S (.bl b) = .bl b := rfl
theorem view_non (S : Sto) : view S .non = .non := rfl
theorem view_str (S : Sto) (x : PySem.Str) : view S (.str x) = .str x := rfl
theorem view_tup (S : Sto) (xs : List D) : view S (.tup xs) = .tup xs := rfl
theorem view_lst (S : Sto) (xs : List D) : view S (.lst xs) = .lst xs := rfl
theorem view_scr (S : Sto) (xs : List Int) : view S (.scr xs) = .scr xs := rfl
theorem view_at {S : Sto} {n : Nat} {xs : List D} (h : S[n]? = some (some (.lst xs))) : view S (.ref n) = .lst xs := by simp only [view, h]
theorem lst_at {S : Sto} {n : Nat} {xs : List D} (h : S[n]? = some (some (.lst xs))) : lstOf S (.ref n) = some (n, xs) := by simp only [lstOf, h]
theorem view_set {S : Sto} {n : Nat} {xs : List D} (h : n < S.length) : view (S.set n (some (.lst xs))) (.ref n) = .lst xs := view_at (by simp [h])
theorem lst_set {S : Sto} {n : Nat} {xs : List D} (h : n < S.length) : lstOf (S.set n (some (.lst xs))) (.ref n) = some (n, xs) := lst_at (by simp [h])
theorem view_app {S : Sto} {xs : List D} : view (S ++ [some (.lst xs)]) (.ref S.length) = .lst xs := view_at (by simp)
theorem lst_app {S : Sto} {xs : List D} : lstOf (S ++ [some (.lst xs)]) (.ref S.length) = some (S.length, xs) := lst_at (by simp)
theorem mulB {a b A B : Int} (h1 : 0 ≤ a) (h2 : a ≤ A) (h3 : 0 ≤ b) (h4 : b ≤ B) : 0 ≤ a * b ∧ a * b ≤ A * B :=
  ⟨Int.mul_nonneg h1 h3, Int.mul_le_mul h2 h4 h3 (Int.le_trans h1 h2)⟩
theorem atI_in {α : Type} {xs : List α} {i : Int} (h : 0 ≤ i) (h2 : i < xs.length) : L2.atI xs i = some (xs[i.toNat]'(by omega)) := by
  unfold L2.atI L2.ixN
  rw [if_pos h, if_pos h2]
  exact List.getElem?_eq_getElem (by omega)
theorem ixN_in {n : Nat} {i : Int} (h : 0 ≤ i) (h2 : i < n) : L2.ixN n i = some i.toNat := by
  unfold L2.ixN
  rw [if_pos h, if_pos h2]
/-- the jar at n -/
def Jar (S : Sto) (n : Nat) (cells : List Int) (t r : Int) : Prop := S[n]? = some (some (.lst [.lst (cells.map .int), .int t, .int r]))
theorem big1 {c t : Int} (h0 : 0 ≤ t) (h1 : t ≤ 1000000000) : (c % 1000000007 * (t + 1) + 104729 * t + 17).natAbs < 18446744073709551616 := by
  have a := mulB (A := 1000000007) (B := 1000000001) (Int.emod_nonneg c (by decide : (1000000007 : Int) ≠ 0)) (Int.le_of_lt (Int.emod_lt_of_pos c (by decide))) (show 0 ≤ t + 1 by omega) (by omega)
  omega
theorem big2 {o c t : Int} (g0 : 0 ≤ o) (g1 : o ≤ 2147483647) (h0 : 0 ≤ t) (h1 : t ≤ 1000000000) : (o * (t + 5) + c % 65537 + 1).natAbs < 18446744073709551616 := by
  have a := mulB (A := 2147483647) (B := 1000000005) g0 g1 (show 0 ≤ t + 5 by omega) (by omega)
  have b := Int.emod_nonneg c (by decide : (65537 : Int) ≠ 0)
  have d := Int.emod_lt_of_pos c (by decide : (0 : Int) < 65537)
  omega
theorem modR (a p : Int) (h : 2147483423 ≤ p ∧ p ≤ 2147483647) : 0 ≤ a % p ∧ a % p ≤ 2147483647 := by
  have b := Int.emod_nonneg a (by omega : p ≠ 0)
  have d := Int.emod_lt_of_pos a (by omega : 0 < p)
  omega
theorem mulD_l {i j : Int} (h : -18446744073709551616 < i) (h2 : i < 18446744073709551616) : mulD (.int i) (.int j) = some (.int (i * j)) := by
  unfold mulD
  exact if_pos (.inl ⟨h, h2⟩)
theorem mulD_r {i j : Int} (h : -18446744073709551616 < j) (h2 : j < 18446744073709551616) : mulD (.int i) (.int j) = some (.int (i * j)) := by
  unfold mulD
  exact if_pos (.inr ⟨h, h2⟩)
theorem mulD_t {xs : List D} {j : Int} (h : j ≤ 1000000) (h1 : -1000000 ≤ j) (h2 : xs.length * j.toNat ≤ 16777216) : mulD (.tup xs) (.int j) = some (.tup (List.replicate j.toNat xs).flatten) := by
  unfold mulD
  exact if_pos ⟨h, h1, by rw [PySem.sizeLine_eq]; exact h2⟩
theorem powD_k {i j : Int} (h : 0 ≤ j) (h1 : j ≤ 1000000) (h2 : i.natAbs < 18446744073709551616) : powD (.int i) (.int j) = some (.int (i ^ j.toNat)) := by
  unfold powD
  exact if_pos ⟨h, h1, h2⟩
theorem pow1018 : powD (.int 10) (.int 18) = some (.int 1000000000000000000) := by
  rw [powD_k (by decide) (by decide) (by decide)]
  rfl
/-! ### equality -/
theorem eqD_int (a b : Int) : eqD (.int a) (.int b) = some (.bl (decide (a = b))) := by
  by_cases h : a = b
  · subst h
    simp [eqD, eqB, eqS, toP, SeqAt.shaped, PyData.eqv, PyData.canLay0, PyData.depth]
  · simp [eqD, eqB, eqS, toP, SeqAt.shaped, PyData.eqv, PyData.canLay0, PyData.depth, h]
theorem eqD_bl (a b : Bool) : eqD (.bl a) (.bl b) = some (.bl (a == b)) := by
  cases a <;> cases b <;> simp [eqD, eqB, eqS, toP, SeqAt.shaped, PyData.eqv, PyData.canLay0, PyData.depth]
theorem neD_bl (a b : Bool) : neD (.bl a) (.bl b) = some (.bl (!(a == b))) := by
  cases a <;> cases b <;> simp [neD, eqB, eqS, toP, SeqAt.shaped, PyData.eqv, PyData.canLay0, PyData.depth]
theorem neD_int (a b : Int) : neD (.int a) (.int b) = some (.bl (!decide (a = b))) := by
  by_cases h : a = b
  · subst h
    simp [neD, eqB, eqS, toP, SeqAt.shaped, PyData.eqv, PyData.canLay0, PyData.depth]
  · simp [neD, eqB, eqS, toP, SeqAt.shaped, PyData.eqv, PyData.canLay0, PyData.depth, h]
/-! ### comprehensions -/
theorem compL_inv {t : Tg} {tt : Tx} {e : Ex} {vs : List Nat} {ρ : Ev} (I : Nat → List D → Sto → Prop) : ∀ (xs : List D) (k : Nat) (acc : List D) (S : Sto), I k acc S →
    (∀ j d acc S, xs[j]? = some d → I (k + j) acc S → acc.length < sizeLine ∧ ∃ ρ1 y S', t.put d (wipeD ρ vs) = some ρ1 ∧ tt ρ1 S = .ok true S ∧ e ρ1 S = .ok y S' ∧ I (k + j + 1) (acc ++ [y]) S') →
    ∃ acc' S', compL t tt e vs xs ρ S acc = .ok acc' S' ∧ I (k + xs.length) acc' S'
  | [], k, acc, S, h, _ => ⟨acc, S, rfl, h⟩
  | x :: xs, k, acc, S, h, st => by
    obtain ⟨hl, ρ1, y, S', e1, e2, e3, h'⟩ := st 0 x acc S rfl h
    obtain ⟨acc', S2, e4, h2⟩ := compL_inv I xs (k + 1) (acc ++ [y]) S' h' fun j d acc S hj hI => by
      have := st (j + 1) d acc S (by simpa using hj) (by rw [show k + (j + 1) = k + 1 + j by omega]; exact hI)
      rw [show k + (j + 1) + 1 = k + 1 + j + 1 by omega] at this
      exact this
    refine ⟨acc', S2, ?_, by rw [List.length_cons, show k + (xs.length + 1) = k + 1 + xs.length by omega]; exact h2⟩
    unfold compL
    simp only [e1, e2, e3, R.nox, R.bind, if_true, hl]
    exact e4
theorem compL_map {t : Tg} {tt : Tx} {e : Ex} {vs : List Nat} {ρ : Ev} {S : Sto} (h : D → Option D) : ∀ (xs : List D) (acc : List D), acc.length + xs.length ≤ sizeLine →
    (∀ d ∈ xs, ∃ ρ1, t.put d (wipeD ρ vs) = some ρ1 ∧ tt ρ1 S = .ok (h d).isSome S ∧ ∀ y, h d = some y → e ρ1 S = .ok y S) → compL t tt e vs xs ρ S acc = .ok (acc ++ xs.filterMap h) S
  | [], acc, _, _ => by simp [compL]
  | x :: xs, acc, hl, st => by
    obtain ⟨ρ1, e1, e2, e3⟩ := st x (by simp)
    unfold compL
    simp only [List.length_cons] at hl
    cases hx : h x with
    | none =>
      rw [hx] at e2
      simp only [e1, e2, R.nox, R.bind, Option.isSome_none]
      rw [if_neg (by decide), compL_map h xs acc (by omega) fun d hd => st d (by simp [hd]), List.filterMap_cons, hx]
    | some y =>
      rw [hx] at e2
      have e4 := e3 y hx
      simp only [e1, e2, e4, R.nox, R.bind, Option.isSome_some, if_true]
      rw [if_pos (by omega), compL_map h xs (acc ++ [y]) (by simp; omega) fun d hd => st d (by simp [hd]), List.filterMap_cons, hx]
      simp
/-- of whole numbers, all of them -/
theorem comp_ints {α : Type} {t : Tg} {e : Ex} {vs : List Nat} {ρ : Ev} {S : Sto} (f : α → D) (g : α → D) (xs : List α) (hl : xs.length ≤ 16777216)
    (st : ∀ x ∈ xs, ∃ ρ1, t.put (f x) (wipeD ρ vs) = some ρ1 ∧ e ρ1 S = .ok (g x) S) : compL t tYesX e vs (xs.map f) ρ S [] = .ok (xs.map g) S := by
  suffices h : ∀ (xs : List α) (acc : List D), acc.length + xs.length ≤ sizeLine → (∀ x ∈ xs, ∃ ρ1, t.put (f x) (wipeD ρ vs) = some ρ1 ∧ e ρ1 S = .ok (g x) S) → compL t tYesX e vs (xs.map f) ρ S acc = .ok (acc ++ xs.map g) S by
    have := h xs [] (by rw [sizeLine_eq]; simpa using hl) st
    simpa using this
  intro xs
  induction xs with
  | nil => intro acc _ _; simp [compL]
  | cons x xs ih =>
    intro acc hl st
    obtain ⟨ρ1, e1, e2⟩ := st x (by simp)
    simp only [List.length_cons] at hl
    rw [List.map_cons]
    unfold compL
    simp only [e1, e2, tYesX, R.nox, R.bind, if_true]
    rw [if_pos (by omega), ih (acc ++ [g x]) (by simp; omega) fun y hy => st y (by simp [hy])]
    simp
theorem comp_filt {α : Type} {t : Tg} {tt : Tx} {e : Ex} {vs : List Nat} {ρ : Ev} {S : Sto} (f : α → D) (p : α → Bool) (g : α → D) (xs : List α) (hl : xs.length ≤ 16777216)
    (st : ∀ x ∈ xs, ∃ ρ1, t.put (f x) (wipeD ρ vs) = some ρ1 ∧ tt ρ1 S = .ok (p x) S ∧ e ρ1 S = .ok (g x) S) : compL t tt e vs (xs.map f) ρ S [] = .ok ((xs.filter p).map g) S := by
  suffices h : ∀ (xs : List α) (acc : List D), acc.length + xs.length ≤ sizeLine → (∀ x ∈ xs, ∃ ρ1, t.put (f x) (wipeD ρ vs) = some ρ1 ∧ tt ρ1 S = .ok (p x) S ∧ e ρ1 S = .ok (g x) S) → compL t tt e vs (xs.map f) ρ S acc = .ok (acc ++ (xs.filter p).map g) S by
    have := h xs [] (by rw [sizeLine_eq]; simpa using hl) st
    simpa using this
  intro xs
  induction xs with
  | nil => intro acc _ _; simp [compL]
  | cons x xs ih =>
    intro acc hl st
    obtain ⟨ρ1, e1, e2, e3⟩ := st x (by simp)
    simp only [List.length_cons] at hl
    rw [List.map_cons]
    unfold compL
    cases hp : p x with
    | true =>
      rw [hp] at e2
      simp only [e1, e2, e3, R.nox, R.bind, if_true]
      rw [if_pos (by omega), ih (acc ++ [g x]) (by simp; omega) fun y hy => st y (by simp [hy])]
      simp [hp]
    | false =>
      rw [hp] at e2
      simp only [e1, e2, R.nox, R.bind]
      rw [if_neg (by decide), ih acc (by omega) fun y hy => st y (by simp [hy])]
      simp [hp]
/-! ### loops -/
theorem loop_inv {t : Tg} {b : Sx} (I : Nat → Ev → Sto → Prop) : ∀ (xs : List D) (k : Nat) (ρ : Ev) (S : Sto), I k ρ S →
    (∀ j d ρ S, xs[j]? = some d → I (k + j) ρ S → ∃ ρ1, t.put d ρ = some ρ1 ∧ ∃ ρ2 S2, b ρ1 S = .fl (.nx ρ2) S2 ∧ I (k + j + 1) ρ2 S2) →
    ∃ ρ' S', loopS t b xs ρ S = .fl (.nx ρ') S' ∧ I (k + xs.length) ρ' S'
  | [], k, ρ, S, h, _ => ⟨ρ, S, rfl, h⟩
  | x :: xs, k, ρ, S, h, st => by
    obtain ⟨ρ1, e1, ρ2, S2, e2, h'⟩ := st 0 x ρ S rfl h
    obtain ⟨ρ', S', e4, h2⟩ := loop_inv I xs (k + 1) ρ2 S2 h' fun j d ρ S hj hI => by
      have := st (j + 1) d ρ S (by simpa using hj) (by rw [show k + (j + 1) = k + 1 + j by omega]; exact hI)
      rw [show k + (j + 1) + 1 = k + 1 + j + 1 by omega] at this
      exact this
    refine ⟨ρ', S', ?_, by rw [List.length_cons, show k + (xs.length + 1) = k + 1 + xs.length by omega]; exact h2⟩
    unfold loopS
    simp only [e1, e2]
    exact e4
/-- a loop as a fold -/
theorem loop_fold {α β : Type} {t : Tg} {b : Sx} {S : Sto} (f : α → D) (F : β → Ev) (st : β → α → β) : ∀ (xs : List α) (x0 : β),
    (∀ y x, x ∈ xs → ∃ ρ1, t.put (f x) (F y) = some ρ1 ∧ ∃ z, b ρ1 S = .fl (.nx (F z)) S ∧ z = st y x) → loopS t b (xs.map f) (F x0) S = .fl (.nx (F (xs.foldl st x0))) S
  | [], x0, _ => rfl
  | x :: xs, x0, h => by
    obtain ⟨ρ1, e1, z, e2, rfl⟩ := h x0 x (by simp)
    rw [List.map_cons]
    unfold loopS
    simp only [e1, e2, List.foldl_cons]
    exact loop_fold f F st xs _ fun y x hx => h y x (by simp [hx])
theorem iRng_nat (n : Nat) : iRng 0 (n : Int) = (List.range n).map fun k => .int (k : Nat) := by
  unfold iRng
  simp
/-- a loop as a fold, with what stays true -/
theorem loop_foldI {α β : Type} {t : Tg} {b : Sx} {S : Sto} (f : α → D) (F : β → Ev) (st : β → α → β) (I : Nat → β → Prop) : ∀ (xs : List α) (k : Nat) (x0 : β), I k x0 →
    (∀ j y x, x ∈ xs → j < k + xs.length → I j y → (∃ ρ1, t.put (f x) (F y) = some ρ1 ∧ ∃ z, b ρ1 S = .fl (.nx (F z)) S ∧ z = st y x) ∧ I (j + 1) (st y x)) → loopS t b (xs.map f) (F x0) S = .fl (.nx (F (xs.foldl st x0))) S ∧ I (k + xs.length) (xs.foldl st x0)
  | [], k, x0, h0, _ => ⟨rfl, h0⟩
  | x :: xs, k, x0, h0, h => by
    obtain ⟨⟨ρ1, e1, z, e2, rfl⟩, h1⟩ := h k x0 x (by simp) (by simp) h0
    obtain ⟨h2, h3⟩ := loop_foldI f F st I xs (k + 1) (st x0 x) h1 fun j y x hx hj => h j y x (by simp [hx]) (by rw [List.length_cons]; omega)
    refine ⟨?_, by rw [List.length_cons, List.foldl_cons, show k + (xs.length + 1) = k + 1 + xs.length by omega]; exact h3⟩
    rw [List.map_cons]
    unfold loopS
    simp only [e1, e2, List.foldl_cons]
    exact h2
theorem toPs_map {α : Type} (f : α → D) (g : α → PyData) (h : ∀ x, toP (f x) = some (g x)) : ∀ xs : List α, toPs (xs.map f) = some (xs.map g)
  | [] => rfl
  | x :: xs => by simp [toPs, h x, toPs_map f g h xs]
theorem lay_map {α : Type} (g : α → PyData) (h : ∀ x, (g x).canLay0 = true) : ∀ xs : List α, PyData.canLayAll0 (xs.map g) = true
  | [] => by simp [PyData.canLayAll0]
  | x :: xs => by simp [PyData.canLayAll0, h x, lay_map g h xs]
theorem dep_map {α : Type} (g : α → PyData) (n : Nat) (h : ∀ x, (g x).depth ≤ n) : ∀ xs : List α, PyData.depthAll (xs.map g) ≤ n
  | [] => by simp [PyData.depthAll]
  | x :: xs => by
    have h1 := h x
    have h2 := dep_map g n h xs
    simp only [List.map_cons, PyData.depthAll]
    omega
theorem eqB_refl {d : D} {p : PyData} (h : toP d = some p) (h1 : p.canLay0 = true) (h2 : p.depth ≤ 64) : eqB d d = some true := by
  have h3 : SeqAt.shaped p = true := by simp [SeqAt.shaped, h1, h2]
  unfold eqB
  cases e : eqS d d with
  | some c =>
    obtain ⟨x, y, e1, e2, rfl⟩ := eqS_some e
    rw [e1] at e2
    cases e2
    simp
  | none =>
    rw [h]
    simp only [h3, Bool.and_self, if_true]
    rw [SeqAt.eqv_refl p h1]
def pr (p : Int × Int) : D := .tup [.int p.1, .int p.2]
theorem eqB_prs (xs : List (Int × Int)) : eqB (.lst (xs.map pr)) (.lst (xs.map pr)) = some true := by
  have e : toP (.lst (xs.map pr)) = some (.list (xs.map fun p => .tuple [.int p.1, .int p.2])) := by
    simp only [toP, toPs_map pr (fun p => .tuple [.int p.1, .int p.2]) (fun x => rfl) xs, Option.map_some]
  refine eqB_refl e ?_ ?_
  · simp only [PyData.canLay0]
    exact lay_map _ (fun x => by simp [PyData.canLay0, PyData.canLayAll0]) xs
  · simp only [PyData.depth]
    have := dep_map (fun p : Int × Int => PyData.tuple [.int p.1, .int p.2]) 1 (fun x => by simp [PyData.depth, PyData.depthAll]) xs
    omega
theorem eqB_ints (xs : List Int) : eqB (.lst (xs.map .int)) (.lst (xs.map .int)) = some true := by
  have e : toP (.lst (xs.map .int)) = some (.list (xs.map .int)) := by
    simp only [toP, toPs_map D.int PyData.int (fun x => rfl) xs, Option.map_some]
  refine eqB_refl e ?_ ?_
  · simp only [PyData.canLay0]
    exact lay_map _ (fun x => by simp [PyData.canLay0]) xs
  · simp only [PyData.depth]
    have := dep_map PyData.int 1 (fun x => by simp [PyData.depth]) xs
    omega
theorem eqB_intsT (xs : List Int) : eqB (.tup (xs.map .int)) (.tup (xs.map .int)) = some true := by
  have e : toP (.tup (xs.map .int)) = some (.tuple (xs.map .int)) := by
    simp only [toP, toPs_map D.int PyData.int (fun x => rfl) xs, Option.map_some]
  refine eqB_refl e ?_ ?_
  · simp only [PyData.canLay0]
    exact lay_map _ (fun x => by simp [PyData.canLay0]) xs
  · simp only [PyData.depth]
    have := dep_map PyData.int 1 (fun x => by simp [PyData.depth]) xs
    omega
end DL

/-! ## DLq -/
set_option Elab.async false
set_option linter.all false
set_option maxRecDepth 100000
set_option maxHeartbeats 4000000
namespace DL
open PySem PySem.Spec PyProof.Rows L2
/-! ### a def that asks what stands, however deep, and tells a plain thing -/
def frzR (S : Sto) (n : Nat) : D := match S[n]? with
  | some (some (.lst xs)) => .lst xs
  | _ => .ref n
mutual
def frzD (S : Sto) : D → D
  | .ref n => frzR S n
  | .tup xs => .tup (frzDs S xs)
  | .lst xs => .lst (frzDs S xs)
  | .non => .non
  | .bl b => .bl b
  | .int i => .int i
  | .str x => .str x
  | .dic t kvs => .dic t kvs
  | .raw v => .raw v
  | .scr ns => .scr ns
def frzDs (S : Sto) : List D → List D
  | [] => []
  | d :: ds => frzD S d :: frzDs S ds
end
theorem frzDs_length (S : Sto) : ∀ ds : List D, (frzDs S ds).length = ds.length
  | [] => rfl
  | d :: ds => by simp [frzDs, frzDs_length S ds]
def fnW (F : Fn) : Fn := fun ds S => if noRefs (frzDs S ds) = true then match F (frzDs S ds) [] with
  | .ok d _ => if flat d = true then .ok d S else .bad
  | _ => .bad else .bad
section
variable {K : PySem.W.Frag} {mg : Str → Option Value} {H : Hp} {m : List Addr} {B : Addr → Prop} {S : Sto}
theorem Rep.frzR {n : Nat} {v : V} (r : Rl K mg B m H S) (h : Rep K H (Fo B m S) m v (.ref n)) (e : DL.noRef (DL.frzR S n) = true) : Rep K H (fun _ => False) [] v (DL.frzR S n) := by
  cases h with
  | ref hn =>
    unfold DL.frzR at e ⊢
    cases hx : S[n]? with
    | none => rw [hx] at e; simp [DL.noRef] at e
    | some o =>
      cases o with
      | none => rw [hx] at e; simp [DL.noRef] at e
      | some o =>
        cases o with
        | lst xs =>
          rw [hx] at e
          cases r.obj _ _ _ hn hx with
          | lst h z q => exact .lst h (fun f => f) z (q.noRef (fun _ f => f.elim) (by simpa [DL.noRef] using e))
        | dic t kvs => rw [hx] at e; simp [DL.noRef] at e
        | ins c fs => rw [hx] at e; simp [DL.noRef] at e
mutual
theorem Rep.frzD (r : Rl K mg B m H S) : ∀ {d : D} {v : V}, Rep K H (Fo B m S) m v d → DL.noRef (DL.frzD S d) = true → Rep K H (fun _ => False) [] v (DL.frzD S d)
  | .ref n, v, h, e => by
    simp only [DL.frzD] at e ⊢
    exact h.frzR r e
  | .tup xs, v, h, e => by
    cases h with
    | tup h z q =>
      simp only [DL.frzD, DL.noRef] at e ⊢
      exact .tup h z (RepA.frzD r q e)
  | .lst xs, v, h, e => by
    cases h with
    | lst h f z q =>
      simp only [DL.frzD, DL.noRef] at e ⊢
      exact .lst h (fun f => f) z (RepA.frzD r q e)
  | .non, v, h, e => by simp only [DL.frzD] at e ⊢; exact Rep.noRef (fun _ f => f.elim) h e
  | .bl b, v, h, e => by simp only [DL.frzD] at e ⊢; exact Rep.noRef (fun _ f => f.elim) h e
  | .int i, v, h, e => by simp only [DL.frzD] at e ⊢; exact Rep.noRef (fun _ f => f.elim) h e
  | .str x, v, h, e => by simp only [DL.frzD] at e ⊢; exact Rep.noRef (fun _ f => f.elim) h e
  | .dic t kvs, v, h, e => by simp only [DL.frzD] at e ⊢; exact Rep.noRef (fun _ f => f.elim) h e
  | .raw w, v, h, e => by simp only [DL.frzD] at e ⊢; exact Rep.noRef (fun _ f => f.elim) h e
  | .scr ns, v, h, e => by simp only [DL.frzD] at e ⊢; exact Rep.noRef (fun _ f => f.elim) h e
theorem RepA.frzD (r : Rl K mg B m H S) : ∀ {ds : List D} {vs : List V}, RepA K H (Fo B m S) m vs ds → noRefs (frzDs S ds) = true → RepA K H (fun _ => False) [] vs (frzDs S ds)
  | [], _, .nil, _ => .nil
  | d :: ds, _, .cons h q, e => by
    simp only [frzDs, noRefs, Bool.and_eq_true] at e ⊢
    exact .cons (Rep.frzD r h e.1) (RepA.frzD r q e.2)
end
theorem spW_of {n : Nat} {F : Fn} (vs : List V) (H : Hp) (Q : VK) (E : XK) (h : spD K mg n (fnW F) vs H Q E) : spD K mg n F vs H Q E := by
  obtain ⟨B, m, S, ds, r, q, e, g⟩ := h
  unfold fnW at g
  split at g
  · rename_i hd
    have e0 : ∀ a, Fo (fun _ => False) [] [] a → False := fun a z => z.elim id fun ⟨n, o, e1, e2⟩ => by simp at e1
    refine ⟨fun _ => False, [], [], frzDs S ds, ⟨rfl, List.nodup_nil, fun a ⟨n, o, e1, e2⟩ => by simp at e1, fun a z => z.elim, fun a z => by simp at z, fun n a o e1 e2 => by simp at e1⟩, (RepA.frzD r q hd).noRef (fun a z => e0 a z) hd, e, ?_⟩
    cases e1 : F (frzDs S ds) [] with
    | bad => rw [e1] at g; exact g.elim
    | exc c pl S' => rw [e1] at g; exact g.elim
    | ok d S' =>
      rw [e1] at g
      dsimp only at g
      split at g
      · rename_i hn
        intro m' H' v p rv
        have sm : Same H H' := fun a o e => p.keep a o e fun ⟨n, o, e1, e2⟩ => by simp at e1
        exact g m H' v (Post.grow r sm) (rv.flat hn)
      · exact g.elim
  · exact g.elim
end
section
variable {P : Program} {w : World} {K : PySem.W.Frag} {mg : Str → Option Value} {base : Heap} {x name qual : Str} {params : Arguments} {body : List Stmt} {scope : Scope} {f : Addr} {N ps : List Str} {k : Nat} {b : Sx} {F : Fn}
theorem okF_W (h : ∃ fd, FunD K name qual params body scope [] [] (He.fAd K (x, none)) fd) (hm : mg x = some (.ref (He.ga K x))) (sc : FnScope N ps scope)
    (hbind : ∀ (kV doc pm : Value) (an : Option Addr) (cdv ct : Value) (us : List Value), us.length = ps.length → bindArgs (PySem.W.fnOf name qual params body scope .none kV doc pm an cdv ct) ⟨us, []⟩ = pure (ps.zip us))
    (hb : BodyOk P w K mg base x qual body scope N k b) : OkF P w K mg base x ps (k + 1) (fnW (fnB N.length b)) :=
  okF_mk h hm hbind fun fd g => (fn_denD g sc hb).imp spW_of
end
/-! ### chains of statements -/
theorem seq_nx {a b : Sx} {ρ ρ1 : Ev} {S S1 : Sto} {r : RS} (h : a ρ S = .fl (.nx ρ1) S1) (h2 : b ρ1 S1 = r) : sSeq a b ρ S = r := by
  unfold sSeq
  rw [h]
  exact h2
theorem asg_nx {i : Nat} {e : Ex} {ρ : Ev} {S S1 : Sto} {d : D} (h : e ρ S = .ok d S1) : sAsg i e ρ S = .fl (.nx (ρ.set i (some d))) S1 := by
  unfold sAsg
  rw [h]
  rfl
/-! ### while -/
theorem while_inv {t : Tx} {b : Sx} (I : Nat → Ev → Sto → Prop) : ∀ (n k : Nat) (ρ : Ev) (S : Sto), I k ρ S → k < n →
    (∀ k ρ S, I k ρ S → (t ρ S = .ok false S ∧ True) ∨ (t ρ S = .ok true S ∧ ∃ ρ2 S2 k2, b ρ S = .fl (.nx ρ2) S2 ∧ I k2 ρ2 S2 ∧ k2 < k)) →
    ∃ ρ' S' k', whileS n t b ρ S = .fl (.nx ρ') S' ∧ I k' ρ' S' ∧ t ρ' S' = .ok false S'
  | 0, k, ρ, S, h, hk, _ => by omega
  | n + 1, k, ρ, S, h, hk, st => by
    rcases st k ρ S h with ⟨e, _⟩ | ⟨e, ρ2, S2, k2, e2, h2, hk2⟩
    · exact ⟨ρ, S, k, by simp [whileS, e, R.bindS], h, e⟩
    · obtain ⟨ρ', S', k', e3, h3, e4⟩ := while_inv I n k2 ρ2 S2 h2 (by omega) st
      exact ⟨ρ', S', k', by simp only [whileS, e, R.bindS, if_true, e2, e3], h3, e4⟩
theorem fnB_rt {n : Nat} {b : Sx} {ds : List D} {ρ : Ev} {S S' : Sto} {d : D} (he : ds.map some ++ List.replicate (n - ds.length) none = ρ) (h : b ρ S = .fl (.rt d) S') : fnB n b ds S = .ok d S' := by
  unfold fnB
  rw [he, h]
theorem ret_ok {e : Ex} {ρ : Ev} {S S' : Sto} {d : D} (h : e ρ S = .ok d S') : sRet e ρ S = .fl (.rt d) S' := by
  unfold sRet
  rw [h]
  rfl
theorem for_ok {it : Ix} {t : Tg} {b : Sx} {ρ : Ev} {S S1 : Sto} {xs : List D} {r : RS} (hi : it ρ S = .ok xs S1) (h : loopS t b xs ρ S1 = r) : sFor it t b ρ S = r := by
  unfold sFor
  rw [hi]
  exact h
/-! ### one construct at a time (simp over many of them can cost the kernel dear) -/
theorem op2_ok {g : D → D → Option D} {a b : Ex} {ρ : Ev} {S S1 S2 : Sto} {x y z : D} (h1 : a ρ S = .ok x S1) (h2 : b ρ S1 = .ok y S2) (h3 : g (view S2 x) (view S2 y) = some z) : eOp2 g a b ρ S = .ok z S2 := by
  unfold eOp2
  simp only [h1, h2, R.bind, h3, ans]
theorem rng1_ok {e : Ex} {ρ : Ev} {S S1 : Sto} {n : Nat} (h : e ρ S = .ok (.int n) S1) (hn : n ≤ 1000000000) : iRng1X e ρ S = .ok ((List.range n).map fun k => .int (k : Nat)) S1 := by
  rw [← iRng_nat]
  unfold iRng1X
  simp only [h, R.bind]
  exact if_pos ⟨by omega, by omega⟩
theorem fn_ok {F : Fn} {fs : List Ex} {ρ : Ev} {S S1 S2 : Sto} {ds : List D} {d : D} (h1 : evL fs ρ S = .ok ds S1) (h2 : F ds S1 = .ok d S2) : eFn F fs ρ S = .ok d S2 := by
  unfold eFn
  simp only [h1, R.bind, h2]
theorem evl_nil {ρ : Ev} {S : Sto} : evL [] ρ S = .ok [] S := rfl
theorem evl_cons {f : Ex} {fs : List Ex} {ρ : Ev} {S S1 S2 : Sto} {d : D} {ds : List D} (h1 : f ρ S = .ok d S1) (h2 : evL fs ρ S1 = .ok ds S2) : evL (f :: fs) ρ S = .ok (d :: ds) S2 := by
  unfold evL
  simp only [h1, R.bind, h2]
theorem call_ok {g : List D → Option D} {fs : List Ex} {ρ : Ev} {S S1 : Sto} {ds : List D} {d : D} (h1 : evL fs ρ S = .ok ds S1) (h2 : g (ds.map (view S1)) = some d) : eCall g fs ρ S = .ok d S1 := by
  unfold eCall
  simp only [h1, R.bind, h2, ans]
theorem tval_ok {e : Ex} {ρ : Ev} {S S1 : Sto} {b : Bool} (h : e ρ S = .ok (.bl b) S1) : tVal e ρ S = .ok b S1 := by
  unfold tVal
  simp only [h, R.bind]
theorem if_ok {t : Tx} {a b : Sx} {ρ : Ev} {S S1 : Sto} {c : Bool} {r : RS} (h : t ρ S = .ok c S1) (h2 : (if c = true then a ρ S1 else b ρ S1) = r) : sIf t a b ρ S = r := by
  unfold sIf
  rw [h]
  exact h2
end DL

/-! ## DLs -/
set_option Elab.async false
set_option linter.all false
set_option maxRecDepth 100000
set_option maxHeartbeats 4000000
namespace DL
open PySem PySem.Spec PyProof.Rows L2
/-! ### repr(x) -/
mutual
theorem toP_noRef : ∀ (d : D) (p : PyData), toP d = some p → noRef d = true
  | .non, _, _ => rfl
  | .bl _, _, _ => rfl
  | .int _, _, _ => rfl
  | .str _, _, _ => rfl
  | .tup xs, p, e => by
    cases e1 : toPs xs with
    | none => simp [toP, e1] at e
    | some ps => exact toPs_noRef xs ps e1
  | .lst xs, p, e => by
    cases e1 : toPs xs with
    | none => simp [toP, e1] at e
    | some ps => exact toPs_noRef xs ps e1
  | .dic _ _, _, e => by simp [toP] at e
  | .ref _, _, e => by simp [toP] at e
  | .raw _, _, e => by simp [toP] at e
  | .scr _, _, e => by simp [toP] at e
theorem toPs_noRef : ∀ (ds : List D) (ps : List PyData), toPs ds = some ps → noRefs ds = true
  | [], _, _ => rfl
  | d :: ds, ps, e => by
    cases e1 : toP d with
    | none => simp [toPs, e1] at e
    | some p =>
      cases e2 : toPs ds with
      | none => simp [toPs, e1, e2] at e
      | some ps => simp [noRefs, toP_noRef d p e1, toPs_noRef ds ps e2]
end
section
variable {K : PySem.W.Frag} {H : Hp}
mutual
theorem dp_noDict : ∀ (p : PyData) (v : V), Dp K H v p → p.hasDict = false
  | .none, _, _ => by simp [PyData.hasDict]
  | .bool _, _, _ => by simp [PyData.hasDict]
  | .int _, _, _ => by simp [PyData.hasDict]
  | .str _, _, _ => by simp [PyData.hasDict]
  | .list ds, _, h => by
    cases h with
    | lst hs ha => simp only [PyData.hasDict]; exact dpAll_noDict ds _ ha
  | .tuple ds, _, h => by
    cases h with
    | tup hs ha => simp only [PyData.hasDict]; exact dpAll_noDict ds _ ha
  | .dict _, _, h => by cases h
theorem dpAll_noDict : ∀ (ps : List PyData) (vs : List V), DpAll K H vs ps → PyData.hasDictAll ps = false
  | [], _, _ => by simp [PyData.hasDictAll]
  | p :: ps, _, h => by
    cases h with
    | cons h1 h2 => simp [PyData.hasDictAll, dp_noDict p _ h1, dpAll_noDict ps _ h2]
end
end
def showsD (p : PyData) : Bool := p.showable && decide (p.depth ≤ 40) && decide (p.shown.length ≤ 16000000)
def reprD (d : D) : Option D := (toP d).bind fun p => if showsD p = true then some (.str p.shown) else none
def eRepr (f : Ex) : Ex := fun ρ S => (f ρ S).bind fun d S => ans S (reprD (frzD S d))
def rRepr (K : PySem.W.Frag) : List V → Hp → VK → Prop := fun xs H Q => ∃ v p, xs = [v] ∧ Dp K H v p ∧ showsD p = true ∧ Q (.str p.shown) H
section
variable {X : Cx} {W : WX} {k : Nat}
theorem call_reprD (hr : DL.Room k X.A) : CallR X (.builtin "repr") (rRepr X.K) := by
  intro pins s σ H xs us Q I r ⟨v, p, e, hp, hs, q⟩
  subst e
  obtain ⟨u, rfl, rv⟩ := vals1 r
  have h1 := Bool.and_eq_true_iff.mp hs
  have h2 := Bool.and_eq_true_iff.mp h1.1
  have hd := of_decide_eq_true h2.2
  have hz := of_decide_eq_true h1.2
  have hz' : p.shown.length ≤ sizeLine := by rw [sizeLine_eq]; omega
  have hun := hr.r.un
  have big : ∀ a as, Reads s.heap (.ref a) p as → u = .ref a → wpAny (model X.prog X.w) X.A (call (.builtin "repr") [u]) (EP X pins σ Q) X.xe s := by
    rintro a as rd rfl
    exact repr_of_reads' rd h2.1 (fun z => by rw [dp_noDict p _ hp] at z; cases z) hr.g (by omega) (fun _ _ z => z) (fun h' t tk kp => ⟨.str p.shown, H, I.kept kp, ⟨_, rfl⟩, q⟩) hz'
  cases p with
  | none =>
    cases hp
    cases rv
    exact PySem.P.repr_of_none ⟨.str "None", H, I.tok _, ⟨_, rfl⟩, q⟩
  | bool b =>
    cases hp
    cases rv
    exact PySem.P.repr_of_bool ⟨.str _, H, I.tok _, ⟨_, rfl⟩, q⟩
  | int i =>
    cases hp
    obtain ⟨t, rfl⟩ := rv
    exact PySem.P.repr_of_int (by simpa [PyData.showable] using h2.1) ⟨.str _, H, I.tok _, ⟨_, rfl⟩, q⟩
  | str x =>
    cases hp
    obtain ⟨t, rfl⟩ := rv
    exact PySem.P.repr_of_str (hsz := hz') ⟨.str _, H, I.tok _, ⟨_, rfl⟩, q⟩
  | list ds =>
    obtain ⟨as, rd⟩ := Dp.reads I _ v u hp rv
    cases hp
    cases rv
    exact big _ as rd rfl
  | tuple ds =>
    obtain ⟨as, rd⟩ := Dp.reads I _ v u hp rv
    cases hp
    cases rv
    exact big _ as rd rfl
  | dict kvs => cases hp
theorem ev_repr {e : Expr} {fe : Ex} {p pos : Pos} (hr : DL.Room k X.A) (hg : Gl X "repr") (hm : X.mg "repr" = none) (he : EV X W e fe) (hv : bootBuiltins "repr" = some (.builtin "repr") := by decide +kernel)
    (hs : starEach [e] X.env = (false, eval e X.env) :: starEach [] X.env := by rfl) (hpl : (backTo pos (starEach [] X.env)).any (·.1) = false := by rfl) : EV X W (.Call (.Name "repr" p) [e] [] pos) (eRepr fe) := by
  refine pe_imp (pe_callB (call_reprD hr) hg hm hv (pa_cons he pa_nil hs) (by decide) (by decide) hs hpl) fun σ H Q h => ?_
  obtain ⟨B, m, ρ, S, r, re, f⟩ := up_one (g := fun x ρ S => ans S (reprD (frzD S x))) h
  refine ⟨B, m, ρ, S, r, re, f.mono fun v H1 => ?_⟩
  rintro ⟨B, m, ρ, S, dx, r, re, rx, f⟩
  cases e1 : toP (frzD S dx) with
  | none => simp [reprD, e1] at f; exact f.elim
  | some p =>
    by_cases hs : showsD p = true
    · simp only [reprD, e1, Option.bind, hs, if_true] at f
      exact ⟨v, p, rfl, (Rep.frzD r rx (toP_noRef _ _ e1)).dp e1, hs, f m H1 _ (Post.refl r) (.str _)⟩
    · simp only [reprD, e1, Option.bind, if_neg hs] at f
      exact f.elim
end
end DL

/-! ## DLt -/
set_option Elab.async false
set_option linter.all false
set_option maxRecDepth 100000
set_option maxHeartbeats 4000000
namespace DL
open PySem PySem.Spec PyProof.Rows L2
/-! ### range(a, b, c) -/
def rgN (i j c : Int) : Nat := (Builtin.Range.rangeSize i j c).toNat
def iRng3 (i j c : Int) : List D := (List.range (rgN i j c)).map fun k => .int (i + (k : Nat) * c)
def iRng3X (a b c : Ex) : Ix := fun ρ S => (evL [a, b, c] ρ S).bind fun ds S => match ds with
  | [.int i, .int j, .int k] => if k ≠ 0 ∧ k.natAbs < 1073741824 ∧ Builtin.Range.small i j k = true then .ok (iRng3 i j k) S else .bad
  | _ => .bad
section
variable {X : Cx} {W : WX} {tg e e2 e3 : Expr} {fa fb fc : Ex} {p pos : Pos}
theorem itr_rngC {K : PySem.W.Frag} {Fb : Addr → Prop} {m : List Addr} {H : Hp} {a b c : Int} : ItR K H Fb m (Itc a c (rgN a b c)) (iRng3 a b c) := by
  intro H2 F2 m2 p
  refine ⟨fun i hi => ⟨?_, fun x H3 y => ?_⟩, fun i hi => ?_⟩
  · show i < rgN a b c
    simpa [iRng3] using hi
  · obtain ⟨e, y⟩ := y
    subst e y
    have hi' : i < rgN a b c := by simpa [iRng3] using hi
    exact ⟨.int (a + (i : Nat) * c), by simp only [iRng3, List.getElem?_map, List.getElem?_range hi', Option.map_some], Same.refl _, .int _⟩
  · show rgN a b c ≤ i
    simpa [iRng3] using hi
theorem iv_rng3 (hg : Gl X "range") (hm : X.mg "range" = none) (ha : EV X W e fa) (hb : EV X W e2 fb) (hc : EV X W e3 fc) (hs : starEach [e, e2, e3] X.env = (false, eval e X.env) :: starEach [e2, e3] X.env := by rfl) (hs2 : starEach [e2, e3] X.env = (false, eval e2 X.env) :: starEach [e3] X.env := by rfl)
    (hs3 : starEach [e3] X.env = (false, eval e3 X.env) :: starEach [] X.env := by rfl) (hpl : (backTo pos (starEach [e2, e3] X.env)).any (·.1) = false := by rfl) :
    IV X W tg (.Call (.Name "range" p) [e, e2, e3] [] pos) (iRng3X fa fb fc) := by
  refine pi_imp (pi_range3 hg hm (ea_cons ha (ea_cons hb (ea_cons hc ea_nil hs3) hs2) hs) hs hpl) fun σ H Q h => ?_
  obtain ⟨B, m, ρ, S, r, re, f⟩ := h
  refine ⟨B, m, ρ, S, r, re, (finA.bindI f).mono fun vs H1 => ?_⟩
  rintro ⟨m1, S1, ds, po, q, f⟩
  split at f
  · rename_i i j k
    split at f
    · rename_i hk
      cases q with
      | cons q1 q => cases q with
        | cons q2 q => cases q with
          | cons q3 q =>
            cases q; cases q1; cases q2; cases q3
            refine ⟨i, j, k, rgN i j k, rfl, ⟨hk.1, hk.2.1, hk.2.2, PyProof.Rows.rangeSize_toNat i j k⟩, f m1 H1 _ (Post.refl po.rl) itr_rngC⟩
    · exact f.elim
  · exact f.elim
end
/-! ### x in a list or a tuple, of flat things -/
def fV : D → Option V
  | .non => some .non
  | .bl b => some (.bl b)
  | .int i => some (.int i)
  | .str x => some (.str x)
  | _ => none
def fVs : List D → Option (List V)
  | [] => some []
  | d :: ds => match fV d, fVs ds with
    | some v, some vs => some (v :: vs)
    | _, _ => none
def sqOf : D → Option (List D)
  | .lst xs => some xs
  | .tup xs => some xs
  | _ => none
def inB (x y : D) : Option Bool := (fV x).bind fun v => (sqOf y).bind fun ds => (fVs ds).map fun vs => inV v vs
def inU (x y : D) : Option Bool := match y with
  | .dic t kvs => dhasD (.dic t kvs) x
  | y => inB x y
def inD (x y : D) : Option D := (inU x y).map .bl
def ninD (x y : D) : Option D := (inU x y).map fun b => .bl (!b)
section
variable {K : PySem.W.Frag} {H : Hp} {Fb : Addr → Prop} {m : List Addr}
theorem fV_flat : ∀ {d : D} {v : V}, fV d = some v → flatV v = true
  | .non, _, e => by cases e; rfl
  | .bl _, _, e => by cases e; rfl
  | .int _, _, e => by cases e; rfl
  | .str _, _, e => by cases e; rfl
  | .tup _, _, e => by cases e
  | .lst _, _, e => by cases e
  | .dic _ _, _, e => by cases e
  | .ref _, _, e => by cases e
  | .raw _, _, e => by cases e
  | .scr _, _, e => by cases e
theorem Rep.fV {d : D} {v w : V} (h : Rep K H Fb m v d) (e : DL.fV d = some w) : v = w := by
  cases h <;> simp [DL.fV] at e <;> first | exact e | (subst e; rfl)
theorem Vw.fV {d : D} {v w : V} (h : Vw K H Fb m v d) (e : DL.fV d = some w) : v = w := by
  cases h with
  | oth h => exact h.fV e
  | lst _ _ _ => cases e
  | dK _ _ _ _ => cases e
  | dT _ _ _ _ => cases e
theorem RepA.fVs : ∀ {ds : List D} {vs ws : List V}, RepA K H Fb m vs ds → DL.fVs ds = some ws → vs = ws ∧ ws.all flatV = true
  | [], _, _, .nil, e => by cases e; exact ⟨rfl, rfl⟩
  | d :: ds, _, ws, .cons h q, e => by
    unfold DL.fVs at e
    cases e1 : DL.fV d with
    | none => rw [e1] at e; cases e
    | some w =>
      cases e2 : DL.fVs ds with
      | none => rw [e1, e2] at e; cases e
      | some us =>
        rw [e1, e2] at e
        cases e
        obtain ⟨rfl, g⟩ := q.fVs e2
        have := h.fV e1
        subst this
        exact ⟨rfl, by simp [fV_flat e1, g]⟩
end
section
variable {X : Cx}
theorem inB_sq {K : PySem.W.Frag} {H : Hp} {Fb : Addr → Prop} {m : List Addr} {dx dy : D} {x y : V} {c : Bool} (vx : Vw K H Fb m x dx) (vy : Vw K H Fb m y dy) (e : inB dx dy = some c) :
    ∃ p xs, y = .ref p ∧ (SqL K H p xs ∨ SqT K H p xs) ∧ flatV x = true ∧ xs.all flatV = true ∧ c = inV x xs := by
  unfold inB at e
  cases e1 : fV dx with
  | none => rw [e1] at e; cases e
  | some v =>
    cases e2 : sqOf dy with
    | none => rw [e1, e2] at e; cases e
    | some ds =>
      cases e3 : fVs ds with
      | none => rw [e1, e2] at e; simp [e3] at e
      | some vs =>
        rw [e1, e2] at e
        simp [e3] at e
        have ex := vx.fV e1
        subst ex
        cases dy with
        | lst zs =>
          cases e2
          obtain ⟨a, us, rfl, h, z, q⟩ := vy.asL
          obtain ⟨rfl, g⟩ := q.fVs e3
          exact ⟨a, _, rfl, .inl (SqL.of h), fV_flat e1, g, e.symm⟩
        | tup zs =>
          cases e2
          obtain ⟨a, us, rfl, h, z, q⟩ := vy.asT
          obtain ⟨rfl, g⟩ := q.fVs e3
          exact ⟨a, _, rfl, .inr h, fV_flat e1, g, e.symm⟩
        | _ => cases e2
theorem og_in (hu : X.A.units + 64 < cLine) : OpR X (compareOp .In) (rG2 X.K inD) := by
  intro pins s σ H x y v u Q I rx ry ⟨Fb, m, dx, dy, d, fr, vx, vy, e, k⟩
  obtain ⟨c, e1, rfl⟩ := Option.map_eq_some_iff.mp e
  unfold inU at e1
  split at e1
  · obtain ⟨a, o, rfl, g, rfl⟩ := dhas_ok vy vx e1
    obtain rfl : u = Value.ref a := ry
    exact d_in (by omega) I g rx fun s' I' => ⟨.bl o.isSome, H, I', rfl, k H _ (Same.refl H) (.bl _)⟩
  · obtain ⟨p, xs, h1, h2, h3, h4, rfl⟩ := inB_sq vx vy e1
    exact op_in_seq pins s σ H x y v u Q I rx ry ⟨p, xs, h1, h2, h3, h4, by rw [if_neg Bool.false_ne_true]; exact k H _ (Same.refl H) (.bl _)⟩
theorem og_nin (hu : X.A.units + 64 < cLine) : OpR X (compareOp .NotIn) (rG2 X.K ninD) := by
  intro pins s σ H x y v u Q I rx ry ⟨Fb, m, dx, dy, d, fr, vx, vy, e, k⟩
  obtain ⟨c, e1, rfl⟩ := Option.map_eq_some_iff.mp e
  unfold inU at e1
  split at e1
  · obtain ⟨a, o, rfl, g, rfl⟩ := dhas_ok vy vx e1
    obtain rfl : u = Value.ref a := ry
    exact d_notIn (by omega) I g rx fun s' I' => ⟨.bl (!o.isSome), H, I', rfl, k H _ (Same.refl H) (.bl _)⟩
  · obtain ⟨p, xs, h1, h2, h3, h4, rfl⟩ := inB_sq vx vy e1
    exact op_notIn_seq pins s σ H x y v u Q I rx ry ⟨p, xs, h1, h2, h3, h4, by rw [if_pos rfl]; exact k H _ (Same.refl H) (.bl _)⟩
end
/-! ### max, min of a list of ints -/
def maxI (n : Int) (ns : List Int) : Int := ns.foldl max n
def max1D : List D → Option D
  | [.lst xs] => (asIs xs).bind fun ns => match ns with
    | [] => none
    | n :: ns => some (.int (maxI n ns))
  | _ => none
theorem maxI_mem : ∀ (ns : List Int) (n : Int), maxI n ns ∈ n :: ns ∧ ∀ a ∈ n :: ns, a ≤ maxI n ns
  | [], n => by simp [maxI]
  | m :: ns, n => by
    have h := maxI_mem ns (max n m)
    have e : maxI n (m :: ns) = maxI (max n m) ns := rfl
    rw [e]
    constructor
    · rcases List.mem_cons.mp h.1 with h1 | h1
      · rw [h1]
        rcases Int.le_total n m with h2 | h2
        · rw [Int.max_eq_right h2]; simp
        · rw [Int.max_eq_left h2]; simp
      · simp [h1]
    · intro a ha
      have h0 := h.2 (max n m) (by simp)
      rcases List.mem_cons.mp ha with rfl | ha
      · omega
      · rcases List.mem_cons.mp ha with rfl | ha
        · omega
        · exact h.2 a (by simp [ha])
theorem max_uniq {n M : Int} {ns : List Int} (h1 : M ∈ n :: ns) (h2 : ∀ a ∈ n :: ns, a ≤ M) : M = maxI n ns := by
  have h := maxI_mem ns n
  have := h.2 M h1
  have := h2 _ h.1
  omega
section
variable {X : Cx} {W : WX}
theorem asIs_eq : ∀ {ds : List D} {ns : List Int}, asIs ds = some ns → ds = ns.map .int
  | [], ns, e => by cases e; rfl
  | .int i :: ds, ns, e => by
    unfold asIs at e
    obtain ⟨ms, e1, rfl⟩ := Option.map_eq_some_iff.mp e
    rw [asIs_eq e1]
    rfl
  | .non :: _, _, e => by simp [asIs] at e
  | .bl _ :: _, _, e => by simp [asIs] at e
  | .str _ :: _, _, e => by simp [asIs] at e
  | .tup _ :: _, _, e => by simp [asIs] at e
  | .lst _ :: _, _, e => by simp [asIs] at e
  | .dic _ _ :: _, _, e => by simp [asIs] at e
  | .ref _ :: _, _, e => by simp [asIs] at e
  | .raw _ :: _, _, e => by simp [asIs] at e
  | .scr _ :: _, _, e => by simp [asIs] at e
theorem repA_isI {K : PySem.W.Frag} {H : Hp} {Fb : Addr → Prop} {m : List Addr} : ∀ {ns : List Int} {vs : List V}, RepA K H Fb m vs (ns.map .int) → vs = ns.map .int
  | [], _, h => by cases h; rfl
  | n :: ns, _, h => by
    cases h with
    | cons h q => cases h; rw [repA_isI q]; rfl
theorem cg_max1 (hc : X.calm = true) : CallR X (.builtin "max") (rGn X.K max1D) := by
  intro pins s σ H xs us Q I r ⟨Fb, m, ds, d, fr, vs, e, k⟩
  unfold max1D at e
  split at e
  · rename_i zs
    cases vs with
    | cons v1 vt =>
      cases vt
      obtain ⟨a, ws, rfl, h, z, q⟩ := v1.asL
      cases e1 : asIs zs with
      | none => rw [e1] at e; cases e
      | some ns =>
        rw [e1] at e
        simp only [Option.bind] at e
        split at e
        · cases e
        · rename_i n ns
          cases e
          have := asIs_eq e1
          subst this
          have := repA_isI q
          subst this
          exact cr_max hc pins s σ H _ us Q I r ⟨a, n :: ns, rfl, SqL.of h, by simp, fun M h1 h2 => by
            rw [max_uniq h1 h2]
            exact k H _ (Same.refl H) (.int _)⟩
  · cases e
/-- max(xs, default=i) -/
def maxDef (i : Int) : List Int → Int
  | [] => i
  | n :: ns => maxI n ns
def maxDD : List D → Option D
  | [.lst xs, .int i] => (asIs xs).map fun ns => .int (maxDef i ns)
  | _ => none
def rMaxD (K : PySem.W.Frag) : List V → List V → Hp → VK → Prop := fun vs zs H Q => ∃ (a : Addr) (ns : List Int) (i : Int), vs = [V.ref a] ∧ zs = [V.int i] ∧ SqL K H a (ns.map V.int) ∧ Q (.int (maxDef i ns)) H
theorem alike_ints1 (xs : List Int) : PySem.W.AlikeAll (xs.map PyData.int) := by
  refine ⟨fun x hx y hy => ?_, fun x hx => ?_⟩
  · obtain ⟨i, _, rfl⟩ := List.mem_map.mp hx
    obtain ⟨j, _, rfl⟩ := List.mem_map.mp hy
    rfl
  · obtain ⟨i, _, rfl⟩ := List.mem_map.mp hx
    exact nofun
theorem dpAll_ints {K : PySem.W.Frag} {H : Hp} : ∀ ns : List Int, DpAll K H (ns.map V.int) (ns.map PyData.int)
  | [] => .nil
  | n :: ns => .cons (.int n) (dpAll_ints ns)
theorem depth_ints1 : ∀ ns : List Int, PyData.depthAll (ns.map PyData.int) = 0
  | [] => by simp [PyData.depthAll]
  | n :: ns => by simp [PyData.depthAll, PyData.depth, depth_ints1 ns]
theorem crk_maxD {k : Nat} (hr : DL.Room k X.A) : CallRK X (.builtin "max") [Str.ofString "default"] (rMaxD X.K) := by
  intro pins s σ H xs zs us ws Q I r rz ⟨a, ns, i, e1, e2, h, q⟩
  subst e1 e2
  rw [Vals.ref1 r]
  obtain ⟨u, rfl, ru⟩ := vals1 rz
  obtain ⟨t, rfl⟩ := ru
  obtain ⟨its, rv, hl, _⟩ := I.list h
  obtain ⟨as, rd⟩ := Dp.readsAll I (ns.map PyData.int) _ its (dpAll_ints ns) rv
  have hun := hr.r.un
  refine PySem.W.max_list_default hr.r.hd hl.isList rd (alike_ints1 ns) (by rw [depth_ints1]; omega) ?_ ?_
  · intro e0 h' tk kp
    have : ns = [] := by simpa using e0
    subst this
    exact ⟨.int i, H, I.kept kp, ⟨_, rfl⟩, q⟩
  · intro y ys j v h' tk bs e0 _ rd2 kp
    cases ns with
    | nil => cases e0
    | cons n ns =>
      cases e0
      rw [PySem.W.maxD_ints] at rd2
      cases rd2
      exact ⟨.int _, H, I.kept kp, ⟨_, rfl⟩, q⟩
def eMaxD (i : Int) (f : Ex) : Ex := fun ρ S => (f ρ S).bind fun d S => ans S (maxDD [view S d, .int i])
theorem ev_maxD {k : Nat} {e : Expr} {fe : Ex} {i : Int} {p pos kpos : Pos} {ne : Expr} (hr : DL.Room k X.A) (hg : Gl X "max") (hm : X.mg "max" = none) (he : EV X W e fe) (hd : EV X W ne (eC (.int i))) (hv : bootBuiltins "max" = some (.builtin "max") := by decide +kernel)
    (hs : starEach [e] X.env = (false, eval e X.env) :: starEach [] X.env := by rfl)
    (h1 : backTo pos (starEach (e :: []) X.env) = (false, eval e X.env) :: backTo pos (starEach [] X.env) := by rfl) (h2 : (backTo pos (starEach (e :: []) X.env)).any (·.1) = false := by rfl)
    (h3 : (backToKw pos (keywordEach [⟨some "default", ne, kpos⟩] X.env)).all (·.1.isSome) = true := by rfl) (h4 : (backToKw pos (keywordEach [⟨some "default", ne, kpos⟩] X.env)).any (·.1.isNone) = false := by rfl) (h5 : (backToKw pos (keywordEach [⟨some "default", ne, kpos⟩] X.env)).filterMap (·.1) = [Str.ofString "default"] := by rfl) :
    EV X W (.Call (.Name "max" p) [e] [⟨some "default", ne, kpos⟩] pos) (eMaxD i fe) := by
  refine pe_imp (pe_callBK (crk_maxD hr) hg hm hv (pa_cons he pa_nil hs) (pk_cons hd pk_nil) (by decide) (by decide) h1 h2 h3 h4 h5) fun σ H Q h => ?_
  obtain ⟨B, m, ρ, S, r, re, f⟩ := up_one (g := fun x ρ S => ans S (maxDD [view S x, .int i])) h
  refine ⟨B, m, ρ, S, r, re, f.mono fun v H1 => ?_⟩
  rintro ⟨B, m, ρ, S, dx, r, re, rx, f⟩
  refine ⟨B, m, ρ, S, r, re, fun m2 H2 w po rw' => ?_⟩
  cases rw'
  have rx2 := rx.kp (po.kp r)
  have vx := vw po.rl rx2
  generalize view S dx = dv at f vx
  cases dv with
  | lst xs =>
    cases e1 : asIs xs with
    | none => simp [maxDD, e1] at f; exact f.elim
    | some ns =>
      have e2 : maxDD [.lst xs, .int i] = some (.int (maxDef i ns)) := by simp [maxDD, e1]
      rw [e2] at f
      obtain ⟨a, us, rfl, h, z, q⟩ := vx.asL
      have := asIs_eq e1
      subst this
      have := repA_isI q
      subst this
      exact ⟨a, ns, i, rfl, rfl, SqL.of h, f m2 H2 _ po (.int _)⟩
  | _ => exact f.elim
end
/-! ### defs with defaults -/
def fnD (dd : List D) (F : Fn) : Fn := fun ds S => F (ds ++ dd) S
def OkFD (P : Program) (w : World) (K : PySem.W.Frag) (mg : Str → Option Value) (base : Heap) (x : Str) (ps : List Str) (n k : Nat) (dvs : List V) (F : Fn) : Prop :=
  ∃ fd ds, DL.FnOk P w K mg base (L2.CX P w) k (He.ga K x) fd ps (spD K mg ps.length F) ∧ Vals dvs ds ∧ Binds K fd ps ds ∧ mg x = some (.ref (He.ga K x)) ∧ PySem.W.keepIn K (.ref (He.ga K x)) = true ∧ n + dvs.length = ps.length
section
variable {P : Program} {w : World} {K : PySem.W.Frag} {mg : Str → Option Value} {base : Heap} {x name qual : Str} {params : Arguments} {body : List Stmt} {scope : Scope} {N ps : List Str} {k n : Nat} {b : Sx} {F : Fn} {kws : List (Str × V)}
/-- keyword-only defaults, none of them given -/
theorem okFD_kw {G : Fn} (h : ∃ fd, FunD K name qual params body scope [] kws (He.fAd K (x, none)) fd) (hm : mg x = some (.ref (He.ga K x))) (sc : FnScope N ps scope) (hk : kws ≠ []) (hn : n + kws.length = ps.length)
    (hbind : ∀ (D : Addr) (doc pm : Value) (an : Option Addr) (cdv ct : Value) (us ks : List Value), us.length = n → ks.length = kws.length →
      KwChain D ((kws.map (·.1)).zip ks) (bindArgs (PySem.W.fnOf name qual params body scope .none (.ref D) doc pm an cdv ct) ⟨us, []⟩) (ps.zip (us ++ ks)))
    (hb : BodyOk P w K mg base x qual body scope N k b) (imp : ∀ vs H Q E, spD K mg ps.length G vs H Q E → spD K mg ps.length (fnB N.length b) vs H Q E) : OkFD P w K mg base x ps n (k + 1) (kws.map (·.2)) G := by
  obtain ⟨fd, g⟩ := h
  obtain ⟨ds, rd, bi⟩ := g.binds0 n hk hn hbind
  exact ⟨fd, ds, (fn_denD g sc hb).imp imp, rd, bi, hm, g.kp, by rw [List.length_map]; exact hn⟩
end
section
variable {X : Cx} {W : WX} {x : Str} {ps : List Str} {k j n : Nat} {F : Fn} {p pos : Pos} {e : Expr} {es : List Expr} {fs : List Ex} {dvs : List V} {dd : List D}
theorem evL_len : ∀ (fs : List Ex) (ρ : Ev) (S S' : Sto) (ds : List D), evL fs ρ S = .ok ds S' → ds.length = fs.length
  | [], ρ, S, S', ds, e => by unfold evL at e; cases e; rfl
  | f :: fs, ρ, S, S', ds, e => by
    unfold evL at e
    cases e1 : f ρ S with
    | bad => rw [e1] at e; cases e
    | exc c p S1 => rw [e1] at e; cases e
    | ok d S1 =>
      rw [e1] at e
      simp only [R.bind] at e
      cases e2 : evL fs ρ S1 with
      | bad => rw [e2] at e; cases e
      | exc c p S1 => rw [e2] at e; cases e
      | ok ds2 S2 =>
        rw [e2] at e
        cases e
        simp [evL_len fs ρ S1 _ ds2 e2]
theorem ev_fnD (O : OkFD X.prog X.w X.K X.mg X.base x ps n k dvs F) (hd : ∀ H Fb m, RepA X.K H Fb m dvs dd) (hr : DL.Room j X.A) (hg : Gl X x) (tk : Takes X W) (ha : EVA X W (e :: es) fs) (hj : k ≤ j := by omega) (hn : fs.length = n := by rfl) (hdb : (x == ("__debug__" : Str)) = false := by decide) (he : starEach (e :: es) X.env = (false, eval e X.env) :: starEach es X.env := by rfl) (hpl : (backTo pos (starEach es X.env)).any (·.1) = false := by rfl) :
    EV X W (.Call (.Name x p) (e :: es) [] pos) (eFn (fnD dd F) fs) := by
  obtain ⟨fd, ds0, FO, rd, bi, hm, hk, hl⟩ := O
  refine pe_imp (pe_callG (p := p) FO (hr.mono hj) hg hm hk bi rd (fun σ => passAt tk σ) ha hdb he hpl) fun σ H Q h => ?_
  obtain ⟨B, m, ρ, S, r, re, g⟩ := h
  refine ⟨B, m, ρ, S, r, re, ?_⟩
  have g' : fin X.K X.mg W B m S σ H ((evL fs ρ S).bind fun ds S => F (ds ++ dd) S) Q := g
  cases e1 : evL fs ρ S with
  | bad => rw [e1] at g'; exact g'.elim
  | exc c p S1 => rw [e1] at g'; exact g'
  | ok ds S1 =>
    rw [e1] at g'
    intro m1 H1 vs po q
    have h2 := (hd H1 (Fo B m1 S1) m1).length
    exact ⟨B, m1, S1, ds ++ dd, po.rl, q.append (hd _ _ _), by rw [List.length_append, q.length, evL_len _ _ _ _ _ e1, hn, hl], fin_call (fin.later po g')⟩
end
end DL

/-! ## DLv -/
set_option Elab.async false
set_option linter.all false
set_option maxRecDepth 100000
set_option maxHeartbeats 4000000
namespace DL
open PySem PySem.Spec PyProof.Rows L2
/-! ### weakest preconditions of denotations -/
abbrev Px := Str → D → Sto → Prop
abbrev Xs := Str → D → Ev → Sto → Prop
abbrev noX : Px := fun _ _ _ => False
def Wp0 {α : Type} (r : R α) (Q : α → Sto → Prop) (E : Px) : Prop := match r with
  | .ok a S => Q a S
  | .exc c p S => E c p S
  | .bad => False
def Ws0 (r : RS) (Q : Fl → Sto → Prop) (E : Str → D → Ev → Sto → Prop) : Prop := match r with
  | .fl f S => Q f S
  | .exc c p ρ S => E c p ρ S
  | .bad => False
structure Wp {α : Type} (r : R α) (Q : α → Sto → Prop) (E : Px) : Prop where
  out : Wp0 r Q E
structure Ws (r : RS) (Q : Fl → Sto → Prop) (E : Str → D → Ev → Sto → Prop) : Prop where
  out : Ws0 r Q E
section
variable {α β : Type} {Q : α → Sto → Prop} {E : Px} {ρ : Ev} {S S1 : Sto}
theorem Wp.mono {r : R α} {Q' : α → Sto → Prop} (h : Wp r Q E) (k : ∀ a S, Q a S → Q' a S) : Wp r Q' E := by
  cases r with
  | ok a S => exact ⟨k _ _ h.out⟩
  | exc c p S => first | exact h | exact ⟨h⟩ | exact (h).out | exact ⟨(h).out⟩
  | bad => first | exact h | exact ⟨h⟩ | exact (h).out | exact ⟨(h).out⟩
theorem Wp.of {r : R α} {a : α} (h : r = .ok a S) (q : Q a S) : Wp r Q E := by rw [h]; first | exact q | exact ⟨q⟩ | exact (q).out | exact ⟨(q).out⟩
theorem Wp.ok {r : R α} (h : Wp r Q noX) : ∃ a S, r = .ok a S ∧ Q a S := by
  cases r with
  | ok a S => exact ⟨a, S, rfl, h.out⟩
  | exc c p S => exact h.out.elim
  | bad => exact h.out.elim
theorem Ws.mono {r : RS} {Q Q' : Fl → Sto → Prop} {E : Str → D → Ev → Sto → Prop} (h : Ws r Q E) (k : ∀ a S, Q a S → Q' a S) : Ws r Q' E := by
  cases r with
  | fl a S => exact ⟨k _ _ h.out⟩
  | exc c p ρ S => first | exact h | exact ⟨h⟩ | exact (h).out | exact ⟨(h).out⟩
  | bad => first | exact h | exact ⟨h⟩ | exact (h).out | exact ⟨(h).out⟩
theorem Ws.of {r : RS} {f : Fl} {Q : Fl → Sto → Prop} {E : Str → D → Ev → Sto → Prop} (h : r = .fl f S) (q : Q f S) : Ws r Q E := by rw [h]; first | exact q | exact ⟨q⟩ | exact (q).out | exact ⟨(q).out⟩
theorem wp_bind {r : R α} {g : α → Sto → R β} {Q : β → Sto → Prop} (h : Wp r (fun a S => Wp (g a S) Q E) E) : Wp (r.bind g) Q E := by
  cases r with
  | ok a S => first | exact h | exact ⟨h⟩ | exact (h).out | exact ⟨(h).out⟩
  | exc c p S => first | exact h | exact ⟨h⟩ | exact (h).out | exact ⟨(h).out⟩
  | bad => first | exact h | exact ⟨h⟩ | exact (h).out | exact ⟨(h).out⟩
theorem ws_bind {r : R α} {g : α → Sto → RS} {Q : Fl → Sto → Prop} {E : Str → D → Ev → Sto → Prop} (h : Wp r (fun a S => Ws (g a S) Q E) (fun c p S => E c p ρ S)) : Ws (r.bindS ρ g) Q E := by
  cases r with
  | ok a S => first | exact h | exact ⟨h⟩ | exact (h).out | exact ⟨(h).out⟩
  | exc c p S => first | exact h | exact ⟨h⟩ | exact (h).out | exact ⟨(h).out⟩
  | bad => first | exact h | exact ⟨h⟩ | exact (h).out | exact ⟨(h).out⟩
end
/-- an operation's answer -/
def Wo0 (o : Option D) (Q : D → Prop) : Prop := match o with
  | some d => Q d
  | none => False
structure Wo (o : Option D) (Q : D → Prop) : Prop where
  out : Wo0 o Q
theorem Wo.of {o : Option D} {d : D} {Q : D → Prop} (h : o = some d) (q : Q d) : Wo o Q := by rw [h]; exact ⟨q⟩
section
variable {Q : D → Sto → Prop} {E : Px} {ρ : Ev} {S : Sto} {a b c : Ex} {i : Nat} {d : D}
theorem wp_ans {o : Option D} (h : Wo o fun z => Q z S) : Wp (ans S o) Q E := by
  cases o with
  | some d => first | exact h | exact ⟨h⟩ | exact (h).out | exact ⟨(h).out⟩
  | none => exact h.out.elim
theorem wp_c (q : Q d S) : Wp (eC d ρ S) Q E := ⟨q⟩
theorem wp_var (h : ρ[i]? = some (some d)) (q : Q d S) : Wp (eVar i ρ S) Q E := by
  unfold eVar
  rw [h]
  first | exact q | exact ⟨q⟩ | exact (q).out | exact ⟨(q).out⟩
theorem wp_op2 {g : D → D → Option D} (h : Wp (a ρ S) (fun x S1 => Wp (b ρ S1) (fun y S2 => Wo (g (view S2 x) (view S2 y)) fun z => Q z S2) E) E) : Wp (eOp2 g a b ρ S) Q E :=
  wp_bind (h.mono fun _ _ h => wp_bind (h.mono fun _ _ h => wp_ans h))
theorem wp_op1 {g : D → Option D} (h : Wp (a ρ S) (fun x S1 => Wo (g (view S1 x)) fun z => Q z S1) E) : Wp (eOp1 g a ρ S) Q E := wp_bind (h.mono fun _ _ h => wp_ans h)
theorem wp_nil {Q : List D → Sto → Prop} (q : Q [] S) : Wp (evL [] ρ S) Q E := ⟨q⟩
theorem wp_cons {f : Ex} {fs : List Ex} {Q : List D → Sto → Prop} (h : Wp (f ρ S) (fun d S1 => Wp (evL fs ρ S1) (fun ds S2 => Q (d :: ds) S2) E) E) : Wp (evL (f :: fs) ρ S) Q E :=
  wp_bind (h.mono fun _ _ h => wp_bind (h.mono fun _ _ h => ⟨h⟩))
theorem wp_fn {F : Fn} {fs : List Ex} (h : Wp (evL fs ρ S) (fun ds S1 => Wp (F ds S1) Q E) E) : Wp (eFn F fs ρ S) Q E := wp_bind h
theorem wp_call {g : List D → Option D} {fs : List Ex} (h : Wp (evL fs ρ S) (fun ds S1 => Wo (g (ds.map (view S1))) fun z => Q z S1) E) : Wp (eCall g fs ρ S) Q E := wp_bind (h.mono fun _ _ h => wp_ans h)
theorem wp_tup {fs : List Ex} (h : Wp (evL fs ρ S) (fun ds S1 => ds.length ≤ 16777216 ∧ Q (.tup ds) S1) E) : Wp (eTup fs ρ S) Q E :=
  wp_bind (h.mono fun ds S1 h => by
    have h1 : ds.length ≤ sizeLine := by rw [sizeLine_eq]; exact h.1
    show Wp (if ds.length ≤ sizeLine then _ else _) Q E
    rw [if_pos h1]
    first | exact h.2 | exact ⟨h.2⟩ | exact (h.2).out | exact ⟨(h.2).out⟩)
theorem wp_lst {fs : List Ex} (h : Wp (evL fs ρ S) (fun ds S1 => ds.length ≤ 16777216 ∧ Q (.lst ds) S1) E) : Wp (eLst fs ρ S) Q E :=
  wp_bind (h.mono fun ds S1 h => by
    have h1 : ds.length ≤ sizeLine := by rw [sizeLine_eq]; exact h.1
    show Wp (if ds.length ≤ sizeLine then _ else _) Q E
    rw [if_pos h1]
    first | exact h.2 | exact ⟨h.2⟩ | exact (h.2).out | exact ⟨(h.2).out⟩)
theorem wp_lstM {fs : List Ex} (h : Wp (evL fs ρ S) (fun ds S1 => ds.length ≤ 16777216 ∧ Q (.ref S1.length) (S1 ++ [some (.lst ds)])) E) : Wp (eLstM fs ρ S) Q E :=
  wp_bind (h.mono fun ds S1 h => by
    have h1 : ds.length ≤ sizeLine := by rw [sizeLine_eq]; exact h.1
    show Wp (if ds.length ≤ sizeLine then _ else _) Q E
    rw [if_pos h1]
    first | exact h.2 | exact ⟨h.2⟩ | exact (h.2).out | exact ⟨(h.2).out⟩)
theorem wp_listM {g : List D → Option D} {fs : List Ex} (h : Wp (evL fs ρ S) (fun ds S1 => ∃ xs, g (ds.map (view S1)) = some (.lst xs) ∧ Q (.ref S1.length) (S1 ++ [some (.lst xs)])) E) : Wp (eListM g fs ρ S) Q E :=
  wp_bind (h.mono fun ds S1 ⟨xs, h1, h⟩ => by
    rw [h1]
    first | exact h | exact ⟨h⟩ | exact (h).out | exact ⟨(h).out⟩)
theorem wp_sl0 (h : Wp (a ρ S) (fun d S1 => Wo (slD (view S1 d) none none) fun z => Q z S1) E) : Wp (eSl a none none ρ S) Q E :=
  wp_bind (h.mono fun _ _ h => wp_ans h)
theorem wp_sl1 (h : Wp (a ρ S) (fun d S1 => Wp (b ρ S1) (fun x S2 => ∃ i, x = .int i ∧ Wo (slD (view S2 d) (some i) none) fun z => Q z S2) E) E) : Wp (eSl a (some b) none ρ S) Q E :=
  wp_bind (h.mono fun _ _ h => wp_bind (r := ePart (some b) ρ _) (wp_bind (h.mono fun _ _ h => by
    obtain ⟨i, rfl, h⟩ := h
    exact ⟨(show Wp (R.bind (.ok none _) fun u S => ans S _) Q E from wp_bind ⟨wp_ans h⟩)⟩)))
theorem wp_sl2 (h : Wp (a ρ S) (fun d S1 => Wp (b ρ S1) (fun x S2 => ∃ i, x = .int i ∧ Wo (slD (view S2 d) none (some i)) fun z => Q z S2) E) E) : Wp (eSl a none (some b) ρ S) Q E :=
  wp_bind (h.mono fun d S1 h => wp_bind (r := .ok none S1) ⟨wp_bind (r := ePart (some b) ρ S1) (wp_bind (h.mono fun _ _ h => by
    obtain ⟨i, rfl, h⟩ := h
    exact ⟨wp_ans h⟩))⟩)
theorem wp_sl3 (h : Wp (a ρ S) (fun d S1 => Wp (b ρ S1) (fun x S2 => ∃ i, x = .int i ∧ Wp (c ρ S2) (fun y S3 => ∃ j, y = .int j ∧ Wo (slD (view S3 d) (some i) (some j)) fun z => Q z S3) E) E) E) : Wp (eSl a (some b) (some c) ρ S) Q E :=
  wp_bind (h.mono fun _ _ h => wp_bind (r := ePart (some b) ρ _) (wp_bind (h.mono fun _ _ h => by
    obtain ⟨i, rfl, h⟩ := h
    exact ⟨wp_bind (r := ePart (some c) ρ _) (wp_bind (h.mono fun _ _ h => by
      obtain ⟨j, rfl, h⟩ := h
      exact ⟨wp_ans h⟩))⟩)))
theorem wp_tval {Q : Bool → Sto → Prop} (h : Wp (a ρ S) (fun d S1 => ∃ b, d = .bl b ∧ Q b S1) E) : Wp (tVal a ρ S) Q E :=
  wp_bind (h.mono fun _ _ ⟨b, e, h⟩ => by subst e; first | exact h | exact ⟨h⟩ | exact (h).out | exact ⟨(h).out⟩)
theorem wp_tnot {t : Tx} {Q : Bool → Sto → Prop} (h : Wp (t ρ S) (fun b S1 => Q (!b) S1) E) : Wp (tNotX t ρ S) Q E := wp_bind (h.mono fun _ _ h => ⟨h⟩)
theorem wp_tand {t u : Tx} {Q : Bool → Sto → Prop} (h : Wp (t ρ S) (fun b S1 => (b = true → Wp (u ρ S1) Q E) ∧ (b = false → Q false S1)) E) : Wp (tAndX t u ρ S) Q E := wp_bind (h.mono fun b S1 h => by
  cases b with
  | true => rw [if_pos rfl]; exact h.1 rfl
  | false => rw [if_neg (by decide)]; first | exact h.2 rfl | exact ⟨h.2 rfl⟩ | exact (h.2 rfl).out | exact ⟨(h.2 rfl).out⟩)
theorem wp_tor {t u : Tx} {Q : Bool → Sto → Prop} (h : Wp (t ρ S) (fun b S1 => (b = true → Q true S1) ∧ (b = false → Wp (u ρ S1) Q E)) E) : Wp (tOrX t u ρ S) Q E := wp_bind (h.mono fun b S1 h => by
  cases b with
  | true => rw [if_pos rfl]; first | exact h.1 rfl | exact ⟨h.1 rfl⟩ | exact (h.1 rfl).out | exact ⟨(h.1 rfl).out⟩
  | false => rw [if_neg (by decide)]; exact h.2 rfl)
theorem wp_tyes {Q : Bool → Sto → Prop} (q : Q true S) : Wp (tYesX ρ S) Q E := ⟨q⟩
theorem wp_and (h : Wp (a ρ S) (fun x S1 => ∃ k, x = .bl k ∧ (k = true → Wp (b ρ S1) Q E) ∧ (k = false → Q (.bl false) S1)) E) : Wp (eAndX a b ρ S) Q E := wp_bind (h.mono fun x S1 ⟨k, e, h⟩ => by
  subst e
  cases k with
  | true => exact h.1 rfl
  | false => first | exact h.2 rfl | exact ⟨h.2 rfl⟩ | exact (h.2 rfl).out | exact ⟨(h.2 rfl).out⟩)
theorem wp_or (h : Wp (a ρ S) (fun x S1 => ∃ k, x = .bl k ∧ (k = true → Q (.bl true) S1) ∧ (k = false → Wp (b ρ S1) Q E)) E) : Wp (eOrX a b ρ S) Q E := wp_bind (h.mono fun x S1 ⟨k, e, h⟩ => by
  subst e
  cases k with
  | true => first | exact h.1 rfl | exact ⟨h.1 rfl⟩ | exact (h.1 rfl).out | exact ⟨(h.1 rfl).out⟩
  | false => exact h.2 rfl)
theorem wp_not (h : Wp (a ρ S) (fun x S1 => ∃ k, x = .bl k ∧ Q (.bl (!k)) S1) E) : Wp (eNotX a ρ S) Q E := wp_bind (h.mono fun x S1 ⟨k, e, h⟩ => by subst e; first | exact h | exact ⟨h⟩ | exact (h).out | exact ⟨(h).out⟩)
theorem wp_ifx {t : Tx} (h : Wp (t ρ S) (fun k S1 => (k = true → Wp (a ρ S1) Q E) ∧ (k = false → Wp (b ρ S1) Q E)) E) : Wp (eIfX t a b ρ S) Q E := wp_bind (h.mono fun k S1 h => by
  cases k with
  | true => rw [if_pos rfl]; exact h.1 rfl
  | false => rw [if_neg (by decide)]; exact h.2 rfl)
theorem wp_chain {g g' : D → D → Option D} (h : Wp (a ρ S) (fun x S1 => Wp (b ρ S1) (fun y S2 => Wo (g (view S2 x) (view S2 y)) fun z => ∃ k, z = .bl k ∧ (k = true → Wp (c ρ S2) (fun z S3 => Wo (g' (view S3 y) (view S3 z)) fun w => Q w S3) E) ∧ (k = false → Q (.bl false) S2)) E) E) : Wp (eChain g g' a b c ρ S) Q E :=
  wp_bind (h.mono fun x S1 h => wp_bind (h.mono fun y S2 h => by
    cases e : g (view S2 x) (view S2 y) with
    | none => rw [e] at h; exact h.out.elim
    | some z =>
      rw [e] at h
      obtain ⟨k, rfl, h⟩ := h
      dsimp only
      cases k with
      | true => rw [if_pos rfl]; exact wp_bind ((h.1 rfl).mono fun _ _ h => wp_ans h)
      | false => rw [if_neg (by decide)]; first | exact h.2 rfl | exact ⟨h.2 rfl⟩ | exact (h.2 rfl).out | exact ⟨(h.2 rfl).out⟩))
/-- a method that changes a live list -/
theorem wp_meth {g : List D → List D → Option (List D × D)} {fs : List Ex} (h : Wp (a ρ S) (fun d S1 => ∃ n, d = .ref n ∧ (lstOf S1 d).isSome = true ∧ Wp (evL fs ρ S1) (fun ds S2 => ∃ xs ys z, S2[n]? = some (some (.lst xs)) ∧ g xs ds = some (ys, z) ∧ Q z (S2.set n (some (.lst ys)))) E) E) : Wp (eMeth g a fs ρ S) Q E :=
  wp_bind (h.mono fun d S1 ⟨n, e, h1, h⟩ => by
    subst e
    rw [if_pos h1]
    refine wp_bind (h.mono fun ds S2 ⟨xs, ys, z, h2, h3, q⟩ => ?_)
    unfold doMut
    rw [lst_at h2]
    dsimp only
    rw [h3]
    first | exact q | exact ⟨q⟩ | exact (q).out | exact ⟨(q).out⟩)
theorem wp_meth0 {g : List D → List D → Option (List D × D)} (h : Wp (a ρ S) (fun d S1 => ∃ n xs ys z, d = .ref n ∧ S1[n]? = some (some (.lst xs)) ∧ g xs [] = some (ys, z) ∧ Q z (S1.set n (some (.lst ys)))) E) : Wp (eMeth0 g a ρ S) Q E :=
  wp_bind (h.mono fun d S1 ⟨n, xs, ys, z, e, h2, h3, q⟩ => by
    subst e
    unfold doMut
    rw [lst_at h2]
    dsimp only
    rw [h3]
    first | exact q | exact ⟨q⟩ | exact (q).out | exact ⟨(q).out⟩)
end
/-! ### defs -/
def fnQ (Q : D → Sto → Prop) : Fl → Sto → Prop
  | .nx _, S => Q .non S
  | .rt d, S => Q d S
  | _, _ => False
theorem wp_fnB {n : Nat} {b : Sx} {ds : List D} {ρ : Ev} {S : Sto} {Q : D → Sto → Prop} {E : Px} (he : ds.map some ++ List.replicate (n - ds.length) none = ρ) (h : Ws (b ρ S) (fnQ Q) (fun c p _ S => E c p S)) : Wp (fnB n b ds S) Q E := by
  unfold fnB
  rw [he]
  cases e : b ρ S with
  | bad => rw [e] at h; exact h.out.elim
  | exc c p ρ' S' => rw [e] at h; first | exact h | exact ⟨h⟩ | exact (h).out | exact ⟨(h).out⟩
  | fl f S' =>
    rw [e] at h
    cases f with
    | nx ρ' => first | exact h | exact ⟨h⟩ | exact (h).out | exact ⟨(h).out⟩
    | rt d => first | exact h | exact ⟨h⟩ | exact (h).out | exact ⟨(h).out⟩
    | bk ρ' => exact h.out.elim
    | ct ρ' => exact h.out.elim
/-- a def told plain data: its answer is plain, the store stays -/
theorem wp_fnP {F : Fn} {ds : List D} {S : Sto} {Q : D → Sto → Prop} {E : Px} (h0 : noRefs ds = true) (h : Wp (F ds []) (fun d _ => noRef d = true ∧ Q d S) (fun c p _ => noRef p = true ∧ E c p S)) : Wp (fnP F ds S) Q E := by
  unfold fnP
  rw [if_pos h0]
  cases e : F ds [] with
  | bad => rw [e] at h; exact h.out.elim
  | exc c p S' =>
    rw [e] at h
    dsimp only
    rw [if_pos h.out.1]
    exact ⟨h.out.2⟩
  | ok d S' =>
    rw [e] at h
    dsimp only
    rw [if_pos h.out.1]
    exact ⟨h.out.2⟩
theorem wp_fnW {F : Fn} {ds ds' : List D} {S : Sto} {Q : D → Sto → Prop} {E : Px} (h1 : frzDs S ds = ds') (h0 : noRefs ds' = true) (h : Wp (F ds' []) (fun d _ => flat d = true ∧ Q d S) noX) : Wp (fnW F ds S) Q E := by
  unfold fnW
  rw [h1, if_pos h0]
  obtain ⟨d, S', e, h2, h3⟩ := h.ok
  rw [e]
  dsimp only
  rw [if_pos h2]
  first | exact h3 | exact ⟨h3⟩ | exact (h3).out | exact ⟨(h3).out⟩
theorem wp_fnV {F : Fn} {ds ds' : List D} {S : Sto} {Q : D → Sto → Prop} {E : Px} (h1 : ds.map (frz S) = ds') (h0 : noRefs ds' = true) (h : Wp (F ds' []) (fun d _ => flat d = true ∧ Q d S) noX) : Wp (fnV F ds S) Q E := by
  unfold fnV
  rw [h1, if_pos h0]
  obtain ⟨d, S', e, h2, h3⟩ := h.ok
  rw [e]
  dsimp only
  rw [if_pos h2]
  first | exact h3 | exact ⟨h3⟩ | exact (h3).out | exact ⟨(h3).out⟩
/-! ### statements -/
def thenQ (b : Sx) (Q : Fl → Sto → Prop) (E : Str → D → Ev → Sto → Prop) : Fl → Sto → Prop
  | .nx ρ, S => Ws (b ρ S) Q E
  | f, S => Q f S
section
variable {Q : Fl → Sto → Prop} {E : Str → D → Ev → Sto → Prop} {ρ : Ev} {S : Sto} {a b : Sx} {e : Ex}
theorem ws_seq (h : Ws (a ρ S) (thenQ b Q E) E) : Ws (sSeq a b ρ S) Q E := by
  unfold sSeq
  cases e : a ρ S with
  | bad => rw [e] at h; exact h.out.elim
  | exc c p ρ' S' => rw [e] at h; first | exact h | exact ⟨h⟩ | exact (h).out | exact ⟨(h).out⟩
  | fl f S' =>
    rw [e] at h
    cases f <;> first | exact h | exact ⟨h⟩ | exact (h).out | exact ⟨(h).out⟩
theorem ws_then (h : Ws (b ρ S) Q E) : thenQ b Q E (.nx ρ) S := h
theorem ws_thenR {d : D} (h : Q (.rt d) S) : thenQ b Q E (.rt d) S := h
theorem ws_thenB (h : Q (.bk ρ) S) : thenQ b Q E (.bk ρ) S := h
theorem ws_thenC (h : Q (.ct ρ) S) : thenQ b Q E (.ct ρ) S := h
theorem ws_skip (q : Q (.nx ρ) S) : Ws (sSkip ρ S) Q E := ⟨q⟩
theorem ws_ret (h : Wp (e ρ S) (fun d S1 => Q (.rt d) S1) (fun c p S => E c p ρ S)) : Ws (sRet e ρ S) Q E := ws_bind (h.mono fun _ _ h => ⟨h⟩)
theorem ws_retN (q : Q (.rt .non) S) : Ws (sRetN ρ S) Q E := ⟨q⟩
theorem ws_expr (h : Wp (e ρ S) (fun d S1 => Q (.nx ρ) S1) (fun c p S => E c p ρ S)) : Ws (sExpr e ρ S) Q E := ws_bind (h.mono fun _ _ h => ⟨h⟩)
theorem ws_asg {i : Nat} (h : Wp (e ρ S) (fun d S1 => Q (.nx (ρ.set i (some d))) S1) (fun c p S => E c p ρ S)) : Ws (sAsg i e ρ S) Q E := ws_bind (h.mono fun _ _ h => ⟨h⟩)
theorem ws_brk (q : Q (.bk ρ) S) : Ws (sBrk ρ S) Q E := ⟨q⟩
theorem ws_cont (q : Q (.ct ρ) S) : Ws (sCont ρ S) Q E := ⟨q⟩
theorem ws_if {t : Tx} (h : Wp (t ρ S) (fun k S1 => (k = true → Ws (a ρ S1) Q E) ∧ (k = false → Ws (b ρ S1) Q E)) (fun c p S => E c p ρ S)) : Ws (sIf t a b ρ S) Q E := ws_bind (h.mono fun k S1 h => by
  cases k with
  | true => rw [if_pos rfl]; exact h.1 rfl
  | false => rw [if_neg (by decide)]; exact h.2 rfl)
theorem ws_asgT {t : Tg} (h : Wp (e ρ S) (fun d S1 => ∃ ρ', t.put d ρ = some ρ' ∧ Q (.nx ρ') S1) (fun c p S => E c p ρ S)) : Ws (sAsgT t e ρ S) Q E := ws_bind (h.mono fun d S1 ⟨ρ', h1, h⟩ => by
  rw [h1]
  first | exact h | exact ⟨h⟩ | exact (h).out | exact ⟨(h).out⟩)
theorem ws_aug {i : Nat} {g : D → D → Option D} {d : D} (h0 : ρ[i]? = some (some d)) (h : Wp (e ρ S) (fun y S1 => Wo (g (view S1 d) (view S1 y)) fun z => Q (.nx (ρ.set i (some z))) S1) (fun c p S => E c p ρ S)) : Ws (sAug i g e ρ S) Q E := by
  unfold sAug
  rw [h0]
  refine ws_bind (h.mono fun y S1 h => ?_)
  cases e : g (view S1 d) (view S1 y) with
  | none => rw [e] at h; exact h.out.elim
  | some z => rw [e] at h; first | exact h | exact ⟨h⟩ | exact (h).out | exact ⟨(h).out⟩
theorem ws_setIx {o i : Ex} (h : Wp (e ρ S) (fun z S1 => Wp (o ρ S1) (fun d S2 => Wp (i ρ S2) (fun k S3 => ∃ n xs j p, d = .ref n ∧ k = .int j ∧ S3[n]? = some (some (.lst xs)) ∧ ixN xs.length j = some p ∧ Q (.nx ρ) (S3.set n (some (.lst (xs.set p z))))) (fun c p S => E c p ρ S)) (fun c p S => E c p ρ S)) (fun c p S => E c p ρ S)) : Ws (sSetIx o i e ρ S) Q E :=
  ws_bind (h.mono fun z S1 h => ws_bind (h.mono fun d S2 h => ws_bind (h.mono fun k S3 ⟨n, xs, j, p, e1, e2, h1, h2, q⟩ => by
    subst e1 e2
    rw [lst_at h1]
    dsimp only
    rw [h2]
    exact ⟨q⟩)))
theorem ws_frz {i n : Nat} {s : Sx} {xs : List D} (h0 : ρ[i]? = some (some (.ref n))) (h1 : S[n]? = some (some (.lst xs))) (h : Ws (s (ρ.set i (some (.lst xs))) (S.set n none)) Q E) : Ws (sFrz i s ρ S) Q E := by
  unfold sFrz
  simp only [h0, h1]
  exact h
/-! ### loops: A the slots that the loop writes -/
def putAll : List Nat → List (Option D) → Ev → Ev
  | i :: is, v :: vs, ρ => putAll is vs (ρ.set i v)
  | _, _, ρ => ρ
/-- the loop's body's ends: on to the next turn, out by a break (X), out by a return -/
def loopQ (A : List Nat) (ρ : Ev) (N X : List (Option D) → Sto → Prop) (Q : Fl → Sto → Prop) : Fl → Sto → Prop
  | .nx ρ', S => ∃ vs, vs.length = A.length ∧ ρ' = putAll A vs ρ ∧ N vs S
  | .ct ρ', S => ∃ vs, vs.length = A.length ∧ ρ' = putAll A vs ρ ∧ N vs S
  | .bk ρ', S => ∃ vs, vs.length = A.length ∧ ρ' = putAll A vs ρ ∧ X vs S
  | .rt d, S => Q (.rt d) S
theorem ws_loop {t : Tg} (A : List Nat) (I : Nat → List (Option D) → Sto → Prop) : ∀ (xs : List D) (k : Nat) (vs : List (Option D)) (S : Sto), vs.length = A.length → I k vs S →
    (∀ j d vs S, xs[j]? = some d → vs.length = A.length → I (k + j) vs S → ∃ ρ1, t.put d (putAll A vs ρ) = some ρ1 ∧ Ws (b ρ1 S) (loopQ A ρ (I (k + j + 1)) (fun vs S => Q (.nx (putAll A vs ρ)) S) Q) E) →
    (∀ vs S, vs.length = A.length → I (k + xs.length) vs S → Q (.nx (putAll A vs ρ)) S) → Ws (loopS t b xs (putAll A vs ρ) S) Q E
  | [], k, vs, S, hv, h, _, hq => ⟨hq vs S hv h⟩
  | d :: ds, k, vs, S, hv, h, st, hq => by
    obtain ⟨ρ1, e1, h1⟩ := st 0 d vs S rfl hv h
    unfold loopS
    simp only [e1]
    have next : ∀ vs S, vs.length = A.length → I (k + 1) vs S → Ws (loopS t b ds (putAll A vs ρ) S) Q E := fun vs S hv h =>
      ws_loop A I ds (k + 1) vs S hv h (fun j d vs S hj hv hI => by
        have := st (j + 1) d vs S (by simpa using hj) hv (by rw [show k + (j + 1) = k + 1 + j by omega]; exact hI)
        rw [show k + (j + 1) + 1 = k + 1 + j + 1 by omega] at this
        exact this) (fun vs S hv hI => hq vs S hv (by rw [List.length_cons, show k + (ds.length + 1) = k + 1 + ds.length by omega]; exact hI))
    cases e : b ρ1 S with
    | bad => rw [e] at h1; exact h1.out.elim
    | exc c p ρ' S' => rw [e] at h1; first | exact h1 | exact ⟨h1⟩ | exact (h1).out | exact ⟨(h1).out⟩
    | fl f S' =>
      rw [e] at h1
      cases f with
      | nx ρ' => obtain ⟨vs', hv', rfl, h2⟩ := h1; exact next vs' S' hv' h2
      | ct ρ' => obtain ⟨vs', hv', rfl, h2⟩ := h1; exact next vs' S' hv' h2
      | bk ρ' => obtain ⟨vs', hv', rfl, h2⟩ := h1; first | exact h2 | exact ⟨h2⟩ | exact (h2).out | exact ⟨(h2).out⟩
      | rt d => first | exact h1 | exact ⟨h1⟩ | exact (h1).out | exact ⟨(h1).out⟩
/-- a for: I turn values store -/
theorem ws_for {it : Ix} {t : Tg} (A : List Nat) (h : Wp (it ρ S) (fun xs S1 => ∃ (I : Nat → List (Option D) → Sto → Prop) (vs : List (Option D)), vs.length = A.length ∧ putAll A vs ρ = ρ ∧ I 0 vs S1 ∧
    (∀ j d vs S, xs[j]? = some d → vs.length = A.length → I j vs S → ∃ ρ1, t.put d (putAll A vs ρ) = some ρ1 ∧ Ws (b ρ1 S) (loopQ A ρ (I (j + 1)) (fun vs S => Q (.nx (putAll A vs ρ)) S) Q) E) ∧
    (∀ vs S, vs.length = A.length → I xs.length vs S → Q (.nx (putAll A vs ρ)) S)) (fun c p S => E c p ρ S)) : Ws (sFor it t b ρ S) Q E := by
  refine ws_bind (h.mono fun xs S1 ⟨I, vs, hv, hp, hi, st, hq⟩ => ?_)
  have := ws_loop (ρ := ρ) (b := b) (t := t) (Q := Q) (E := E) A I xs 0 vs S1 hv hi (fun j d vs S hj hv hI => by
    rw [Nat.zero_add] at hI ⊢
    exact st j d vs S hj hv hI) (fun vs S hv hI => hq vs S hv (by rw [Nat.zero_add] at hI; exact hI))
  rw [hp] at this
  exact this
/-- a while: m the measure -/
theorem ws_whileN {t : Tx} (A : List Nat) (I : Nat → List (Option D) → Sto → Prop) : ∀ (n k : Nat) (vs : List (Option D)) (S : Sto), k < n → vs.length = A.length → I k vs S →
    (∀ k vs S, vs.length = A.length → I k vs S → Wp (t (putAll A vs ρ) S) (fun c S1 => (c = true → Ws (b (putAll A vs ρ) S1) (loopQ A ρ (fun vs S => ∃ k', k' < k ∧ I k' vs S) (fun vs S => Q (.nx (putAll A vs ρ)) S) Q) E) ∧ (c = false → Q (.nx (putAll A vs ρ)) S1)) (fun c p S => E c p (putAll A vs ρ) S)) → Ws (whileS n t b (putAll A vs ρ) S) Q E
  | 0, k, vs, S, hk, _, _, _ => by omega
  | n + 1, k, vs, S, hk, hv, h, st => by
    unfold whileS
    refine ws_bind ((st k vs S hv h).mono fun c S1 h1 => ?_)
    cases c with
    | false => rw [if_neg (by decide)]; first | exact h1.2 rfl | exact ⟨h1.2 rfl⟩ | exact (h1.2 rfl).out | exact ⟨(h1.2 rfl).out⟩
    | true =>
      rw [if_pos rfl]
      have h2 := h1.1 rfl
      cases e : b (putAll A vs ρ) S1 with
      | bad => rw [e] at h2; exact h2.out.elim
      | exc c p ρ' S' => rw [e] at h2; first | exact h2 | exact ⟨h2⟩ | exact (h2).out | exact ⟨(h2).out⟩
      | fl f S' =>
        rw [e] at h2
        cases f with
        | nx ρ' => obtain ⟨vs', hv', rfl, k', hk', h3⟩ := h2; exact ws_whileN A I n k' vs' S' (by omega) hv' h3 st
        | ct ρ' => obtain ⟨vs', hv', rfl, k', hk', h3⟩ := h2; exact ws_whileN A I n k' vs' S' (by omega) hv' h3 st
        | bk ρ' => obtain ⟨vs', hv', rfl, h3⟩ := h2; first | exact h3 | exact ⟨h3⟩ | exact (h3).out | exact ⟨(h3).out⟩
        | rt d => first | exact h2 | exact ⟨h2⟩ | exact (h2).out | exact ⟨(h2).out⟩
theorem ws_while {n : Nat} {t : Tx} (A : List Nat) (I : Nat → List (Option D) → Sto → Prop) (k : Nat) (vs : List (Option D)) (hk : k < n) (hv : vs.length = A.length) (hp : putAll A vs ρ = ρ) (hi : I k vs S)
    (st : ∀ k vs S, vs.length = A.length → I k vs S → Wp (t (putAll A vs ρ) S) (fun c S1 => (c = true → Ws (b (putAll A vs ρ) S1) (loopQ A ρ (fun vs S => ∃ k', k' < k ∧ I k' vs S) (fun vs S => Q (.nx (putAll A vs ρ)) S) Q) E) ∧ (c = false → Q (.nx (putAll A vs ρ)) S1)) (fun c p S => E c p (putAll A vs ρ) S)) : Ws (whileS n t b ρ S) Q E := by
  have := ws_whileN (ρ := ρ) (b := b) (Q := Q) (E := E) A I n k vs S hk hv hi st
  rw [hp] at this
  exact this
end
/-! ### a loop turn by turn -/
def unQ (t : Tg) (b : Sx) (ds : List D) (Q : Fl → Sto → Prop) (E : Xs) : Fl → Sto → Prop
  | .nx ρ, S => Ws (loopS t b ds ρ S) Q E
  | .ct ρ, S => Ws (loopS t b ds ρ S) Q E
  | .bk ρ, S => Q (.nx ρ) S
  | .rt d, S => Q (.rt d) S
section
variable {t : Tg} {b : Sx} {ds : List D} {d : D} {Q : Fl → Sto → Prop} {E : Xs} {ρ ρ1 : Ev} {S : Sto} {it : Ix}
theorem ws_forU (h : Wp (it ρ S) (fun xs S1 => Ws (loopS t b xs ρ S1) Q E) (fun c p S => E c p ρ S)) : Ws (sFor it t b ρ S) Q E := ws_bind h
theorem ws_loopN (q : Q (.nx ρ) S) : Ws (loopS t b [] ρ S) Q E := ⟨q⟩
theorem ws_loopC (h : t.put d ρ = some ρ1) (h1 : Ws (b ρ1 S) (unQ t b ds Q E) E) : Ws (loopS t b (d :: ds) ρ S) Q E := by
  unfold loopS
  simp only [h]
  cases e : b ρ1 S with
  | bad => rw [e] at h1; exact h1.out.elim
  | exc c p ρ' S' => rw [e] at h1; first | exact h1 | exact ⟨h1⟩ | exact (h1).out | exact ⟨(h1).out⟩
  | fl f S' =>
    rw [e] at h1
    cases f <;> first | exact h1 | exact ⟨h1⟩ | exact (h1).out | exact ⟨(h1).out⟩
theorem un_nx (h : Ws (loopS t b ds ρ S) Q E) : unQ t b ds Q E (.nx ρ) S := h
theorem un_ct (h : Ws (loopS t b ds ρ S) Q E) : unQ t b ds Q E (.ct ρ) S := h
theorem un_bk (h : Q (.nx ρ) S) : unQ t b ds Q E (.bk ρ) S := h
theorem un_rt (h : Q (.rt d) S) : unQ t b ds Q E (.rt d) S := h
end
/-! ### what is gone through -/
def dkl : D → Option (List D)
  | .lst xs => some xs
  | .dic false kvs => some (kvs.map (·.1))
  | _ => none
section
variable {Q : List D → Sto → Prop} {E : Px} {ρ : Ev} {S : Sto} {a b : Ex}
theorem wi_seq (h : Wp (a ρ S) (fun d S1 => ∃ xs, (d = .tup xs ∨ dkl d = some xs) ∧ Q xs S1) E) : Wp (iSeq a ρ S) Q E := wp_bind (h.mono fun d S1 ⟨xs, e, q⟩ => by
  rcases e with rfl | e
  · exact ⟨q⟩
  · cases d with
    | lst ys => cases e; exact ⟨q⟩
    | dic t kvs => cases t with
      | false => cases e; exact ⟨q⟩
      | true => cases e
    | _ => cases e)
theorem wi_rng1 (h : Wp (a ρ S) (fun d S1 => ∃ j, d = .int j ∧ (-1000000000000 ≤ j ∧ j ≤ 1000000000000) ∧ Q (iRng 0 j) S1) E) : Wp (iRng1X a ρ S) Q E := wp_bind (h.mono fun d S1 ⟨j, e, h1, q⟩ => by
  subst e
  dsimp only
  rw [if_pos ⟨by omega, by omega⟩]
  first | exact q | exact ⟨q⟩ | exact (q).out | exact ⟨(q).out⟩)
theorem wi_rng2 (h : Wp (a ρ S) (fun d S1 => Wp (b ρ S1) (fun d2 S2 => ∃ i j, d = .int i ∧ d2 = .int j ∧ (-1000000000000 ≤ i ∧ i ≤ 1000000000000) ∧ (-1000000000000 ≤ j ∧ j ≤ 1000000000000) ∧ Q (iRng i j) S2) E) E) : Wp (iRng2X a b ρ S) Q E :=
  wp_bind (h.mono fun d S1 h => wp_bind (h.mono fun d2 S2 ⟨i, j, e1, e2, h1, h2, q⟩ => by
    subst e1 e2
    dsimp only
    rw [if_pos ⟨by omega, by omega, by omega, by omega⟩]
    first | exact q | exact ⟨q⟩ | exact (q).out | exact ⟨(q).out⟩))
theorem wi_zip2 (h : Wp (a ρ S) (fun x S1 => Wp (b ρ S1) (fun y S2 => ∃ xs ys, ((x = .lst xs ∧ y = .lst ys) ∨ (x = .tup xs ∧ y = .tup ys)) ∧ Q (zipDs xs ys) S2) E) E) : Wp (iZip2 a b ρ S) Q E :=
  wp_bind (h.mono fun d S1 h => wp_bind (h.mono fun d2 S2 ⟨xs, ys, e, q⟩ => by rcases e with ⟨rfl, rfl⟩ | ⟨rfl, rfl⟩ <;> first | exact q | exact ⟨q⟩ | exact (q).out | exact ⟨(q).out⟩))
theorem wi_zipS (h : Wp (a ρ S) (fun x S1 => Wp (b ρ S1) (fun y S2 => ∃ xs ys, (x = .lst xs ∨ x = .tup xs) ∧ (y = .lst ys ∨ y = .tup ys) ∧ xs.length = ys.length ∧ Q (zipDs xs ys) S2) E) E) : Wp (iZipS a b ρ S) Q E :=
  wp_bind (h.mono fun d S1 h => wp_bind (h.mono fun d2 S2 ⟨xs, ys, e1, e2, hl, q⟩ => by
    rcases e1 with rfl | rfl <;> rcases e2 with rfl | rfl <;> simp only [asSq] <;> rw [if_pos hl] <;> first | exact q | exact ⟨q⟩ | exact (q).out | exact ⟨(q).out⟩))
end
/-! ### comprehensions -/
section
variable {Q : D → Sto → Prop} {E : Px} {ρ : Ev} {S : Sto} {t : Tg} {tt : Tx} {e : Ex} {vs : List Nat} {it : Ix}
theorem wp_nox {α : Type} {r : R α} {Q : α → Sto → Prop} (h : Wp r Q noX) : Wp r.nox Q E := by
  obtain ⟨a, S, e, h⟩ := h.ok
  rw [e]
  first | exact h | exact ⟨h⟩ | exact (h).out | exact ⟨(h).out⟩
/-- what a comprehension gathers: I turn gathered store -/
theorem wp_compL (I : Nat → List D → Sto → Prop) : ∀ (xs : List D) (k : Nat) (acc : List D) (S : Sto) (Q : List D → Sto → Prop), I k acc S →
    (∀ j d acc S, xs[j]? = some d → I (k + j) acc S → ∃ ρ1, t.put d (wipeD ρ vs) = some ρ1 ∧ Wp (tt ρ1 S) (fun b S1 => (b = true → Wp (e ρ1 S1) (fun y S2 => acc.length < 16777216 ∧ I (k + j + 1) (acc ++ [y]) S2) noX) ∧ (b = false → I (k + j + 1) acc S1)) noX) →
    (∀ acc S, I (k + xs.length) acc S → Q acc S) → Wp (compL t tt e vs xs ρ S acc) Q E
  | [], k, acc, S, Q, h, _, hq => ⟨hq acc S h⟩
  | d :: ds, k, acc, S, Q, h, st, hq => by
    obtain ⟨ρ1, e1, h1⟩ := st 0 d acc S rfl h
    unfold compL
    rw [e1]
    dsimp only
    have next : ∀ acc S, I (k + 1) acc S → Wp (compL t tt e vs ds ρ S acc) Q E := fun acc S h =>
      wp_compL I ds (k + 1) acc S Q h (fun j d acc S hj hI => by
        have := st (j + 1) d acc S (by simpa using hj) (by rw [show k + (j + 1) = k + 1 + j by omega]; exact hI)
        rw [show k + (j + 1) + 1 = k + 1 + j + 1 by omega] at this
        exact this) (fun acc S hI => hq acc S (by rw [List.length_cons, show k + (ds.length + 1) = k + 1 + ds.length by omega]; exact hI))
    refine wp_bind (wp_nox (h1.mono fun b S1 h2 => ?_))
    cases b with
    | false => rw [if_neg (by decide)]; exact next _ _ (h2.2 rfl)
    | true =>
      rw [if_pos rfl]
      refine wp_bind (wp_nox ((h2.1 rfl).mono fun y S2 h3 => ?_))
      rw [if_pos (by rw [sizeLine_eq]; exact h3.1)]
      exact next _ _ h3.2
theorem wp_comp (h : Wp (it ρ S) (fun xs S1 => ∃ I : Nat → List D → Sto → Prop, I 0 [] S1 ∧
    (∀ j d acc S, xs[j]? = some d → I j acc S → ∃ ρ1, t.put d (wipeD ρ vs) = some ρ1 ∧ Wp (tt ρ1 S) (fun b S1 => (b = true → Wp (e ρ1 S1) (fun y S2 => acc.length < 16777216 ∧ I (j + 1) (acc ++ [y]) S2) noX) ∧ (b = false → I (j + 1) acc S1)) noX) ∧
    (∀ acc S, I xs.length acc S → Q (.lst acc) S)) E) : Wp (eComp it t tt e vs ρ S) Q E :=
  wp_bind (h.mono fun xs S1 ⟨I, h0, st, hq⟩ => wp_bind (wp_compL I xs 0 [] S1 _ h0 (fun j d acc S hj hI => by
    rw [Nat.zero_add] at hI ⊢
    exact st j d acc S hj hI) fun acc S hI => ⟨hq acc S (by rw [Nat.zero_add] at hI; exact hI)⟩))
theorem wp_compM (h : Wp (it ρ S) (fun xs S1 => ∃ I : Nat → List D → Sto → Prop, I 0 [] S1 ∧
    (∀ j d acc S, xs[j]? = some d → I j acc S → ∃ ρ1, t.put d (wipeD ρ vs) = some ρ1 ∧ Wp (tt ρ1 S) (fun b S1 => (b = true → Wp (e ρ1 S1) (fun y S2 => acc.length < 16777216 ∧ I (j + 1) (acc ++ [y]) S2) noX) ∧ (b = false → I (j + 1) acc S1)) noX) ∧
    (∀ acc S, I xs.length acc S → Q (.ref S.length) (S ++ [some (.lst acc)]))) E) : Wp (eCompM it t tt e vs ρ S) Q E :=
  wp_bind (h.mono fun xs S1 ⟨I, h0, st, hq⟩ => wp_bind (wp_compL I xs 0 [] S1 _ h0 (fun j d acc S hj hI => by
    rw [Nat.zero_add] at hI ⊢
    exact st j d acc S hj hI) fun acc S hI => ⟨hq acc S (by rw [Nat.zero_add] at hI; exact hI)⟩))
/-- of plain things, each told its own, the store stays -/
theorem wp_comp_map {α : Type} (l : List α) (f : α → D) (p : α → Bool) (g : α → D) (hl : l.length ≤ 16777216) (h : Wp (it ρ S) (fun xs S1 => xs = l.map f ∧
    (∀ x ∈ l, ∃ ρ1, t.put (f x) (wipeD ρ vs) = some ρ1 ∧ Wp (tt ρ1 S1) (fun b S2 => b = p x ∧ S2 = S1) noX ∧ (p x = true → Wp (e ρ1 S1) (fun y S2 => y = g x ∧ S2 = S1) noX)) ∧ Q (.lst ((l.filter p).map g)) S1) E) : Wp (eComp it t tt e vs ρ S) Q E := by
  refine wp_comp (h.mono fun xs S1 ⟨h1, st, q⟩ => ?_)
  subst h1
  refine ⟨fun j acc S => S = S1 ∧ acc = ((l.take j).filter p).map g, ⟨rfl, by simp⟩, ?_, ?_⟩
  · rintro j d acc S hj ⟨rfl, rfl⟩
    rw [List.getElem?_map] at hj
    obtain ⟨x, hx, rfl⟩ := Option.map_eq_some_iff.mp hj
    obtain ⟨ρ1, e1, h2, h3⟩ := st x (List.mem_of_getElem? hx)
    have hj' := (List.getElem?_eq_some_iff.mp hx).1
    have ht : l.take (j + 1) = l.take j ++ [x] := by rw [List.take_succ, hx]; rfl
    refine ⟨ρ1, e1, h2.mono fun b S2 ⟨hb, hS⟩ => ?_⟩
    subst hS
    constructor
    · intro hbt
      rw [hb] at hbt
      refine (h3 hbt).mono fun y S3 ⟨hy, hS⟩ => ?_
      subst hS hy
      refine ⟨?_, rfl, ?_⟩
      · rw [List.length_map]
        have h4 := List.length_filter_le p (l.take j)
        rw [List.length_take] at h4
        omega
      · rw [ht, List.filter_append, List.map_append]
        simp [hbt]
    · intro hbf
      rw [hb] at hbf
      refine ⟨rfl, ?_⟩
      rw [ht, List.filter_append]
      simp [hbf]
  · rintro acc S ⟨rfl, rfl⟩
    rw [List.length_map, List.take_length]
    exact q
theorem wp_compM_map {α : Type} (l : List α) (f : α → D) (p : α → Bool) (g : α → D) (hl : l.length ≤ 16777216) (h : Wp (it ρ S) (fun xs S1 => xs = l.map f ∧
    (∀ x ∈ l, ∃ ρ1, t.put (f x) (wipeD ρ vs) = some ρ1 ∧ Wp (tt ρ1 S1) (fun b S2 => b = p x ∧ S2 = S1) noX ∧ (p x = true → Wp (e ρ1 S1) (fun y S2 => y = g x ∧ S2 = S1) noX)) ∧ Q (.ref S1.length) (S1 ++ [some (.lst ((l.filter p).map g))])) E) : Wp (eCompM it t tt e vs ρ S) Q E := by
  have := wp_comp_map (Q := fun d S => match d with | .lst xs => Q (.ref S.length) (S ++ [some (.lst xs)]) | _ => False) (E := E) (ρ := ρ) (S := S) (t := t) (tt := tt) (e := e) (vs := vs) (it := it) l f p g hl h
  unfold eComp at this
  unfold eCompM
  cases hi : it ρ S with
  | bad => rw [hi] at this; first | exact this | exact ⟨this⟩ | exact (this).out | exact ⟨(this).out⟩
  | exc c p S' => rw [hi] at this; first | exact this | exact ⟨this⟩ | exact (this).out | exact ⟨(this).out⟩
  | ok xs S1 =>
    rw [hi] at this
    simp only [R.bind] at this ⊢
    cases hc : compL t tt e vs xs ρ S1 [] with
    | bad => rw [hc] at this; first | exact this | exact ⟨this⟩ | exact (this).out | exact ⟨(this).out⟩
    | exc c p S' => rw [hc] at this; first | exact this | exact ⟨this⟩ | exact (this).out | exact ⟨(this).out⟩
    | ok acc S2 => rw [hc] at this; first | exact this | exact ⟨this⟩ | exact (this).out | exact ⟨(this).out⟩
end
theorem ite_d {p : Prop} [Decidable p] {A B : Prop} (h1 : p → A) (h2 : ¬ p → B) : (decide p = true → A) ∧ (decide p = false → B) := ⟨fun h => h1 (of_decide_eq_true h), fun h => h2 (of_decide_eq_false h)⟩
theorem ite_nd {p : Prop} [Decidable p] {A B : Prop} (h1 : ¬ p → A) (h2 : p → B) : ((!decide p) = true → A) ∧ ((!decide p) = false → B) := ⟨fun h => h1 (by simpa using h), fun h => h2 (by simpa using h)⟩
theorem neD_of {a b : D} {c : Bool} (h : eqD a b = some (.bl c)) : neD a b = some (.bl (!c)) := by
  unfold eqD at h
  unfold neD
  cases e : eqB a b with
  | none => rw [e] at h; simp at h
  | some x => rw [e] at h; simp at h; simp [h]
theorem wo_id {o : Option D} {Q : D → Prop} (h : Wo o Q) : Wo o Q := h
theorem ex_id {α : Type} {p : α → Prop} (h : ∃ x, p x) : ∃ x, p x := h
theorem and_id {a b : Prop} (h : a ∧ b) : a ∧ b := h
theorem ite_f {A B : Prop} (h : B) : (false = true → A) ∧ (false = false → B) := ⟨fun h => (by cases h), fun _ => h⟩
theorem ite_t {A B : Prop} (h : A) : (true = true → A) ∧ (true = false → B) := ⟨fun _ => h, fun h => (by cases h)⟩
theorem ite_nt {A B : Prop} (h : B) : ((!true) = true → A) ∧ ((!true) = false → B) := ite_f h
theorem ite_nf {A B : Prop} (h : A) : ((!false) = true → A) ∧ ((!false) = false → B) := ite_t h
/-! ### answers of operations -/
section
variable {Q : D → Prop} {S : Sto} {i j : Int} {xs ys : List D}
theorem wo_add (q : Q (.int (i + j))) : Wo (addD (.int i) (.int j)) Q := ⟨q⟩
theorem wo_addT (h : xs.length + ys.length ≤ 16777216) (q : Q (.tup (xs ++ ys))) : Wo (addD (.tup xs) (.tup ys)) Q := .of (if_pos (by rw [sizeLine_eq]; exact h)) q
theorem wo_addL (h : xs.length + ys.length ≤ 16777216) (q : Q (.lst (xs ++ ys))) : Wo (addD (.lst xs) (.lst ys)) Q := .of (if_pos (by rw [sizeLine_eq]; exact h)) q
theorem wo_sub (q : Q (.int (i - j))) : Wo (subD (.int i) (.int j)) Q := ⟨q⟩
theorem wo_neg (q : Q (.int (-i))) : Wo (negD (.int i)) Q := ⟨q⟩
theorem wo_mulL (h : -18446744073709551616 < i ∧ i < 18446744073709551616) (q : Q (.int (i * j))) : Wo (mulD (.int i) (.int j)) Q := .of (mulD_l h.1 h.2) q
theorem wo_mulR (h : -18446744073709551616 < j ∧ j < 18446744073709551616) (q : Q (.int (i * j))) : Wo (mulD (.int i) (.int j)) Q := .of (mulD_r h.1 h.2) q
theorem wo_mulT (h : j ≤ 1000000 ∧ -1000000 ≤ j) (h2 : xs.length * j.toNat ≤ 16777216) (q : Q (.tup (List.replicate j.toNat xs).flatten)) : Wo (mulD (.tup xs) (.int j)) Q := .of (mulD_t h.1 h.2 h2) q
theorem wo_mulLs (h : j ≤ 1000000 ∧ -1000000 ≤ j) (h2 : xs.length * j.toNat ≤ 16777216) (q : Q (.lst (List.replicate j.toNat xs).flatten)) : Wo (mulD (.lst xs) (.int j)) Q := .of (if_pos ⟨h.1, h.2, by rw [sizeLine_eq]; exact h2⟩) q
theorem wo_mod (h : 0 < j) (q : Q (.int (i % j))) : Wo (modD (.int i) (.int j)) Q := .of (if_pos h) q
theorem wo_div (h : 0 < j ∧ j < 1073741824) (q : Q (.int (i / j))) : Wo (divD (.int i) (.int j)) Q := .of (if_pos h) q
theorem wo_lt (q : Q (.bl (decide (i < j)))) : Wo (ltD (.int i) (.int j)) Q := ⟨q⟩
theorem wo_le (q : Q (.bl (decide (i ≤ j)))) : Wo (leD (.int i) (.int j)) Q := ⟨q⟩
theorem wo_gt (q : Q (.bl (decide (j < i)))) : Wo (gtD (.int i) (.int j)) Q := ⟨q⟩
theorem wo_ge (q : Q (.bl (decide (j ≤ i)))) : Wo (geD (.int i) (.int j)) Q := ⟨q⟩
theorem wo_eq (q : Q (.bl (decide (i = j)))) : Wo (eqD (.int i) (.int j)) Q := .of (eqD_int i j) q
theorem wo_ne (q : Q (.bl (!decide (i = j)))) : Wo (neD (.int i) (.int j)) Q := .of (neD_int i j) q
theorem wo_eqB {a b : Bool} (q : Q (.bl (a == b))) : Wo (eqD (.bl a) (.bl b)) Q := .of (eqD_bl a b) q
theorem wo_neB {a b : Bool} (q : Q (.bl (!(a == b)))) : Wo (neD (.bl a) (.bl b)) Q := .of (neD_bl a b) q
theorem wo_ixT {d : D} (h : L2.atI xs i = some d) (q : Q d) : Wo (ixD (.tup xs) (.int i)) Q := .of h q
theorem wo_ixL {d : D} (h : L2.atI xs i = some d) (q : Q d) : Wo (ixD (.lst xs) (.int i)) Q := .of h q
theorem wo_slT {a b : Option Int} (q : Q (.tup (cutD xs a b))) : Wo (slD (.tup xs) a b) Q := ⟨q⟩
theorem wo_slL {a b : Option Int} (q : Q (.lst (cutD xs a b))) : Wo (slD (.lst xs) a b) Q := ⟨q⟩
theorem wo_lenT (q : Q (.int xs.length)) : Wo (lenD [.tup xs]) Q := ⟨q⟩
theorem wo_lenL (q : Q (.int xs.length)) : Wo (lenD [.lst xs]) Q := ⟨q⟩
theorem wo_revT (q : Q (.tup xs.reverse)) : Wo (revD (.tup xs)) Q := ⟨q⟩
theorem wo_revL (q : Q (.lst xs.reverse)) : Wo (revD (.lst xs)) Q := ⟨q⟩
theorem wo_min (q : Q (.int (if j < i then j else i))) : Wo (min2D [.int i, .int j]) Q := ⟨q⟩
theorem wo_max (q : Q (.int (if j > i then j else i))) : Wo (max2D [.int i, .int j]) Q := ⟨q⟩
theorem wo_pick {zs : List Int} (hx : xs = zs.map D.int) (h : 0 ≤ i ∧ i < zs.length) (q : ∀ z ∈ zs, Q (.int z)) : Wo (ixD (.lst xs) (.int i)) Q := by
  subst hx
  refine .of (d := .int (zs[i.toNat]'(by omega))) ?_ (q _ (List.getElem_mem _))
  show L2.atI (zs.map D.int) i = _
  rw [atI_in h.1 (by rw [List.length_map]; omega), List.getElem_map]
theorem wo_tupL (q : Q (.tup xs)) : Wo (tupleD [.lst xs]) Q := ⟨q⟩
theorem wo_tupT (q : Q (.tup xs)) : Wo (tupleD [.tup xs]) Q := ⟨q⟩
theorem wo_lisL (q : Q (.lst xs)) : Wo (listD [.lst xs]) Q := ⟨q⟩
theorem wo_lisT (q : Q (.lst xs)) : Wo (listD [.tup xs]) Q := ⟨q⟩
end
end DL

/-! ## DLw -/
set_option Elab.async false
set_option linter.all false
set_option maxRecDepth 100000
set_option maxHeartbeats 4000000
namespace DL
open PySem PySem.Spec PyProof.Rows
/-! ### what stands in the store -/
/-- the others stand as before -/
def Only (n : Nat) (S S' : Sto) : Prop := S'.length = S.length ∧ ∀ m, m ≠ n → S'[m]? = S[m]?
theorem Only.refl {n : Nat} {S : Sto} : Only n S S := ⟨rfl, fun _ _ => rfl⟩
theorem Only.trans {n : Nat} {S S1 S2 : Sto} (h : Only n S S1) (h2 : Only n S1 S2) : Only n S S2 := ⟨h2.1.trans h.1, fun m hm => (h2.2 m hm).trans (h.2 m hm)⟩
theorem Only.set {n : Nat} {S : Sto} {o : Option Ob} : Only n S (S.set n o) := ⟨by simp, fun m hm => List.getElem?_set_ne (fun e => hm e.symm)⟩
theorem set_at {S : Sto} {n : Nat} {o o' : Option Ob} (h : S[n]? = some o) : (S.set n o')[n]? = some o' := by
  have := (List.getElem?_eq_some_iff.mp h).1
  simp [this]
/-- a store that is changed at one place: what is needed of it -/
theorem set_gen {P : Sto → Prop} {S : Sto} {n : Nat} {o : Ob} {o' : Option Ob} (h : S[n]? = some (some o)) (k : ∀ S', S'[n]? = some o' → Only n S S' → P S') : P (S.set n o') := k _ (set_at h) .set
/-- all that stood stands -/
def Ext (S S' : Sto) : Prop := S.length ≤ S'.length ∧ ∀ m, m < S.length → S'[m]? = S[m]?
theorem Ext.refl {S : Sto} : Ext S S := ⟨Nat.le_refl _, fun _ _ => rfl⟩
theorem Ext.trans {S S1 S2 : Sto} (h : Ext S S1) (h2 : Ext S1 S2) : Ext S S2 := ⟨Nat.le_trans h.1 h2.1, fun m hm => (h2.2 m (Nat.lt_of_lt_of_le hm h.1)).trans (h.2 m hm)⟩
theorem Ext.app {S : Sto} {l : List (Option Ob)} : Ext S (S ++ l) := ⟨by simp, fun m hm => List.getElem?_append_left hm⟩
theorem Ext.at_ {S S' : Sto} {n : Nat} {o : Option Ob} (h : Ext S S') (e : S[n]? = some o) : S'[n]? = some o := (h.2 n (List.getElem?_eq_some_iff.mp e).1).trans e
theorem app_at {S : Sto} {o : Option Ob} : (S ++ [o])[S.length]? = some o := by simp
/-- a change of what is new, seen from before it was -/
theorem Ext.set {S S' : Sto} {n : Nat} {o : Option Ob} (h : Ext S S') (hn : S.length ≤ n) : Ext S (S'.set n o) := ⟨by simpa using h.1, fun m hm => by rw [List.getElem?_set_ne (by omega)]; exact h.2 m hm⟩
theorem Ext.only {S S1 S2 : Sto} {n : Nat} (h : Ext S S1) (ho : Only n S1 S2) (hn : S.length ≤ n) : Ext S S2 := ⟨by rw [ho.1]; exact h.1, fun m hm => (ho.2 m (by omega)).trans (h.2 m hm)⟩
/-! ### the jar: [cells, count, rest] -/
def JarS (S : Sto) (n : Nat) (k : Int) : Prop := ∃ cells t r, Jar S n cells t r ∧ 0 ≤ t ∧ t ≤ k
theorem JarS.mono {S : Sto} {n : Nat} {k k' : Int} (h : JarS S n k) (hk : k ≤ k') : JarS S n k' := by
  obtain ⟨c, t, r, h1, h2, h3⟩ := h
  exact ⟨c, t, r, h1, h2, by omega⟩
theorem JarS.lt {S : Sto} {n : Nat} {k : Int} (h : JarS S n k) : n < S.length := by
  obtain ⟨_, _, _, h, _, _⟩ := h
  exact (List.getElem?_eq_some_iff.mp h).1
theorem JarS.ext {S S' : Sto} {n : Nat} {k : Int} (h : JarS S n k) (e : Ext S S') : JarS S' n k := by
  obtain ⟨c, t, r, h1, h2, h3⟩ := h
  exact ⟨c, t, r, e.at_ h1, h2, h3⟩
theorem JarS.only {S S' : Sto} {n m : Nat} {k : Int} (h : JarS S n k) (e : Only m S S') (hm : n ≠ m) : JarS S' n k := by
  obtain ⟨c, t, r, h1, h2, h3⟩ := h
  exact ⟨c, t, r, (e.2 n hm).trans h1, h2, h3⟩
/-! ### equality of rows -/
theorem eqv_ints : ∀ xs ys : List Int, PyData.eqvAll (xs.map PyData.int) (ys.map PyData.int) = decide (xs = ys)
  | [], [] => by simp [PyData.eqvAll]
  | [], y :: ys => by simp [PyData.eqvAll]
  | x :: xs, [] => by simp [PyData.eqvAll]
  | x :: xs, y :: ys => by
    rw [List.map_cons, List.map_cons, PyData.eqvAll, eqv_ints xs ys]
    by_cases h1 : x = y <;> by_cases h2 : xs = ys <;> simp [PyData.eqv, h1, h2]
theorem toP_ints (xs : List Int) : toPs (xs.map D.int) = some (xs.map .int) := toPs_map D.int PyData.int (fun x => rfl) xs
theorem lay_ints (xs : List Int) : PyData.canLayAll0 (xs.map PyData.int) = true := lay_map _ (fun x => by simp [PyData.canLay0]) xs
theorem dep_ints (xs : List Int) : PyData.depthAll (xs.map PyData.int) ≤ 1 := dep_map PyData.int 1 (fun x => by simp [PyData.depth]) xs
theorem eqD_tupI (xs ys : List Int) : eqD (.tup (xs.map .int)) (.tup (ys.map .int)) = some (.bl (decide (xs = ys))) := by
  have e : ∀ zs : List Int, toP (.tup (zs.map .int)) = some (.tuple (zs.map .int)) := fun zs => by simp only [toP, toP_ints zs, Option.map_some]
  have h : ∀ zs : List Int, SeqAt.shaped (.tuple (zs.map .int)) = true := fun zs => by
    have h2 := dep_ints zs
    refine Bool.and_eq_true_iff.mpr ⟨by simp only [PyData.canLay0]; exact lay_ints zs, decide_eq_true ?_⟩
    simp only [PyData.depth]
    omega
  simp only [eqD, eqB, eqS, e, h, Bool.and_self, if_true, Option.map_some]
  rw [PyData.eqv, eqv_ints]
theorem eqD_lstI (xs ys : List Int) : eqD (.lst (xs.map .int)) (.lst (ys.map .int)) = some (.bl (decide (xs = ys))) := by
  have e : ∀ zs : List Int, toP (.lst (zs.map .int)) = some (.list (zs.map .int)) := fun zs => by simp only [toP, toP_ints zs, Option.map_some]
  have h : ∀ zs : List Int, SeqAt.shaped (.list (zs.map .int)) = true := fun zs => by
    have h2 := dep_ints zs
    refine Bool.and_eq_true_iff.mpr ⟨by simp only [PyData.canLay0]; exact lay_ints zs, decide_eq_true ?_⟩
    simp only [PyData.depth]
    omega
  simp only [eqD, eqB, eqS, e, h, Bool.and_self, if_true, Option.map_some]
  rw [PyData.eqv, eqv_ints]
theorem eqD_str (a b : Str) : eqD (.str a) (.str b) = some (.bl (decide (a = b))) := by simp [eqD, eqB, eqS]
theorem neD_str (a b : Str) : neD (.str a) (.str b) = some (.bl (!decide (a = b))) := by simp [neD, eqB, eqS]
/-! ### repr of small data -/
mutual
def smD : D → Bool
  | .non => true
  | .bl _ => true
  | .int i => decide (i.natAbs < 10 ^ 50)
  | .str x => decide ((reprText x).length ≤ 14)
  | .tup xs => smDs xs
  | .lst xs => smDs xs
  | _ => false
def smDs : List D → Bool
  | [] => true
  | d :: ds => smD d && smDs ds
end
mutual
def wtD : D → Nat
  | .tup xs => 1 + wtDs xs
  | .lst xs => 1 + wtDs xs
  | _ => 1
def wtDs : List D → Nat
  | [] => 0
  | d :: ds => wtD d + wtDs ds
end
mutual
def dpD : D → Nat
  | .tup xs => 1 + dpDs xs
  | .lst xs => 1 + dpDs xs
  | _ => 0
def dpDs : List D → Nat
  | [] => 0
  | d :: ds => max (dpD d) (dpDs ds)
end
theorem log2_small {n : Nat} (h : n < 10 ^ 50) : n.log2 < 1920 := by
  by_cases h0 : n = 0
  · subst h0; decide
  · exact (Nat.log2_lt h0).mpr (Nat.lt_of_lt_of_le h (by exact Nat.le_trans (show 10 ^ 50 ≤ 2 ^ 200 by decide) (Nat.pow_le_pow_right (by decide) (by decide))))
mutual
theorem small_rep : ∀ d : D, smD d = true → ∃ p, toP d = some p ∧ p.showable = true ∧ p.depth ≤ dpD d ∧ p.shown.length + 2 ≤ 64 * wtD d
  | .non, _ => ⟨_, rfl, by simp [PyData.showable], by simp [PyData.depth, dpD], by simp only [PyData.shown, wtD]; decide⟩
  | .bl b, _ => ⟨_, rfl, by simp [PyData.showable], by simp [PyData.depth, dpD], by cases b <;> simp only [PyData.shown, wtD] <;> decide⟩
  | .int i, h => by
    have hi : i.natAbs < 10 ^ 50 := of_decide_eq_true h
    refine ⟨_, rfl, ?_, by simp [PyData.depth, dpD], ?_⟩
    · simp only [PyData.showable]
      exact decide_eq_true (log2_small hi)
    · have h3 := int_text_length_le10 (k := 50) (by decide) hi
      have h4 : (PyData.shown (.int i)).length = (toString i).length := by
        show (Str.ofString (toString i)).length = _
        rw [PySem.ofString_length]
      simp only [wtD]
      omega
  | .str x, h => by
    have hx : (reprText x).length ≤ 14 := of_decide_eq_true h
    refine ⟨_, rfl, by simp [PyData.showable], by simp [PyData.depth, dpD], ?_⟩
    simp only [PyData.shown, wtD]
    omega
  | .tup xs, h => by
    obtain ⟨ps, e, h1, h2, h3⟩ := small_reps xs h
    refine ⟨.tuple ps, by simp only [toP, e, Option.map_some], by simpa [PyData.showable] using h1, by simp only [PyData.depth, dpD]; omega, ?_⟩
    have := tupleText_len_le (PyData.shownAll ps)
    have hl := PyData.shownAll_length ps
    simp only [PyData.shown, wtD]
    omega
  | .lst xs, h => by
    obtain ⟨ps, e, h1, h2, h3⟩ := small_reps xs h
    refine ⟨.list ps, by simp only [toP, e, Option.map_some], by simpa [PyData.showable] using h1, by simp only [PyData.depth, dpD]; omega, ?_⟩
    have := listText_len_le (PyData.shownAll ps)
    have hl := PyData.shownAll_length ps
    simp only [PyData.shown, wtD]
    omega
  | .dic _ _, h => by simp [smD] at h
  | .ref _, h => by simp [smD] at h
  | .raw _, h => by simp [smD] at h
  | .scr _, h => by simp [smD] at h
theorem small_reps : ∀ ds : List D, smDs ds = true → ∃ ps, toPs ds = some ps ∧ PyData.showableAll ps = true ∧ PyData.depthAll ps ≤ dpDs ds ∧ ((PyData.shownAll ps).map (·.length)).sum + 2 * ps.length ≤ 64 * wtDs ds
  | [], _ => ⟨[], rfl, by simp [PyData.showableAll], by simp [PyData.depthAll, dpDs], by simp [PyData.shownAll, wtDs]⟩
  | d :: ds, h => by
    simp only [smDs, Bool.and_eq_true] at h
    obtain ⟨p, e1, a1, a2, a3⟩ := small_rep d h.1
    obtain ⟨ps, e2, b1, b2, b3⟩ := small_reps ds h.2
    refine ⟨p :: ps, by simp only [toPs, e1, e2], by simp [PyData.showableAll, a1, b1], by simp only [PyData.depthAll, dpDs]; omega, ?_⟩
    simp only [PyData.shownAll, List.map_cons, List.sum_cons, List.length_cons, wtDs]
    omega
end
theorem rep_small {d : D} (h : smD d = true) (hw : wtD d ≤ 200000) (hd : dpD d ≤ 40) : ∃ z, reprD d = some (.str z) := by
  obtain ⟨p, e, h1, h2, h3⟩ := small_rep d h
  refine ⟨p.shown, ?_⟩
  have hs : showsD p = true := by
    unfold showsD
    rw [h1, decide_eq_true (show p.depth ≤ 40 by omega), decide_eq_true (show p.shown.length ≤ 16000000 by omega)]
    rfl
  simp only [reprD, e, Option.bind, hs, if_true]
theorem smDs_map {α : Type} (f : α → D) : ∀ xs : List α, (∀ x ∈ xs, smD (f x) = true) → smDs (xs.map f) = true
  | [], _ => rfl
  | x :: xs, h => by simp [smDs, h x (by simp), smDs_map f xs fun y hy => h y (by simp [hy])]
theorem wtDs_map {α : Type} (f : α → D) (w : Nat) : ∀ xs : List α, (∀ x ∈ xs, wtD (f x) ≤ w) → wtDs (xs.map f) ≤ w * xs.length
  | [], _ => by simp [wtDs]
  | x :: xs, h => by
    have h1 := h x (by simp)
    have h2 := wtDs_map f w xs fun y hy => h y (by simp [hy])
    simp only [List.map_cons, wtDs, List.length_cons, Nat.mul_succ]
    omega
theorem dpDs_map {α : Type} (f : α → D) (w : Nat) : ∀ xs : List α, (∀ x ∈ xs, dpD (f x) ≤ w) → dpDs (xs.map f) ≤ w
  | [], _ => by simp [dpDs]
  | x :: xs, h => by
    have h1 := h x (by simp)
    have h2 := dpDs_map f w xs fun y hy => h y (by simp [hy])
    simp only [List.map_cons, dpDs]
    omega
/-- signs -/
def Row (xs : List Int) : Prop := ∀ x ∈ xs, 0 ≤ x ∧ x < 31
theorem sm_int {i : Int} (h : -1000000 ≤ i ∧ i ≤ 1000000) : smD (.int i) = true := decide_eq_true (by omega)
theorem sm_row {xs : List Int} (h : Row xs) : smD (.tup (xs.map .int)) = true := smDs_map D.int xs fun x hx => sm_int (by have := h x hx; omega)
theorem wt_row (xs : List Int) : wtD (.tup (xs.map .int)) ≤ 1 + xs.length := by
  have := wtDs_map D.int 1 xs fun x _ => by simp [wtD]
  simp only [wtD]
  omega
theorem dp_row (xs : List Int) : dpD (.tup (xs.map .int)) ≤ 1 := by
  have := dpDs_map D.int 0 xs fun x _ => by simp [dpD]
  simp only [dpD]
  omega
/-! ### more steps -/
/-- a join: M holds behind the first statement -/
theorem ws_mid {a b : Sx} {ρ : Ev} {S : Sto} {Q : Fl → Sto → Prop} {E : Xs} (M : Fl → Sto → Prop) (h1 : Ws (a ρ S) M E) (h2 : ∀ f S', M f S' → thenQ b Q E f S') : Ws (sSeq a b ρ S) Q E := ws_seq (h1.mono h2)
theorem ws_midT {a b : Sx} {ρ : Ev} {S : Sto} {Q : Fl → Sto → Prop} {E : Xs} (M : Fl → Sto → Prop) (h1 : Ws (a ρ S) M E) (h2 : ∀ f S', M f S' → thenQ b Q E f S') : Ws (a ρ S) (thenQ b Q E) E := h1.mono h2
section
variable {Q : D → Sto → Prop} {E : Px} {ρ : Ev} {S : Sto} {a b c : Ex}
theorem wp_repr (h : Wp (a ρ S) (fun d S1 => Wo (reprD (frzD S1 d)) fun z => Q z S1) E) : Wp (eRepr a ρ S) Q E := wp_bind (h.mono fun _ _ h => wp_ans h)
theorem wp_isi {t : PT} (h : Wp (a ρ S) (fun x S1 => Wo (Option.map D.bl (t.isOf (view S1 x))) fun z => Q z S1) E) : Wp (eIsi t a ρ S) Q E := wp_op1 h
theorem wp_isis {t : List PT} (h : Wp (a ρ S) (fun x S1 => Wo (Option.map D.bl (isOfs t (view S1 x))) fun z => Q z S1) E) : Wp (eIsis t a ρ S) Q E := wp_op1 h
theorem wp_maxD {i : Int} (h : Wp (a ρ S) (fun d S1 => Wo (maxDD [view S1 d, .int i]) fun z => Q z S1) E) : Wp (eMaxD i a ρ S) Q E := wp_bind (h.mono fun _ _ h => wp_ans h)
theorem wi_rng3 {Q : List D → Sto → Prop} (h : Wp (evL [a, b, c] ρ S) (fun ds S1 => ∃ i j k, ds = [.int i, .int j, .int k] ∧ (k ≠ 0 ∧ k.natAbs < 1073741824 ∧ Builtin.Range.small i j k = true) ∧ Q (iRng3 i j k) S1) E) : Wp (iRng3X a b c ρ S) Q E :=
  wp_bind (h.mono fun ds S1 ⟨i, j, k, e, h1, q⟩ => by
    subst e
    dsimp only
    rw [if_pos h1]
    exact ⟨q⟩)
end
section
variable {Q : D → Prop} {S : Sto} {n : Nat} {xs : List D} {y d : D}
theorem wo_vw1 {g : D → D → Option D} (h : S[n]? = some (some (.lst xs))) (q : Wo (g (view S (.lst xs)) y) Q) : Wo (g (view S (.ref n)) y) Q := by rw [view_at h]; exact q
theorem wo_vw2 {g : D → D → Option D} (h : S[n]? = some (some (.lst xs))) (q : Wo (g y (view S (.lst xs))) Q) : Wo (g y (view S (.ref n))) Q := by rw [view_at h]; exact q
theorem wo_vw0 {g : D → Option D} (h : S[n]? = some (some (.lst xs))) (q : Wo (g (view S (.lst xs))) Q) : Wo (g (view S (.ref n))) Q := by rw [view_at h]; exact q
theorem wo_eqS {a b : Str} (q : Q (.bl (decide (a = b)))) : Wo (eqD (.str a) (.str b)) Q := .of (eqD_str a b) q
theorem wo_neS {a b : Str} (q : Q (.bl (!decide (a = b)))) : Wo (neD (.str a) (.str b)) Q := .of (neD_str a b) q
end
/-! ### slices -/
def cutL {α : Type} (xs : List α) (lo hi : Option Int) : List α := (xs.drop (HT.sIx xs.length 0 lo)).take (HT.sIx xs.length xs.length hi - HT.sIx xs.length 0 lo)
theorem cut_map {α : Type} (f : α → D) (xs : List α) (lo hi : Option Int) : cutD (xs.map f) lo hi = (cutL xs lo hi).map f := by
  unfold cutD cutL
  rw [List.length_map, List.map_take, List.map_drop]
theorem cutL_mem {α : Type} {xs : List α} {lo hi : Option Int} {x : α} (h : x ∈ cutL xs lo hi) : x ∈ xs := List.mem_of_mem_drop (List.mem_of_mem_take h)
theorem cutL_len {α : Type} (xs : List α) (lo hi : Option Int) : (cutL xs lo hi).length ≤ xs.length := by
  unfold cutL
  rw [List.length_take, List.length_drop]
  omega
theorem Row.cut {xs : List Int} (h : Row xs) (lo hi : Option Int) : Row (cutL xs lo hi) := fun x hx => h x (cutL_mem hx)
theorem Row.app {xs ys : List Int} (h : Row xs) (h2 : Row ys) : Row (xs ++ ys) := fun x hx => (List.mem_append.mp hx).elim (h x) (h2 x)
/-! ### the worth of a row -/
def wz (xs : List Int) (x : Int) : Int := xs.reverse.foldl (fun w s => (w * x + s) % 31) 0
theorem wz_rng (xs : List Int) (x : Int) : 0 ≤ wz xs x ∧ wz xs x < 31 := by
  unfold wz
  suffices h : ∀ (ys : List Int) (a : Int), 0 ≤ a ∧ a < 31 → 0 ≤ ys.foldl (fun w s => (w * x + s) % 31) a ∧ ys.foldl (fun w s => (w * x + s) % 31) a < 31 from h _ 0 (by decide)
  intro ys
  induction ys with
  | nil => intro a h; exact h
  | cons y ys ih => intro a _; exact ih _ ⟨Int.emod_nonneg _ (by decide), Int.emod_lt_of_pos _ (by decide)⟩
/-! ### comprehensions that gather -/
section
variable {Q : D → Sto → Prop} {E : Px} {ρ : Ev} {S : Sto} {t : Tg} {e : Ex} {vs : List Nat} {it : Ix}
theorem wp_compG {α : Type} (f : α → D) (h : Wp (it ρ S) (fun xs S1 => ∃ I : Nat → List α → Sto → Prop, xs.length ≤ 16777216 ∧ I 0 [] S1 ∧
    (∀ j d as S, xs[j]? = some d → as.length = j → I j as S → ∃ ρ1, t.put d (wipeD ρ vs) = some ρ1 ∧ Wp (e ρ1 S) (fun y S2 => ∃ a, y = f a ∧ I (j + 1) (as ++ [a]) S2) noX) ∧
    (∀ as S, as.length = xs.length → I xs.length as S → Q (.lst (as.map f)) S)) E) : Wp (eComp it t tYesX e vs ρ S) Q E := by
  refine wp_comp (h.mono fun xs S1 ⟨I, hl, h0, st, hq⟩ => ⟨fun j acc S => ∃ as : List α, acc = as.map f ∧ as.length = j ∧ j ≤ xs.length ∧ I j as S, ⟨[], rfl, rfl, Nat.zero_le _, h0⟩, ?_, ?_⟩)
  · rintro j d acc S hj ⟨as, rfl, hal, hjl, hI⟩
    obtain ⟨ρ1, e1, h1⟩ := st j d as S hj hal hI
    have hj' := (List.getElem?_eq_some_iff.mp hj).1
    refine ⟨ρ1, e1, wp_tyes ⟨fun _ => h1.mono fun y S2 ⟨a, hy, hI2⟩ => ?_, fun z => by cases z⟩⟩
    subst hy
    exact ⟨by rw [List.length_map]; omega, as ++ [a], by simp, by simp [hal], by omega, hI2⟩
  · rintro acc S ⟨as, rfl, hal, _, hI⟩
    exact hq as S hal hI
/-- one for each of a list of things, the store stays -/
theorem wp_compM1 {α : Type} (l : List α) (f g : α → D) (hl : l.length ≤ 16777216) (h : Wp (it ρ S) (fun xs S1 => xs = l.map f ∧ (∀ x ∈ l, ∃ ρ1, t.put (f x) (wipeD ρ vs) = some ρ1 ∧ Wp (e ρ1 S1) (fun y S2 => y = g x ∧ S2 = S1) noX) ∧ Q (.lst (l.map g)) S1) E) : Wp (eComp it t tYesX e vs ρ S) Q E := by
  refine wp_comp_map l f (fun _ => true) g hl (h.mono fun xs S1 ⟨h1, h2, q⟩ => ⟨h1, fun x hx => ?_, ?_⟩)
  · obtain ⟨ρ1, e1, h3⟩ := h2 x hx
    exact ⟨ρ1, e1, wp_tyes ⟨rfl, rfl⟩, fun _ => h3⟩
  · rw [List.filter_eq_self.mpr fun _ _ => rfl]
    exact q
theorem wp_compM1M {α : Type} (l : List α) (f g : α → D) (hl : l.length ≤ 16777216) (h : Wp (it ρ S) (fun xs S1 => xs = l.map f ∧ (∀ x ∈ l, ∃ ρ1, t.put (f x) (wipeD ρ vs) = some ρ1 ∧ Wp (e ρ1 S1) (fun y S2 => y = g x ∧ S2 = S1) noX) ∧ Q (.ref S1.length) (S1 ++ [some (.lst (l.map g))])) E) : Wp (eCompM it t tYesX e vs ρ S) Q E := by
  refine wp_compM_map l f (fun _ => true) g hl (h.mono fun xs S1 ⟨h1, h2, q⟩ => ⟨h1, fun x hx => ?_, ?_⟩)
  · obtain ⟨ρ1, e1, h3⟩ := h2 x hx
    exact ⟨ρ1, e1, wp_tyes ⟨rfl, rfl⟩, fun _ => h3⟩
  · rw [List.filter_eq_self.mpr fun _ _ => rfl]
    exact q
end
theorem iRng0 (n : Nat) : iRng 0 (n : Int) = (List.range n).map fun k => .int (k : Nat) := iRng_nat n
theorem iRng_len (a b : Int) : (iRng a b).length = (b - a).toNat := by simp [iRng]
theorem iRng_at {a b : Int} {j : Nat} {d : D} (h : (iRng a b)[j]? = some d) : d = .int (a + j) ∧ a + j < b := by
  have hj := (List.getElem?_eq_some_iff.mp h).1
  rw [iRng_len] at hj
  simp only [iRng, List.getElem?_map, List.getElem?_range hj, Option.map_some, Option.some.injEq] at h
  exact ⟨h.symm, by omega⟩
theorem foldl_take {α β : Type} {f : α → β → α} {a : α} {l : List β} {j : Nat} {s : β} (h : l[j]? = some s) : (l.take (j + 1)).foldl f a = f ((l.take j).foldl f a) s := by
  rw [List.take_succ, h, List.foldl_append]
  rfl
theorem noRefs_int : ∀ xs : List Int, noRefs (xs.map .int) = true
  | [] => rfl
  | x :: xs => by simp [noRefs, noRef, noRefs_int xs]
theorem flats_int : ∀ xs : List Int, flats (xs.map .int) = true
  | [] => rfl
  | x :: xs => by simp [flats, flat, flats_int xs]
theorem rep_one (m : Nat) (z : Int) : (List.replicate m [D.int z]).flatten = (List.replicate m z).map D.int := by
  induction m with
  | zero => rfl
  | succ m ih => rw [List.replicate_succ, List.flatten_cons, ih]; rfl
theorem cutL_take {α : Type} (xs : List α) (v : Int) (h : 0 ≤ v) : cutL xs none (some v) = xs.take v.toNat := by
  have e2 : HT.sIx xs.length xs.length (some v) = min v.toNat xs.length := by
    unfold HT.sIx
    exact if_neg (by omega)
  unfold cutL
  rw [e2]
  simp only [HT.sIx, Nat.sub_zero, List.drop_zero]
  rw [Nat.min_def]
  split
  · rfl
  · rw [List.take_of_length_le (by omega), List.take_of_length_le (by omega)]
theorem Row.rep0 (m : Nat) : Row (List.replicate m 0) := fun x hx => by
  have := List.eq_of_mem_replicate hx
  omega
section
variable {Q : D → Prop} {a b c d e f g : D} {l : List D}
theorem wo_ixL0 (q : Q a) : Wo (ixD (.lst (a :: l)) (.int 0)) Q := .of (d := a) (by show L2.atI _ _ = _; unfold L2.atI L2.ixN; rw [if_pos (by decide), if_pos (by simp only [List.length_cons]; omega)]; rfl) q
theorem wo_ixL1 (q : Q b) : Wo (ixD (.lst (a :: b :: l)) (.int 1)) Q := .of (d := b) (by show L2.atI _ _ = _; unfold L2.atI L2.ixN; rw [if_pos (by decide), if_pos (by simp only [List.length_cons]; omega)]; rfl) q
theorem wo_ixL2 (q : Q c) : Wo (ixD (.lst (a :: b :: c :: l)) (.int 2)) Q := .of (d := c) (by show L2.atI _ _ = _; unfold L2.atI L2.ixN; rw [if_pos (by decide), if_pos (by simp only [List.length_cons]; omega)]; rfl) q
theorem wo_ixL3 (q : Q d) : Wo (ixD (.lst (a :: b :: c :: d :: l)) (.int 3)) Q := .of (d := d) (by show L2.atI _ _ = _; unfold L2.atI L2.ixN; rw [if_pos (by decide), if_pos (by simp only [List.length_cons]; omega)]; rfl) q
theorem wo_ixL4 (q : Q e) : Wo (ixD (.lst (a :: b :: c :: d :: e :: l)) (.int 4)) Q := .of (d := e) (by show L2.atI _ _ = _; unfold L2.atI L2.ixN; rw [if_pos (by decide), if_pos (by simp only [List.length_cons]; omega)]; rfl) q
theorem wo_ixL5 (q : Q f) : Wo (ixD (.lst (a :: b :: c :: d :: e :: f :: l)) (.int 5)) Q := .of (d := f) (by show L2.atI _ _ = _; unfold L2.atI L2.ixN; rw [if_pos (by decide), if_pos (by simp only [List.length_cons]; omega)]; rfl) q
theorem wo_ixL6 (q : Q g) : Wo (ixD (.lst (a :: b :: c :: d :: e :: f :: g :: l)) (.int 6)) Q := .of (d := g) (by show L2.atI _ _ = _; unfold L2.atI L2.ixN; rw [if_pos (by decide), if_pos (by simp only [List.length_cons]; omega)]; rfl) q
theorem wo_ixT0 (q : Q a) : Wo (ixD (.tup (a :: l)) (.int 0)) Q := .of (d := a) (by show L2.atI _ _ = _; unfold L2.atI L2.ixN; rw [if_pos (by decide), if_pos (by simp only [List.length_cons]; omega)]; rfl) q
theorem wo_ixT1 (q : Q b) : Wo (ixD (.tup (a :: b :: l)) (.int 1)) Q := .of (d := b) (by show L2.atI _ _ = _; unfold L2.atI L2.ixN; rw [if_pos (by decide), if_pos (by simp only [List.length_cons]; omega)]; rfl) q
theorem wo_ixT2 (q : Q c) : Wo (ixD (.tup (a :: b :: c :: l)) (.int 2)) Q := .of (d := c) (by show L2.atI _ _ = _; unfold L2.atI L2.ixN; rw [if_pos (by decide), if_pos (by simp only [List.length_cons]; omega)]; rfl) q
theorem wo_ixT3 (q : Q d) : Wo (ixD (.tup (a :: b :: c :: d :: l)) (.int 3)) Q := .of (d := d) (by show L2.atI _ _ = _; unfold L2.atI L2.ixN; rw [if_pos (by decide), if_pos (by simp only [List.length_cons]; omega)]; rfl) q
theorem wo_ixT4 (q : Q e) : Wo (ixD (.tup (a :: b :: c :: d :: e :: l)) (.int 4)) Q := .of (d := e) (by show L2.atI _ _ = _; unfold L2.atI L2.ixN; rw [if_pos (by decide), if_pos (by simp only [List.length_cons]; omega)]; rfl) q
theorem wo_ixT5 (q : Q f) : Wo (ixD (.tup (a :: b :: c :: d :: e :: f :: l)) (.int 5)) Q := .of (d := f) (by show L2.atI _ _ = _; unfold L2.atI L2.ixN; rw [if_pos (by decide), if_pos (by simp only [List.length_cons]; omega)]; rfl) q
theorem wo_ixT6 (q : Q g) : Wo (ixD (.tup (a :: b :: c :: d :: e :: f :: g :: l)) (.int 6)) Q := .of (d := g) (by show L2.atI _ _ = _; unfold L2.atI L2.ixN; rw [if_pos (by decide), if_pos (by simp only [List.length_cons]; omega)]; rfl) q
end
/-! ### the same, as they come: views of what is told -/
section
variable {Q : D → Prop} {S : Sto} {i j : Int} {xs ys : List D} {a b : Bool} {x y : Str} {d : D}
theorem vo_add (q : Q (.int (i + j))) : Wo (addD (view S (.int i)) (view S (.int j))) Q := wo_add q
theorem vo_sub (q : Q (.int (i - j))) : Wo (subD (view S (.int i)) (view S (.int j))) Q := wo_sub q
theorem vo_mod (h : 0 < j) (q : Q (.int (i % j))) : Wo (modD (view S (.int i)) (view S (.int j))) Q := wo_mod h q
theorem vo_div (h : 0 < j ∧ j < 1073741824) (q : Q (.int (i / j))) : Wo (divD (view S (.int i)) (view S (.int j))) Q := wo_div h q
theorem vo_mulR (h : -18446744073709551616 < j ∧ j < 18446744073709551616) (q : Q (.int (i * j))) : Wo (mulD (view S (.int i)) (view S (.int j))) Q := wo_mulR h q
theorem vo_mulL (h : -18446744073709551616 < i ∧ i < 18446744073709551616) (q : Q (.int (i * j))) : Wo (mulD (view S (.int i)) (view S (.int j))) Q := wo_mulL h q
theorem vo_lt (q : Q (.bl (decide (i < j)))) : Wo (ltD (view S (.int i)) (view S (.int j))) Q := wo_lt q
theorem vo_le (q : Q (.bl (decide (i ≤ j)))) : Wo (leD (view S (.int i)) (view S (.int j))) Q := wo_le q
theorem vo_gt (q : Q (.bl (decide (j < i)))) : Wo (gtD (view S (.int i)) (view S (.int j))) Q := wo_gt q
theorem vo_ge (q : Q (.bl (decide (j ≤ i)))) : Wo (geD (view S (.int i)) (view S (.int j))) Q := wo_ge q
theorem vo_eq (q : Q (.bl (decide (i = j)))) : Wo (eqD (view S (.int i)) (view S (.int j))) Q := wo_eq q
theorem vo_ne (q : Q (.bl (!decide (i = j)))) : Wo (neD (view S (.int i)) (view S (.int j))) Q := wo_ne q
theorem vo_eqB (q : Q (.bl (a == b))) : Wo (eqD (view S (.bl a)) (view S (.bl b))) Q := wo_eqB q
theorem vo_neB (q : Q (.bl (!(a == b)))) : Wo (neD (view S (.bl a)) (view S (.bl b))) Q := wo_neB q
theorem vo_eqS (q : Q (.bl (decide (x = y)))) : Wo (eqD (view S (.str x)) (view S (.str y))) Q := wo_eqS q
theorem vo_neS (q : Q (.bl (!decide (x = y)))) : Wo (neD (view S (.str x)) (view S (.str y))) Q := wo_neS q
theorem vo_neg (q : Q (.int (-i))) : Wo (negD (view S (.int i))) Q := wo_neg q
theorem vo_addT (h : xs.length + ys.length ≤ 16777216) (q : Q (.tup (xs ++ ys))) : Wo (addD (view S (.tup xs)) (view S (.tup ys))) Q := wo_addT h q
theorem vo_addL (h : xs.length + ys.length ≤ 16777216) (q : Q (.lst (xs ++ ys))) : Wo (addD (view S (.lst xs)) (view S (.lst ys))) Q := wo_addL h q
theorem vo_slT {l h : Option Int} (q : Q (.tup (cutD xs l h))) : Wo (slD (view S (.tup xs)) l h) Q := wo_slT q
theorem vo_slL {l h : Option Int} (q : Q (.lst (cutD xs l h))) : Wo (slD (view S (.lst xs)) l h) Q := wo_slL q
theorem vo_slS {ns : List Int} {l h : Option Int} (q : Q (.lst (cutD (ns.map .int) l h))) : Wo (slD (view S (.scr ns)) l h) Q := ⟨q⟩
theorem vo_lenT (q : Q (.int xs.length)) : Wo (lenD (List.map (view S) [.tup xs])) Q := wo_lenT q
theorem vo_lenL (q : Q (.int xs.length)) : Wo (lenD (List.map (view S) [.lst xs])) Q := wo_lenL q
theorem vo_tupL (q : Q (.tup xs)) : Wo (tupleD (List.map (view S) [.lst xs])) Q := wo_tupL q
theorem vo_tupT (q : Q (.tup xs)) : Wo (tupleD (List.map (view S) [.tup xs])) Q := wo_tupT q
theorem vo_lisL (q : Q (.lst xs)) : Wo (listD (List.map (view S) [.lst xs])) Q := wo_lisL q
theorem vo_lisT (q : Q (.lst xs)) : Wo (listD (List.map (view S) [.tup xs])) Q := wo_lisT q
theorem vo_lenS {ns : List Int} (q : Q (.int ns.length)) : Wo (lenD (List.map (view S) [.scr ns])) Q := ⟨q⟩
theorem vo_revT (q : Q (.tup xs.reverse)) : Wo (revD (view S (.tup xs))) Q := wo_revT q
theorem vo_revL (q : Q (.lst xs.reverse)) : Wo (revD (view S (.lst xs))) Q := wo_revL q
theorem vo_min (q : Q (.int (if j < i then j else i))) : Wo (min2D (List.map (view S) [.int i, .int j])) Q := wo_min q
theorem vo_max (q : Q (.int (if j > i then j else i))) : Wo (max2D (List.map (view S) [.int i, .int j])) Q := wo_max q
theorem vo_vwc {g : List D → Option D} {n : Nat} (h : S[n]? = some (some (.lst xs))) (q : Wo (g (List.map (view S) [.lst xs])) Q) : Wo (g (List.map (view S) [.ref n])) Q := by
  have e : List.map (view S) [.ref n] = List.map (view S) [.lst xs] := by simp only [List.map_cons, List.map_nil, view_at h]; rfl
  rw [e]; exact q
theorem vo_isi {t : PT} {z : D} {c : Bool} (h : t.isOf (view S z) = some c) (q : Q (.bl c)) : Wo (Option.map D.bl (t.isOf (view S z))) Q := by rw [h]; exact ⟨q⟩
theorem vo_isis {t : List PT} {z : D} {c : Bool} (h : isOfs t (view S z) = some c) (q : Q (.bl c)) : Wo (Option.map D.bl (isOfs t (view S z))) Q := by rw [h]; exact ⟨q⟩
variable {a0 a1 a2 a3 a4 a5 a6 : D} {l : List D}
theorem vo_ixL0 (q : Q a0) : Wo (ixD (view S (.lst (a0 :: l))) (view S (.int 0))) Q := wo_ixL0 q
theorem vo_ixL1 (q : Q a1) : Wo (ixD (view S (.lst (a0 :: a1 :: l))) (view S (.int 1))) Q := wo_ixL1 q
theorem vo_ixL2 (q : Q a2) : Wo (ixD (view S (.lst (a0 :: a1 :: a2 :: l))) (view S (.int 2))) Q := wo_ixL2 q
theorem vo_ixL3 (q : Q a3) : Wo (ixD (view S (.lst (a0 :: a1 :: a2 :: a3 :: l))) (view S (.int 3))) Q := wo_ixL3 q
theorem vo_ixL4 (q : Q a4) : Wo (ixD (view S (.lst (a0 :: a1 :: a2 :: a3 :: a4 :: l))) (view S (.int 4))) Q := wo_ixL4 q
theorem vo_ixL5 (q : Q a5) : Wo (ixD (view S (.lst (a0 :: a1 :: a2 :: a3 :: a4 :: a5 :: l))) (view S (.int 5))) Q := wo_ixL5 q
theorem vo_ixL6 (q : Q a6) : Wo (ixD (view S (.lst (a0 :: a1 :: a2 :: a3 :: a4 :: a5 :: a6 :: l))) (view S (.int 6))) Q := wo_ixL6 q
theorem vo_ixT0 (q : Q a0) : Wo (ixD (view S (.tup (a0 :: l))) (view S (.int 0))) Q := wo_ixT0 q
theorem vo_ixT1 (q : Q a1) : Wo (ixD (view S (.tup (a0 :: a1 :: l))) (view S (.int 1))) Q := wo_ixT1 q
theorem vo_ixT2 (q : Q a2) : Wo (ixD (view S (.tup (a0 :: a1 :: a2 :: l))) (view S (.int 2))) Q := wo_ixT2 q
theorem vo_ixT3 (q : Q a3) : Wo (ixD (view S (.tup (a0 :: a1 :: a2 :: a3 :: l))) (view S (.int 3))) Q := wo_ixT3 q
theorem vo_ixT4 (q : Q a4) : Wo (ixD (view S (.tup (a0 :: a1 :: a2 :: a3 :: a4 :: l))) (view S (.int 4))) Q := wo_ixT4 q
theorem vo_ixT5 (q : Q a5) : Wo (ixD (view S (.tup (a0 :: a1 :: a2 :: a3 :: a4 :: a5 :: l))) (view S (.int 5))) Q := wo_ixT5 q
theorem vo_ixT6 (q : Q a6) : Wo (ixD (view S (.tup (a0 :: a1 :: a2 :: a3 :: a4 :: a5 :: a6 :: l))) (view S (.int 6))) Q := wo_ixT6 q
end
theorem gApp {xs : List D} {d : D} (h : xs.length < 16777216) : gAppend xs [d] = some (xs ++ [d], .non) := if_pos (by rw [sizeLine_eq]; exact h)
theorem set_last {S : Sto} {x y : Option Ob} : (S ++ [x]).set S.length y = S ++ [y] := by simp [List.set_append]
theorem lst_some {S : Sto} {n : Nat} {xs : List D} (h : S[n]? = some (some (.lst xs))) : (lstOf S (.ref n)).isSome = true := by rw [lst_at h]; rfl
theorem len1 {α : Type} {l : List α} (h : l.length = 1) : ∃ a0, l = [a0] := match l, h with | [a0], _ => ⟨a0, rfl⟩
theorem len2 {α : Type} {l : List α} (h : l.length = 2) : ∃ a0 a1, l = [a0, a1] := match l, h with | [a0, a1], _ => ⟨a0, a1, rfl⟩
theorem len3 {α : Type} {l : List α} (h : l.length = 3) : ∃ a0 a1 a2, l = [a0, a1, a2] := match l, h with | [a0, a1, a2], _ => ⟨a0, a1, a2, rfl⟩
theorem len4 {α : Type} {l : List α} (h : l.length = 4) : ∃ a0 a1 a2 a3, l = [a0, a1, a2, a3] := match l, h with | [a0, a1, a2, a3], _ => ⟨a0, a1, a2, a3, rfl⟩
theorem len5 {α : Type} {l : List α} (h : l.length = 5) : ∃ a0 a1 a2 a3 a4, l = [a0, a1, a2, a3, a4] := match l, h with | [a0, a1, a2, a3, a4], _ => ⟨a0, a1, a2, a3, a4, rfl⟩
theorem len6 {α : Type} {l : List α} (h : l.length = 6) : ∃ a0 a1 a2 a3 a4 a5, l = [a0, a1, a2, a3, a4, a5] := match l, h with | [a0, a1, a2, a3, a4, a5], _ => ⟨a0, a1, a2, a3, a4, a5, rfl⟩
theorem len7 {α : Type} {l : List α} (h : l.length = 7) : ∃ a0 a1 a2 a3 a4 a5 a6, l = [a0, a1, a2, a3, a4, a5, a6] := match l, h with | [a0, a1, a2, a3, a4, a5, a6], _ => ⟨a0, a1, a2, a3, a4, a5, a6, rfl⟩
theorem len8 {α : Type} {l : List α} (h : l.length = 8) : ∃ a0 a1 a2 a3 a4 a5 a6 a7, l = [a0, a1, a2, a3, a4, a5, a6, a7] := match l, h with | [a0, a1, a2, a3, a4, a5, a6, a7], _ => ⟨a0, a1, a2, a3, a4, a5, a6, a7, rfl⟩
theorem len9 {α : Type} {l : List α} (h : l.length = 9) : ∃ a0 a1 a2 a3 a4 a5 a6 a7 a8, l = [a0, a1, a2, a3, a4, a5, a6, a7, a8] := match l, h with | [a0, a1, a2, a3, a4, a5, a6, a7, a8], _ => ⟨a0, a1, a2, a3, a4, a5, a6, a7, a8, rfl⟩
theorem len10 {α : Type} {l : List α} (h : l.length = 10) : ∃ a0 a1 a2 a3 a4 a5 a6 a7 a8 a9, l = [a0, a1, a2, a3, a4, a5, a6, a7, a8, a9] := match l, h with | [a0, a1, a2, a3, a4, a5, a6, a7, a8, a9], _ => ⟨a0, a1, a2, a3, a4, a5, a6, a7, a8, a9, rfl⟩
theorem len11 {α : Type} {l : List α} (h : l.length = 11) : ∃ a0 a1 a2 a3 a4 a5 a6 a7 a8 a9 a10, l = [a0, a1, a2, a3, a4, a5, a6, a7, a8, a9, a10] := match l, h with | [a0, a1, a2, a3, a4, a5, a6, a7, a8, a9, a10], _ => ⟨a0, a1, a2, a3, a4, a5, a6, a7, a8, a9, a10, rfl⟩
theorem len12 {α : Type} {l : List α} (h : l.length = 12) : ∃ a0 a1 a2 a3 a4 a5 a6 a7 a8 a9 a10 a11, l = [a0, a1, a2, a3, a4, a5, a6, a7, a8, a9, a10, a11] := match l, h with | [a0, a1, a2, a3, a4, a5, a6, a7, a8, a9, a10, a11], _ => ⟨a0, a1, a2, a3, a4, a5, a6, a7, a8, a9, a10, a11, rfl⟩
section
variable {Q : D → Prop} {S : Sto} {i j : Int}
theorem vo_igAdd (q : Q (.int (i + j))) : Wo (igAdd (view S (.int i)) (view S (.int j))) Q := ⟨q⟩
theorem vo_igMulR (h : -18446744073709551616 < j ∧ j < 18446744073709551616) (q : Q (.int (i * j))) : Wo (igMul (view S (.int i)) (view S (.int j))) Q := .of (if_pos (.inr h)) q
theorem vo_igMulL (h : -18446744073709551616 < i ∧ i < 18446744073709551616) (q : Q (.int (i * j))) : Wo (igMul (view S (.int i)) (view S (.int j))) Q := .of (if_pos (.inl h)) q
end
theorem fq_rt {Q : D → Sto → Prop} {d : D} {S : Sto} (h : Q d S) : fnQ Q (.rt d) S := h
theorem fq_nx {Q : D → Sto → Prop} {ρ : Ev} {S : Sto} (h : Q .non S) : fnQ Q (.nx ρ) S := h
end DL

/-! ## DLy -/
set_option Elab.async false
set_option linter.all false
set_option maxRecDepth 100000
set_option maxHeartbeats 4000000
namespace DL
open PySem PySem.Spec PyProof.Rows L2
/-! ### zip of a list and a tuple, not strict, of one length -/
section
variable {prog : Program} {w : World} {A : Around} {E : Value → Shared → Prop} {s : Shared}
theorem zipN_next_item {t1 t2 : Bool} {z TI TO i1 i2 l1 l2 : Addr} {k1 k2 : Nat} {xs ys : Array Value} {x y a b : Value} {Q : Value → Shared → Prop} (D : ZipApart z TI TO i1 i2 l1 l2)
    (hz : IsZipB false s.heap z TI TO .none) (hTI : IsPair s.heap TI (.ref i1) (.ref i2)) (hTO : IsPair s.heap TO a b)
    (h1 : SI t1 s.heap i1 l1 k1) (h2 : SI t2 s.heap i2 l2 k2) (hl1 : SS t1 s.heap l1 xs) (hl2 : SS t2 s.heap l2 ys) (hx : xs[k1]? = some x) (hy : ys[k2]? = some y)
    (hQ : ∀ h', IsZipB false h' z TI TO (rawInt s.heap.objs.size) → IsPair h' TO x y → SI t1 h' i1 l1 (k1 + 1) → SI t2 h' i2 l2 (k2 + 1) → IsPair h' s.heap.objs.size x y → h'.objs.size = s.heap.objs.size + 1 →
      (∀ c o, c ≠ z → c ≠ TO → c ≠ i1 → c ≠ i2 → s.heap.get? c = some o → h'.get? c = some o) → Q (.ref s.heap.objs.size) { s with heap := h' }) :
    wpAny (model prog w) A (Builtin.«zip.__next__» ⟨[.ref z], []⟩) (fun fin s' => ∃ v, fin = .done (.ret v) ∧ Q v s') E s := by
  show wpAny _ _ (field (.ref z) 2 >>= _) _ _ _
  refine wpAny_bind (wpAny_field hz rfl (x := .bool false) rfl ?_)
  show wpAny _ _ (field (.ref z) 3 >>= _) _ _ _
  refine wpAny_bind (wpAny_field hz rfl (x := .ref TI) rfl ?_)
  refine wpAny_bind (wpAny_seqItems hTI rfl ?_)
  show wpAny _ _ (Builtin.SmallTypes.ownedTupleIsFree (.ref z) >>= _) _ _ _
  refine wpAny_bind ?_
  unfold Builtin.SmallTypes.ownedTupleIsFree
  refine wpAny_bind (wpAny_field hz rfl (x := .none) rfl (wpAny_pure ?_))
  simp only [if_true]
  refine wpAny_bind (wpAny_rule ?_)
  refine wpAny_bind (wpAny_field hz rfl (x := .ref TO) rfl ?_)
  refine wpAny_bind (wpAny_setField_rec hz (by simp) fun h₁ hz₁ hs₁ => ?_)
  replace hz₁ : IsZipB false h₁ z TI TO .ellipsis := hz₁
  refine wpAny_bind ?_
  simp only [List.zipIdx_cons, List.zipIdx_nil, List.forIn_cons, List.forIn_nil]
  refine wpAny_bind (wpAny_bind (wpAny_onRaise ?_))
  show wpAny _ _ (Builtin.SmallTypes.nextOf (.ref i1) >>= _) _ _ _
  refine wpAny_bind (src_item (h1.extBut hs₁.extBut D.i1z) (hl1.extBut hs₁.extBut D.l1z) hx fun h₂ h1₂ hs₂ => wpAny_pure ?_)
  have hTO₂ : IsPair h₂ TO a b := hs₂.extBut _ _ D.TOi1 (hs₁.extBut _ _ D.TOz hTO)
  refine wpAny_bind (wpAny_seqItems hTO₂ rfl ?_)
  refine wpAny_bind (wpAny_updateSeq_pair hTO₂ fun h₃ hTO₃ hs₃ => ?_)
  replace hTO₃ : IsPair h₃ TO x b := hTO₃
  refine wpAny_bind (wpAny_letGo (wpAny_pure ?_))
  refine wpAny_bind (wpAny_bind (wpAny_onRaise ?_))
  show wpAny _ _ (Builtin.SmallTypes.nextOf (.ref i2) >>= _) _ _ _
  refine wpAny_bind (src_item (((h2.extBut hs₁.extBut D.i2z).extBut hs₂.extBut D.i12.symm).extBut hs₃.extBut D.TOi2.symm)
    (((hl2.extBut hs₁.extBut D.l2z).extBut hs₂.extBut D.l2i1).extBut hs₃.extBut D.l2TO) hy fun h₄ h2₄ hs₄ => wpAny_pure ?_)
  have hTO₄ : IsPair h₄ TO x b := hs₄.extBut _ _ D.TOi2 hTO₃
  refine wpAny_bind (wpAny_seqItems hTO₄ rfl ?_)
  refine wpAny_bind (wpAny_updateSeq_pair hTO₄ fun h₅ hTO₅ hs₅ => ?_)
  replace hTO₅ : IsPair h₅ TO x y := hTO₅
  refine wpAny_bind (wpAny_letGo (wpAny_pure (wpAny_pure ?_)))
  refine wpAny_bind (wpAny_seqItems hTO₅ rfl ?_)
  refine wpAny_bind (wpAny_newTuple ?_)
  have hsz : h₅.objs.size = s.heap.objs.size := by rw [hs₅.1, hs₄.1, hs₃.1, hs₂.1, hs₁.1]
  have hz₅ : IsZipB false h₅ z TI TO .ellipsis := hs₅.extBut _ _ D.TOz.symm (hs₄.extBut _ _ D.i2z.symm (hs₃.extBut _ _ D.TOz.symm (hs₂.extBut _ _ D.i1z.symm hz₁)))
  have hk₅ : ∀ c o, c ≠ z → c ≠ TO → c ≠ i1 → c ≠ i2 → s.heap.get? c = some o → h₅.get? c = some o := fun c o c1 c2 c3 c4 e =>
    hs₅.extBut _ _ c2 (hs₄.extBut _ _ c4 (hs₃.extBut _ _ c2 (hs₂.extBut _ _ c3 (hs₁.extBut _ _ c1 e))))
  have h1₅ : SI t1 h₅ i1 l1 (k1 + 1) := ((h1₂.extBut hs₃.extBut D.TOi1.symm).extBut hs₄.extBut D.i12).extBut hs₅.extBut D.TOi1.symm
  have h2₅ : SI t2 h₅ i2 l2 (k2 + 1) := h2₄.extBut hs₅.extBut D.TOi2.symm
  have hzlt : z < h₅.objs.size := Heap.lt_size hz₅
  have hTOlt : TO < h₅.objs.size := Heap.lt_size hTO₅
  have hi1lt : i1 < h₅.objs.size := h1₅.lt
  have hi2lt : i2 < h₅.objs.size := h2₅.lt
  show wpAny _ _ (Builtin.SmallTypes.ownedTupleHandOut (.ref z) (.ref h₅.objs.size) >>= _) _ _ _
  refine wpAny_bind ?_
  unfold Builtin.SmallTypes.ownedTupleHandOut
  have hz₆ : IsZipB false (h₅.push { cls := .type "tuple", data := .seq #[x, y] }) z TI TO .ellipsis := Heap.get?_push_of_some _ hz₅
  refine wpAny_bind (wpAny_setField_rec hz₆ (by simp) fun h₇ hz₇ hs₇ => ?_)
  replace hz₇ : IsZipB false h₇ z TI TO (rawInt h₅.objs.size) := hz₇
  refine wpAny_setField_rec hz₇ (by simp) fun h₈ hz₈ hs₈ => ?_
  replace hz₈ : IsZipB false h₈ z TI TO (rawInt h₅.objs.size) := hz₈
  have up : ∀ c o, c ≠ z → h₅.get? c = some o → h₈.get? c = some o := fun c o c1 e => hs₈.extBut _ _ c1 (hs₇.extBut _ _ c1 (Heap.get?_push_of_some _ e))
  have hT₈ : IsPair h₈ h₅.objs.size x y := hs₈.extBut _ _ (Nat.ne_of_gt hzlt) (hs₇.extBut _ _ (Nat.ne_of_gt hzlt) (Heap.get?_push_size _ rfl))
  have hz8 : h₈.objs.size = h₅.objs.size + 1 := by rw [hs₈.1, hs₇.1, Heap.size_push]
  rw [hsz] at hz₈ hT₈ hz8
  refine wpAny_pure ⟨_, rfl, ?_⟩
  show Q (.ref h₅.objs.size) _
  rw [hsz]
  exact hQ h₈ hz₈ (up _ _ D.TOz hTO₅) (h1₅.at fun o e => up _ o D.i1z e) (h2₅.at fun o e => up _ o D.i2z e) hT₈ hz8 fun c o c1 c2 c3 c4 e => up c o c1 (hk₅ c o c1 c2 c3 c4 e)
theorem zipN_next_end {t1 t2 : Bool} {z TI TO i1 i2 l1 l2 : Addr} {k1 k2 : Nat} {xs ys : Array Value} {a b : Value} {Q : Fin → Shared → Prop} (hh : A.handled = none) (D : ZipApart z TI TO i1 i2 l1 l2)
    (hz : IsZipB false s.heap z TI TO .none) (hTI : IsPair s.heap TI (.ref i1) (.ref i2)) (hTO : IsPair s.heap TO a b)
    (h1 : SI t1 s.heap i1 l1 k1) (h2 : SI t2 s.heap i2 l2 k2) (hl1 : SS t1 s.heap l1 xs) (hl2 : SS t2 s.heap l2 ys) (hx : xs[k1]? = none) (hy : ys[k2]? = none)
    (hE : ∀ h' e, (∀ c o, c ≠ z → c ≠ TO → c ≠ i1 → c ≠ i2 → s.heap.get? c = some o → h'.get? c = some o) → (∃ o, h'.get? e = some o ∧ o.cls = .type "StopIteration") → E (.ref e) { s with heap := h' }) :
    wpAny (model prog w) A (Builtin.«zip.__next__» ⟨[.ref z], []⟩) Q E s := by
  show wpAny _ _ (field (.ref z) 2 >>= _) _ _ _
  refine wpAny_bind (wpAny_field hz rfl (x := .bool false) rfl ?_)
  show wpAny _ _ (field (.ref z) 3 >>= _) _ _ _
  refine wpAny_bind (wpAny_field hz rfl (x := .ref TI) rfl ?_)
  refine wpAny_bind (wpAny_seqItems hTI rfl ?_)
  show wpAny _ _ (Builtin.SmallTypes.ownedTupleIsFree (.ref z) >>= _) _ _ _
  refine wpAny_bind ?_
  unfold Builtin.SmallTypes.ownedTupleIsFree
  refine wpAny_bind (wpAny_field hz rfl (x := .none) rfl (wpAny_pure ?_))
  simp only [if_true]
  refine wpAny_bind (wpAny_rule ?_)
  refine wpAny_bind (wpAny_field hz rfl (x := .ref TO) rfl ?_)
  refine wpAny_bind (wpAny_setField_rec hz (by simp) fun g1 hg1 hb1 => ?_)
  replace hg1 : IsZipB false g1 z TI TO .ellipsis := hg1
  refine wpAny_bind ?_
  simp only [List.zipIdx_cons, List.zipIdx_nil, List.forIn_cons, List.forIn_nil]
  refine wpAny_bind (wpAny_bind (wpAny_onRaise ?_))
  show wpAny _ _ (Builtin.SmallTypes.nextOf (.ref i1) >>= _) _ _ _
  refine wpAny_bind (src_end hh (h1.extBut hb1.extBut D.i1z) (hl1.extBut hb1.extBut D.l1z) hx fun g2 e hb2 he => ?_)
  obtain ⟨oe, hoe, hce⟩ := he
  have hg2 : IsZipB false g2 z TI TO .ellipsis := hb2 _ _ D.i1z.symm hg1
  have hez : e ≠ z := by
    rintro rfl
    rw [hg2] at hoe
    cases hoe
    simp at hce
  exact wpAny_setField_rec hg2 (by simp) fun g3 _ hb3 => hE g3 e (fun c o c1 _ c3 _ x => hb3.extBut _ _ c1 (hb2 _ _ c3 (hb1.extBut _ _ c1 x))) ⟨oe, hb3.extBut _ _ hez hoe, hce⟩
theorem pyNext_zipN_item {t1 t2 : Bool} {z TI TO i1 i2 l1 l2 : Addr} {k1 k2 : Nat} {xs ys : Array Value} {x y a b : Value} {Q : Option Value → Shared → Prop} (D : ZipApart z TI TO i1 i2 l1 l2)
    (hz : IsZipB false s.heap z TI TO .none) (hTI : IsPair s.heap TI (.ref i1) (.ref i2)) (hTO : IsPair s.heap TO a b)
    (h1 : SI t1 s.heap i1 l1 k1) (h2 : SI t2 s.heap i2 l2 k2) (hl1 : SS t1 s.heap l1 xs) (hl2 : SS t2 s.heap l2 ys) (hx : xs[k1]? = some x) (hy : ys[k2]? = some y)
    (hQ : ∀ h', IsZipB false h' z TI TO (rawInt s.heap.objs.size) → IsPair h' TO x y → SI t1 h' i1 l1 (k1 + 1) → SI t2 h' i2 l2 (k2 + 1) → IsPair h' s.heap.objs.size x y → h'.objs.size = s.heap.objs.size + 1 →
      (∀ c o, c ≠ z → c ≠ TO → c ≠ i1 → c ≠ i2 → s.heap.get? c = some o → h'.get? c = some o) → Q (some (.ref s.heap.objs.size)) { s with heap := h' }) :
    wpAny (model prog w) A (pyNext (.ref z)) Q E s := by
  have hT : s.TypeIs (.ref z) "zip" := ⟨_, hz, rfl⟩
  unfold pyNext
  exact wpAny_bind (wpAny_attempt (wpAny_callSpecial?_slot (name := Str.ofString "__next__") hT F.slot_zip_next
    (wpAny_call_entry F.slot_zip_next hT F.entry_zip_next
      (zipN_next_item D hz hTI hTO h1 h2 hl1 hl2 hx hy fun h' a1 a2 a3 a4 a5 a6 a7 => wpAny_pure (hQ h' a1 a2 a3 a4 a5 a6 a7)) (F.args_zip_next_1 _))))
theorem pyNext_zipN_end {t1 t2 : Bool} {z TI TO i1 i2 l1 l2 : Addr} {k1 k2 : Nat} {xs ys : Array Value} {a b : Value} {Q : Option Value → Shared → Prop} (hh : A.handled = none) (D : ZipApart z TI TO i1 i2 l1 l2)
    (hz : IsZipB false s.heap z TI TO .none) (hTI : IsPair s.heap TI (.ref i1) (.ref i2)) (hTO : IsPair s.heap TO a b)
    (h1 : SI t1 s.heap i1 l1 k1) (h2 : SI t2 s.heap i2 l2 k2) (hl1 : SS t1 s.heap l1 xs) (hl2 : SS t2 s.heap l2 ys) (hx : xs[k1]? = none) (hy : ys[k2]? = none)
    (hQ : ∀ h', (∀ c o, c ≠ z → c ≠ TO → c ≠ i1 → c ≠ i2 → s.heap.get? c = some o → h'.get? c = some o) → Q none { s with heap := h' }) : wpAny (model prog w) A (pyNext (.ref z)) Q E s := by
  have hT : s.TypeIs (.ref z) "zip" := ⟨_, hz, rfl⟩
  unfold pyNext
  refine wpAny_bind (wpAny_attempt (wpAny_callSpecial?_slot (name := Str.ofString "__next__") hT F.slot_zip_next
    (wpAny_call_entry F.slot_zip_next hT F.entry_zip_next (zipN_next_end hh D hz hTI hTO h1 h2 hl1 hl2 hx hy fun h' e hk he => ?_) (F.args_zip_next_1 _))))
  obtain ⟨o, ho, hc⟩ := he
  refine wpAny_bind (wpAny_isInstance (T := "StopIteration") (b := true) ⟨o, ho, hc⟩ isSubtype_stop ?_)
  exact wpAny_pure (hQ _ hk)
theorem letGo_zipN {elts : List Expr} {x1} {pos : Pos} {z TI TO T : Addr} {Q : Unit → Shared → Prop} (hz : IsZipB false s.heap z TI TO (rawInt T))
    (hQ : ∀ h', IsZipB false h' z TI TO .none → Heap.SameBut z s.heap h' → Q () { s with heap := h' }) :
    wpAny (model prog w) A (letOwnedTupleGo (.Tuple elts x1 pos) (.ref z) (.ref T)) Q E s := by
  unfold letOwnedTupleGo
  refine wpAny_bind (wpAny_load hz ?_)
  show wpAny _ _ (if (["enumerate", "zip", "dict_itemiterator", "dict_reverseitemiterator", "odict_iterator", "itertools.zip_longest", "itertools.pairwise"].contains "zip" &&
      (#[rawInt T, .bool false, .bool false, .ref TI, .ref TO] : Array Value)[0]? == some (rawInt T)) = true then _ else _) Q E s
  rw [if_pos (by simp)]
  refine wpAny_bind (wpAny_rule ?_)
  show wpAny _ _ (setField (.ref z) 0 .none) Q E s
  exact wpAny_setField_rec hz (by simp) fun h' hz' hs' => hQ h' hz' hs'
theorem pyIter_zipN {z TI TO : Addr} {f0 : Value} {Q : Value → Shared → Prop} (hz : IsZipB false s.heap z TI TO f0) (h : Q (.ref z) s) : wpAny (model prog w) A (pyIter (.ref z)) Q E s := by
  have hT : s.TypeIs (.ref z) "zip" := ⟨_, hz, rfl⟩
  refine wpAny_pyIter_slot hT F.slot_zip_iter (wpAny_call_entry F.slot_zip_iter hT F.entry_zip_iter ?_ (F.args_zip_iter_1 _))
  show wpAny _ _ (ret (.ref z)) _ _ s
  exact wpAny_pure ⟨_, rfl, "zip", _, hT, F.slot_zip_next.lookup, h⟩
end
abbrev zN5 (h : Heap) (t1 t2 : Bool) (l1 l2 : Addr) : Heap := (zS4 h t1 t2 l1 l2).push { cls := .type "zip", data := .fields #[.none, .bool false, .bool false, .ref (zS2 h t1 t2 l1 l2).objs.size, .ref (zS3 h t1 t2 l1 l2).objs.size] }
theorem meets_zipN_new (t1 t2 : Bool) (l1 l2 : Addr) (xs ys : Array Value) :
    Meets (Builtin.«zip.__new__» ⟨[.type "zip", .ref l1, .ref l2], []⟩) (fun _ R s => SS t1 s.heap l1 xs ∧ SS t2 s.heap l2 ys ∧
      R (.ok (.ret (.ref (zS4 s.heap t1 t2 l1 l2).objs.size))) { s with heap := zN5 s.heap t1 t2 l1 l2 }) :=
  .of_wp fun prog w A R s h => by
    obtain ⟨hp, g, d, tk, os⟩ := s; obtain ⟨hl1, hl2, h⟩ := h
    have hsub := sub_zip
    have q1 : ∀ {A' : Around} {E : Value → Shared → Prop} {Q : Value → Shared → Prop}, Q (.ref hp.objs.size) ⟨hp.push (itO t1 l1), g, d, tk, os⟩ → wpAny (model prog w) A' (pyIter (.ref l1)) Q E ⟨hp, g, d, tk, os⟩ := fun q => src_iter (s := ⟨hp, g, d, tk, os⟩) hl1 q
    have q2 : ∀ {A' : Around} {E : Value → Shared → Prop} {Q : Value → Shared → Prop}, Q (.ref (hp.push (itO t1 l1)).objs.size) ⟨(hp.push (itO t1 l1)).push (itO t2 l2), g, d, tk, os⟩ → wpAny (model prog w) A' (pyIter (.ref l2)) Q E ⟨hp.push (itO t1 l1), g, d, tk, os⟩ :=
      fun q => src_iter (s := ⟨hp.push (itO t1 l1), g, d, tk, os⟩) (hl2.keep fun o e => Heap.get?_push_of_some _ e) q
    wp_walk using q1, q2
    exact ⟨_, rfl, h⟩
section
variable {prog : Program} {w : World} {A : Around} {E : Value → Shared → Prop} {s : Shared}
theorem call_zipN {t1 t2 : Bool} {l1 l2 : Addr} {xs ys : Array Value} {Q : Value → Shared → Prop} (hl1 : SS t1 s.heap l1 xs) (hl2 : SS t2 s.heap l2 ys)
    (h : ∀ h', IsZipB false h' (s.heap.objs.size + 4) (s.heap.objs.size + 2) (s.heap.objs.size + 3) .none → IsPair h' (s.heap.objs.size + 2) (.ref s.heap.objs.size) (.ref (s.heap.objs.size + 1)) →
      IsPair h' (s.heap.objs.size + 3) .none .none → SI t1 h' s.heap.objs.size l1 0 → SI t2 h' (s.heap.objs.size + 1) l2 0 → h'.objs.size = s.heap.objs.size + 5 →
      (∀ c o, s.heap.get? c = some o → h'.get? c = some o) → Q (.ref (s.heap.objs.size + 4)) { s with heap := h' }) :
    wpAny (model prog w) A (call (.type "zip") [.ref l1, .ref l2]) Q E s := by
  refine callType_new F.called_zip (by decide) (F.typeCall_zip_2 _ _) (F.newCall_zip_2 _ _) (fun obj => F.args_object_init_3 obj _ _) F.entry_zip_new
    (meets_zipN_new t1 t2 l1 l2 xs ys) ⟨hl1, hl2, ?_⟩
  have z1 : (zS1 s.heap t1 l1).objs.size = s.heap.objs.size + 1 := Heap.size_push ..
  have z2 : (zS2 s.heap t1 t2 l1 l2).objs.size = s.heap.objs.size + 2 := by rw [Heap.size_push, z1]
  have z3 : (zS3 s.heap t1 t2 l1 l2).objs.size = s.heap.objs.size + 3 := by rw [Heap.size_push, z2]
  have z4 : (zS4 s.heap t1 t2 l1 l2).objs.size = s.heap.objs.size + 4 := by rw [Heap.size_push, z3]
  have z5 : (zN5 s.heap t1 t2 l1 l2).objs.size = s.heap.objs.size + 5 := by rw [Heap.size_push, z4]
  have g5 : (zN5 s.heap t1 t2 l1 l2).get? (zS4 s.heap t1 t2 l1 l2).objs.size = some _ := Heap.get?_push_size _ rfl
  have g4 : (zN5 s.heap t1 t2 l1 l2).get? (zS3 s.heap t1 t2 l1 l2).objs.size = some _ := Heap.get?_push_of_some _ (Heap.get?_push_size _ rfl)
  have g3 : (zN5 s.heap t1 t2 l1 l2).get? (zS2 s.heap t1 t2 l1 l2).objs.size = some _ := Heap.get?_push_of_some _ (Heap.get?_push_of_some _ (Heap.get?_push_size _ rfl))
  have g2 : SI t2 (zN5 s.heap t1 t2 l1 l2) (zS1 s.heap t1 l1).objs.size l2 0 := SI.at (h := zS2 s.heap t1 t2 l1 l2) SI.new fun o e => Heap.get?_push_of_some _ (Heap.get?_push_of_some _ (Heap.get?_push_of_some _ e))
  have g1 : SI t1 (zN5 s.heap t1 t2 l1 l2) s.heap.objs.size l1 0 := SI.at (h := zS1 s.heap t1 l1) SI.new fun o e => Heap.get?_push_of_some _ (Heap.get?_push_of_some _ (Heap.get?_push_of_some _ (Heap.get?_push_of_some _ e)))
  show _ ∧ _
  rw [z2, z3, z4] at g5
  rw [z1, z2] at g3
  rw [z3] at g4
  rw [z1] at g2
  rw [z4]
  exact ⟨⟨_, g5, rfl⟩, h _ g5 g3 g4 g1 g2 z5 fun c o x =>
    Heap.get?_push_of_some _ (Heap.get?_push_of_some _ (Heap.get?_push_of_some _ (Heap.get?_push_of_some _ (Heap.get?_push_of_some _ x))))⟩
end
theorem turn_zipN {t1 t2 : Bool} {P : Program} {w : World} {K : PySem.W.Frag} {elts : List Expr} {kk : Nat} {tpos : Pos} {a b z TI TO i1 i2 : Addr} (D : ZipApart z TI TO i1 i2 a b) :
    Turn P w K (.Tuple elts kk tpos) (ItzS t1 t2 K a b) [z, TI, TO, i1, i2] z (fun i h => IsZipB false h z TI TO .none ∧ IsPair h TI (.ref i1) (.ref i2) ∧ (∃ x y, IsPair h TO x y) ∧ SI t1 h i1 a i ∧ SI t2 h i2 b i) where
  mem := by simp
  obj := fun i h st c hc => by
    obtain ⟨hz, hTI, ⟨x, y, hTO⟩, h1, h2⟩ := st
    have e' : c = z ∨ c = TI ∨ c = TO ∨ c = i1 ∨ c = i2 := by simpa using hc
    rcases e' with q | q | q | q | q
    · rw [q]; exact ⟨_, hz, fun v q => nomatch q⟩
    · rw [q]; exact ⟨_, hTI, fun v q => nomatch q⟩
    · rw [q]; exact ⟨_, hTO, fun v q => nomatch q⟩
    · rw [q]; exact h1.obj
    · rw [q]; exact h2.obj
  keep := fun i h h' st k => by
    obtain ⟨hz, hTI, ⟨x, y, hTO⟩, h1, h2⟩ := st
    exact ⟨k z (by simp) _ hz, k TI (by simp) _ hTI, ⟨x, y, k TO (by simp) _ hTO⟩, h1.at fun o q => k i1 (by simp) o q, h2.at fun o q => k i2 (by simp) o q⟩
  item := by
    intro X hP hw hK hc i pins s σ H E I hf st hg
    subst hP hw hK
    obtain ⟨hz, hTI, ⟨x0, y0, hTO⟩, h1, h2⟩ := st
    obtain ⟨xs, ys, x, y, hqx, hqy, hx, hy⟩ := hg
    obtain ⟨its, rv, p⟩ := seqB I hqx
    obtain ⟨its2, rv2, p2⟩ := seqB I hqy
    obtain ⟨u, hu, ru⟩ := rv.get hx
    obtain ⟨u2, hu2, ru2⟩ := rv2.get hy
    have hzl : z < s.heap.objs.size := Heap.lt_size hz
    refine pyNext_zipN_item D hz hTI hTO h1 h2 p p2 (x := u) (y := u2) (by simpa using hu) (by simpa using hu2) fun h' z' TO' h1' h2' hT hsz hk => ?_
    refine ⟨_, rfl, letGo_zipN (s := { s with heap := h' }) z' fun h'' z'' sb => ?_⟩
    have hT2 : h''.get? s.heap.objs.size = some { cls := .type "tuple", data := .seq #[u, u2] } := (sb.2 _ (Nat.ne_of_gt hzl)).trans hT
    have new : ObjOk X.prog X.w (upd H s.heap.objs.size (.tup [x, y])) h'' s.heap.objs.size (.tup [x, y]) :=
      ⟨by show 2 ≤ sizeLine; decide, [u, u2], .cons ru (.cons ru2 .nil), ⟨_, hT2, rfl, _, rfl⟩⟩
    have I1 : Inv X pins σ (upd H s.heap.objs.size (.tup [x, y])) { s with heap := h'' } :=
      I.turnedNew (t' := s.toks) (ch := [z, TI, TO, i1, i2]) (fun c o hb q => (sb.2 c (fun q' => hb (by simp [q']))).trans (hk c o (fun q' => hb (by simp [q'])) (fun q' => hb (by simp [q'])) (fun q' => hb (by simp [q'])) (fun q' => hb (by simp [q'])) q)) hf (Nat.le_refl _) new
    refine ⟨.ref s.heap.objs.size, _, I1, rfl, ⟨_, x, y, rfl, I.hok.fresh (Nat.le_refl _), rfl, fun l hl => by rw [seqB_inj I hl hqx]; exact hx, fun l hl => by rw [seqB_inj I hl hqy]; exact hy⟩, ⟨z'', ?_, ⟨u, u2, ?_⟩, ?_, ?_⟩, fun c hcm => ?_⟩
    · exact (sb.2 _ D.TIz).trans (hk _ _ D.TIz D.TITO D.TIi1 D.TIi2 hTI)
    · exact (sb.2 _ D.TOz).trans TO'
    · exact h1'.at fun o q => (sb.2 _ D.i1z).trans q
    · exact h2'.at fun o q => (sb.2 _ D.i2z).trans q
    · have hlt : c < s.heap.objs.size := by
        have e' : c = z ∨ c = TI ∨ c = TO ∨ c = i1 ∨ c = i2 := by simpa using hcm
        rcases e' with q | q | q | q | q
        · rw [q]; exact hzl
        · rw [q]; exact Heap.lt_size hTI
        · rw [q]; exact Heap.lt_size hTO
        · rw [q]; exact h1.lt
        · rw [q]; exact h2.lt
      rw [upd_ne (Nat.ne_of_lt hlt)]
      exact (hf c hcm).1
  done := by
    intro X hP hw hK hc i pins s σ H E I hf st hg
    subst hP hw hK
    obtain ⟨hz, hTI, ⟨x0, y0, hTO⟩, h1, h2⟩ := st
    obtain ⟨xs, ys, hqx, hqy, he1, he2⟩ := hg
    obtain ⟨its, rv, p⟩ := seqB I hqx
    obtain ⟨its2, rv2, p2⟩ := seqB I hqy
    have l1 := rv.length
    have l2 := rv2.length
    exact pyNext_zipN_end (I.ok.hd hc) D hz hTI hTO h1 h2 p p2 (by simp; omega) (by simp; omega) fun h' hk => ⟨rfl, I.turnedL (t' := s.toks) (ch := [z, TI, TO, i1, i2]) (fun c o hb q =>
      hk c o (fun q' => hb (by simp [q'])) (fun q' => hb (by simp [q'])) (fun q' => hb (by simp [q'])) (fun q' => hb (by simp [q'])) q) hf⟩
  self := fun A i s Q E st h => pyIter_zipN st.1 h
/-- zip(a, b) of sources of one length -/
def iZipE (a b : Ex) : Ix := fun ρ S => (a ρ S).bind fun x S => (b ρ S).bind fun y S => match asSq x, asSq y with
  | some p, some q => if p.2.length = q.2.length then .ok (zipDs p.2 q.2) S else .bad
  | _, _ => .bad
section
variable {X : Cx} {W : WX} {e e2 : Expr} {fa fb : Ex} {p pos tpos : Pos} {elts : List Expr} {kk : Nat}
theorem iv_zipE (hg : Gl X "zip") (hm : X.mg "zip" = none) (ha : EV X W e fa) (hb : EV X W e2 fb) (hs2 : starEach [e2] X.env = [(false, eval e2 X.env)] := by rfl)
    (he1 : starEach [e, e2] X.env = (false, eval e X.env) :: starEach [e2] X.env := by rfl) (hpl : (backTo pos (starEach [e2] X.env)).any (·.1) = false := by rfl) :
    IV X W (.Tuple elts kk tpos) (.Call (.Name "zip" p) [e, e2] [] pos) (iZipE fa fb) := by
  refine ⟨fun pins s σ H R I h => ?_⟩
  obtain ⟨B, m, ρ, S, r, re, f⟩ := h
  have hA : upA X.K X.mg W (evL [fa, fb]) σ H fun vs H1 => ∃ B m S ρ dx dy v1 v2, vs = [v1, v2] ∧ Rl X.K X.mg B m H1 S ∧ RepE X.K H1 (Fo B m S) m σ ρ ∧ Rep X.K H1 (Fo B m S) m v1 dx ∧ Rep X.K H1 (Fo B m S) m v2 dy ∧
      finI X.K X.mg W B m S σ H1 (match asSq dx, asSq dy with | some p, some q => if p.2.length = q.2.length then .ok (zipDs p.2 q.2) S else .bad | _, _ => .bad) R := by
    refine ⟨B, m, ρ, S, r, re, ?_⟩
    have f' : finI X.K X.mg W B m S σ H ((fa ρ S).bind fun x S => (fb ρ S).bind fun y S => match asSq x, asSq y with | some p, some q => if p.2.length = q.2.length then .ok (zipDs p.2 q.2) S else .bad | _, _ => .bad) R := f
    unfold evL evL evL
    cases e1 : fa ρ S with
    | bad => rw [e1] at f'; exact f'.elim
    | exc c p S1 => rw [e1] at f'; exact f'
    | ok dx S1 =>
      rw [e1] at f'
      simp only [DL.R.bind] at f' ⊢
      cases e2 : fb ρ S1 with
      | bad => rw [e2] at f'; exact f'.elim
      | exc c p S1 => rw [e2] at f'; exact f'
      | ok dy S2 =>
        rw [e2] at f'
        simp only [DL.R.bind] at f' ⊢
        intro m' H' vs po q
        cases q with
        | cons q1 qt =>
          cases qt with
          | cons q2 qn =>
            cases qn
            exact ⟨B, m', S2, ρ, dx, dy, _, _, rfl, po.rl, re.kp (po.kp r), q1, q2, finI.later po f'⟩
  have hpa : PA X [e, e2] (upA X.K X.mg W (evL [fa, fb])) := ea_cons ha (ea_cons hb ea_nil hs2) he1
  refine Call_ (ld_blt I hg hm PyProof.Rows.boot_zip (PyProof.Rows.callWith_type1 (thn (hpa.run pos pins s σ H _ I hA) fun us s1 ⟨vs, H1, I1, r1, q1⟩ => ?_) he1 hpl))
  obtain ⟨B, m, S, ρ, dx, dy, v1, v2, rfl, rl, re, rx, ry, fI⟩ := q1
  obtain ⟨u1, u2, rfl, ru1, ru2⟩ := vals2 r1
  cases e1 : asSq dx with
  | none => rw [e1] at fI; exact fI.elim
  | some p =>
    cases e2 : asSq dy with
    | none => rw [e1, e2] at fI; exact fI.elim
    | some q =>
      rw [e1, e2] at fI
      dsimp only at fI
      split at fI
      · rename_i hl
        obtain ⟨a, vs, rfl, qa, sa, ka⟩ := asSq_rep rx e1
        obtain ⟨b, ws, rfl, qb, sb, kb⟩ := asSq_rep ry e2
        cases ru1
        cases ru2
        obtain ⟨its, rv, p1⟩ := seqB I1 sa
        obtain ⟨its2, rv2, p2⟩ := seqB I1 sb
        refine call_zipN p1 p2 fun h' hz hTI hTO h1 h2 hsz hk => pyIter_zipN hz ?_
        have I2 : Inv X pins σ H1 { s1 with heap := h' } := I1.kept (t' := s1.toks) hk
        exact ⟨s1.heap.objs.size + 4, [s1.heap.objs.size + 4, s1.heap.objs.size + 2, s1.heap.objs.size + 3, s1.heap.objs.size, s1.heap.objs.size + 1], _, _, H1, rfl, I2, turn_zipN (PySem.W.ktu_apart s1.heap.objs.size a b p1.lt p2.lt), ⟨hz, hTI, ⟨_, _, hTO⟩, h1, h2⟩, fresh5 I1, fI m H1 _ (Post.refl rl) (itr_zipS qa qb ka kb hl)⟩
      · exact fI.elim
end
section
variable {Q : List D → Sto → Prop} {E : Px} {ρ : Ev} {S : Sto} {a b : Ex}
theorem wi_zipE (h : Wp (a ρ S) (fun x S1 => Wp (b ρ S1) (fun y S2 => ∃ xs ys, (x = .lst xs ∨ x = .tup xs) ∧ (y = .lst ys ∨ y = .tup ys) ∧ xs.length = ys.length ∧ Q (zipDs xs ys) S2) E) E) : Wp (iZipE a b ρ S) Q E :=
  wp_bind (h.mono fun d S1 h => wp_bind (h.mono fun d2 S2 ⟨xs, ys, e1, e2, hl, q⟩ => by
    rcases e1 with rfl | rfl <;> rcases e2 with rfl | rfl <;> simp only [asSq] <;> rw [if_pos hl] <;> exact ⟨q⟩))
end
end DL

/-! ## DLx -/
set_option Elab.async false
set_option linter.all false
set_option maxRecDepth 100000
set_option maxHeartbeats 4000000
namespace DL
open PySem PySem.Spec PyProof.Rows L2
/-! ### a test that asks what stands, without a store of its own -/
def frzO (S : Sto) (o : Option D) : Option D := match o with
  | some d => if noRef (frzD S d) = true then some (frzD S d) else none
  | none => none
def frzE (S : Sto) (ρ : Ev) : Ev := ρ.map (frzO S)
def tQt (t : Tx) : Tx := fun ρ S => match t (frzE S ρ) [] with
  | .ok b _ => .ok b S
  | _ => .bad
section
variable {K : PySem.W.Frag} {mg : Str → Option Value} {H : Hp} {m : List Addr} {B : Addr → Prop} {S : Sto} {σ : L2.St} {ρ : Ev}
theorem RepE.frz (r : Rl K mg B m H S) (h : RepE K H (Fo B m S) m σ ρ) : RepE K H (Fo (fun _ => False) [] []) [] σ (frzE S ρ) := by
  refine ⟨by simp [frzE, h.1], fun i d e => ?_⟩
  unfold frzE at e
  rw [List.getElem?_map] at e
  obtain ⟨o, e1, e2⟩ := Option.map_eq_some_iff.mp e
  cases o with
  | none => simp [frzO] at e2
  | some d0 =>
    unfold frzO at e2
    dsimp only at e2
    split at e2
    · rename_i hn
      cases e2
      obtain ⟨v, ev, rv⟩ := h.2 i d0 e1
      have e0 : ∀ a, Fo (fun _ => False) [] [] a → False := fun a z => z.elim id fun ⟨n, o, e1, e2⟩ => by simp at e1
      exact ⟨v, ev, (Rep.frzD r rv hn).noRef (fun a z => e0 a z) hn⟩
    · cases e2
theorem rl_nil : Rl K mg (fun _ => False) [] H [] := ⟨rfl, List.nodup_nil, fun a ⟨n, o, e1, e2⟩ => by simp at e1, fun a z => z.elim, fun a z => by simp at z, fun n a o e1 e2 => by simp at e1⟩
end
theorem tv_qt {X : Cx} {W : WX} {e : Expr} {t : Tx} (h : TV X W e t) : TV X W e (tQt t) := by
  refine pt_imp h fun σ H Q ⟨B, m, ρ, S, r, re, f⟩ => ?_
  refine ⟨fun _ => False, [], frzE S ρ, [], rl_nil, re.frz r, ?_⟩
  unfold tQt at f
  cases e1 : t (frzE S ρ) [] with
  | bad => rw [e1] at f; exact f.elim
  | exc c p S1 => rw [e1] at f; exact f.elim
  | ok b S1 =>
    rw [e1] at f
    intro m' H' p
    have sm : Same H H' := fun a o e => p.keep a o e fun ⟨n, o, e1, e2⟩ => by simp at e1
    exact f m H' (Post.grow r sm)
theorem wp_qt {t : Tx} {ρ ρ' : Ev} {S : Sto} {Q : Bool → Sto → Prop} {E : Px} (hρ : frzE S ρ = ρ') (h : Wp (t ρ' []) (fun b _ => Q b S) noX) : Wp (tQt t ρ S) Q E := by
  unfold tQt
  rw [hρ]
  obtain ⟨b, S', e, q⟩ := h.ok
  rw [e]
  exact ⟨q⟩
end DL

/-! ## DLu -/
set_option Elab.async false
set_option linter.all false
set_option maxRecDepth 100000
set_option maxHeartbeats 4000000
namespace DL
open PySem PySem.Spec PyProof.Rows L2
/-! ### str(i) of an int -/
def strD : List D → Option D
  | [.int i] => if i.natAbs.log2 < 1920 then some (.str (toString i)) else none
  | _ => none
section
variable {X : Cx}
theorem cg_str : CallR X (.type "str") (rGn X.K strD) := by
  intro pins s σ H xs us Q I r ⟨Fb, m, ds, d, fr, vx, e, k⟩
  unfold strD at e
  split at e
  · split at e
    · rename_i hz
      cases e
      obtain ⟨v, rfl, h1⟩ := vx.one
      cases h1.asI
      exact call_str_int pins s σ H _ us Q I r ⟨_, rfl, hz, k H _ (Same.refl H) (.str _)⟩
    · cases e
  · cases e
end
/-! ### list + list, the sum a list that will be written -/
def eCatM (a b : Ex) : Ex := fun ρ S => (a ρ S).bind fun x S => (b ρ S).bind fun y S => match addD (view S x) (view S y) with
  | some (.lst zs) => .ok (.ref S.length) (S ++ [some (.lst zs)])
  | _ => .bad
section
variable {X : Cx} {W : WX} {a b : Expr} {fa fb : Ex} {pos : Pos}
theorem ev_catM (ha : EV X W a fa) (hb : EV X W b fb) : EV X W (.BinOp a .Add b pos) (eCatM fa fb) := by
  refine pe_imp (pe_op op_cat ha hb) fun σ H Q h => ?_
  obtain ⟨B0, m0, ρ0, S0, r0, re0, f0⟩ := up_two (g := fun x y ρ S => match addD (view S x) (view S y) with
    | some (.lst zs) => .ok (.ref S.length) (S ++ [some (.lst zs)])
    | _ => .bad) h
  refine ⟨B0, m0, ρ0, S0, r0, re0, f0.mono fun x H1 => ?_⟩
  rintro ⟨B1, m1, ρ1, S1, r1, re1, f1⟩
  refine ⟨B1, m1, ρ1, S1, r1, re1, f1.mono fun y H2 => ?_⟩
  rintro ⟨B, m, ρ, S, dx, dy, r, re, rx, ry, f⟩
  have vx := vw r rx
  have vy := vw r ry
  generalize view S dx = ex at f vx
  generalize view S dy = ey at f vy
  split at f
  · rename_i zs e
    unfold addD at e
    split at e
    · cases e
    · split at e <;> cases e
    · split at e <;> cases e
    · split at e
      · rename_i hl
        cases e
        obtain ⟨a, vs, rfl, h1, z1, q1⟩ := vx.asL
        obtain ⟨b, ws, rfl, h2, z2, q2⟩ := vy.asL
        exact ⟨a, b, vs, ws, rfl, rfl, h1, h2, by rw [q1.length, q2.length]; exact hl, fun p hp => f (m ++ [p]) _ _ (Post.new r hp (.lst upd_same (by rw [List.length_append, q1.length, q2.length]; exact hl) ((q1.append q2).kp (kp_new r hp)))) (rep_new r)⟩
      · cases e
    · cases e
  · exact f.elim
end
section
variable {Q : D → Sto → Prop} {E : Px} {ρ : Ev} {S : Sto} {a b : Ex}
theorem wp_catM (h : Wp (a ρ S) (fun x S1 => Wp (b ρ S1) (fun y S2 => ∃ zs, addD (view S2 x) (view S2 y) = some (.lst zs) ∧ Q (.ref S2.length) (S2 ++ [some (.lst zs)])) E) E) : Wp (eCatM a b ρ S) Q E :=
  wp_bind (h.mono fun _ _ h => wp_bind (h.mono fun _ _ ⟨zs, e, q⟩ => by rw [e]; exact ⟨q⟩))
end
theorem vo_str {S : Sto} {i : Int} {Q : D → Prop} (h : i.natAbs.log2 < 1920) (q : Q (.str (toString i))) : Wo (strD (List.map (view S) [.int i])) Q := .of (if_pos h) q
end DL

/-! ## DMa -/
set_option Elab.async false
set_option linter.all false
set_option maxRecDepth 100000
set_option maxHeartbeats 4000000
namespace DL
open PySem PySem.Spec PyProof.Rows L2
/-! ### is True, is False -/
def isBD (a b : D) : Option D := match a, b with
  | .bl x, .bl y => some (.bl (x == y))
  | _, _ => none
def isntBD (a b : D) : Option D := match a, b with
  | .bl x, .bl y => some (.bl (!(x == y)))
  | _, _ => none
section
variable {X : Cx}
theorem og_isB : OpR X (compareOp .Is) (rG2 X.K isBD) := by
  intro pins s σ H x y v u Q I rx ry ⟨Fb, m, dx, dy, d, fr, vx, vy, e, k⟩
  unfold isBD at e
  split at e
  · cases e
    cases vx.asB
    cases vy.asB
    exact op_isBl pins s σ H _ _ v u Q I rx ry ⟨_, _, rfl, rfl, k H _ (Same.refl H) (.bl _)⟩
  · cases e
theorem og_isntB : OpR X (compareOp .IsNot) (rG2 X.K isntBD) := by
  intro pins s σ H x y v u Q I rx ry ⟨Fb, m, dx, dy, d, fr, vx, vy, e, k⟩
  unfold isntBD at e
  split at e
  · cases e
    cases vx.asB
    cases vy.asB
    exact op_notBl pins s σ H _ _ v u Q I rx ry ⟨_, _, rfl, rfl, k H _ (Same.refl H) (.bl _)⟩
  · cases e
end
section
variable {Q : D → Prop} {S : Sto} {a b : Bool}
theorem vo_is_tt (q : Q (.bl true)) : Wo (isBD (view S (.bl true)) (view S (.bl true))) Q := ⟨q⟩
theorem vo_isnt_tt (q : Q (.bl false)) : Wo (isntBD (view S (.bl true)) (view S (.bl true))) Q := ⟨q⟩
theorem vo_is_tf (q : Q (.bl false)) : Wo (isBD (view S (.bl true)) (view S (.bl false))) Q := ⟨q⟩
theorem vo_isnt_tf (q : Q (.bl true)) : Wo (isntBD (view S (.bl true)) (view S (.bl false))) Q := ⟨q⟩
theorem vo_is_ft (q : Q (.bl false)) : Wo (isBD (view S (.bl false)) (view S (.bl true))) Q := ⟨q⟩
theorem vo_isnt_ft (q : Q (.bl true)) : Wo (isntBD (view S (.bl false)) (view S (.bl true))) Q := ⟨q⟩
theorem vo_is_ff (q : Q (.bl true)) : Wo (isBD (view S (.bl false)) (view S (.bl false))) Q := ⟨q⟩
theorem vo_isnt_ff (q : Q (.bl false)) : Wo (isntBD (view S (.bl false)) (view S (.bl false))) Q := ⟨q⟩
theorem vo_isB (q : Q (.bl (a == b))) : Wo (isBD (view S (.bl a)) (view S (.bl b))) Q := ⟨q⟩
theorem vo_isntB (q : Q (.bl (!(a == b)))) : Wo (isntBD (view S (.bl a)) (view S (.bl b))) Q := ⟨q⟩
end
end DL

/-! ## DMb -/
set_option Elab.async false
set_option linter.all false
set_option maxRecDepth 100000
set_option maxHeartbeats 4000000
namespace DL
open PySem PySem.Spec PyProof.Rows L2
/-! ### {} -/
def eDNew : Ex := fun _ S => .ok (.ref S.length) (S ++ [some (.dic false [])])
/-! ### d.get(k), d.get(k, x) -/
def isDc : D → Bool
  | .dic false _ => true
  | _ => false
def getD2 (d k z : D) : Option D := match d with
  | .dic false kvs => (unK k).map fun kk => (valD kvs kk).getD z
  | _ => none
def eGet1 (o k : Ex) : Ex := fun ρ S => (o ρ S).bind fun d S => if isDc (view S d) = true then (k ρ S).bind fun y S => ans S (getD2 (view S d) y .non) else .bad
def eGet2 (o k x : Ex) : Ex := fun ρ S => (o ρ S).bind fun d S => if isDc (view S d) = true then (k ρ S).bind fun y S => (x ρ S).bind fun z S => ans S (getD2 (view S d) y z) else .bad
/-- a live dict: a key's thing, put there where it lacks -/
def popAtD (S : Sto) (d k : D) : Option (D × Sto) := match dicOf S d with
  | some (n, kvs) => match unK k with
    | some kk => match valD kvs kk with
      | some z => some (z, S.set n (some (.dic false (dropD kvs kk))))
      | none => none
    | none => none
  | none => none
def ePopD1 (o k : Ex) : Ex := fun ρ S => (o ρ S).bind fun d S => if (dicOf S d).isSome = true then (k ρ S).bind fun y S => match popAtD S d y with
  | some (z, S') => .ok z S'
  | none => .bad else .bad
section
variable {K : PySem.W.Frag} {mg : Str → Option Value} {B : Addr → Prop} {m m' : List Addr} {S S' : Sto} {H H' : Hp} {v vk : V} {d k : D}
theorem isDc_at (r : Rl K mg B m H S) (h : Rep K H (Fo B m S) m v d) (e : isDc (view S d) = true) : ∃ a, v = .ref a ∧ IsD H a := by
  have w := vw r h
  generalize hd : view S d = dd at e w
  cases dd with
  | dic t kvs =>
    cases t with
    | false =>
      obtain ⟨a, kv, rfl, h1, _, _⟩ := w.asD
      exact ⟨a, rfl, .inl ⟨kv, h1⟩⟩
    | true => simp [isDc] at e
  | _ => simp [isDc] at e
theorem getD2_ok {dd z w : D} {vz : V} {Fb : Addr → Prop} (vd : Vw K H Fb m v dd) (rk : Rep K H Fb m vk k) (rz : Rep K H Fb m vz z) (e : getD2 dd k z = some w) : ∃ a o, v = .ref a ∧ DGet H a vk o ∧ Rep K H Fb m (o.getD vz) w := by
  unfold getD2 at e
  split at e
  · rename_i kvs
    obtain ⟨kk, e1, rfl⟩ := Option.map_eq_some_iff.mp e
    obtain ⟨a, kv, rfl, h1, z1, q1⟩ := vd.asD
    refine ⟨a, _, rfl, .inl ⟨kv, kk, h1, rk.key e1, rfl⟩, ?_⟩
    rcases q1.val kk with ⟨v', d', e2, e3, r'⟩ | ⟨e2, e3⟩
    · rw [e2, e3]; exact r'
    · rw [e2, e3]; exact rz
  · cases e
theorem popAt_ok {z : D} (r : Rl K mg B m H S) (rd : Rep K H (Fo B m S) m v d) (rk : Rep K H (Fo B m S) m vk k) (e : popAtD S d k = some (z, S')) :
    ∃ a kv kk w, v = .ref a ∧ H a = some (.dK kv) ∧ vk = kV kk ∧ valV kv kk = some w ∧ Post K mg B m S H m S' (L2.upd H a (.dK (dropK kv kk))) ∧ Rep K (L2.upd H a (.dK (dropK kv kk))) (Fo B m S') m w z := by
  unfold popAtD at e
  cases e1 : dicOf S d with
  | none => rw [e1] at e; cases e
  | some nk =>
    obtain ⟨n, kvs⟩ := nk
    rw [e1] at e
    dsimp only at e
    cases e2 : unK k with
    | none => rw [e2] at e; cases e
    | some kk =>
      rw [e2] at e
      dsimp only at e
      cases e3 : valD kvs kk with
      | none => rw [e3] at e; cases e
      | some z' =>
        rw [e3] at e
        cases e
        obtain ⟨a, kv, rfl, h1, h2, h3, h4, h5⟩ := dicOf_some r e1 rd
        obtain ⟨w, e4, rw'⟩ := h5.some e3
        have po := Post.updD (n := n) (kws := dropD kvs kk) r h1 h2 (h5.drop kk) (Nat.le_trans (dropK_le kv kk) h4)
        exact ⟨a, kv, kk, w, rfl, h3, rk.key e2, e4, po, rw'.kp (po.kp r)⟩
end
section
variable {X : Cx} {W : WX} {o e f : Expr} {fo fe ff : Ex} {pos apos cpos tpos : Pos}
theorem ev_dnew : EV X W (.Dict [] [] pos) eDNew := by
  refine pe_imp pe_dnewK fun σ H Q ⟨B, m, ρ, S, r, re, f⟩ p hp => ?_
  exact f (m ++ [p]) _ _ (Post.new r hp (.dK (kv := []) upd_same (Nat.zero_le _) rfl .nil)) (rep_new r)
theorem m1_of {nm : Str} (h1 : attributeBase o nm X.env (eval o X.env) = eval o X.env := by rfl)
    (h2 : ((backTo cpos (starEach [e] X.env)).all (fun x => !x.1) && (backToKw cpos (keywordEach [] X.env)).all (fun x => x.1.isSome)
    && decide (([e] : List Expr).length + ([] : List Keyword).length + (if ([] : List Keyword).isEmpty then 0 else 1) < 30)) = true := by rfl) (h3 : (apos.endLine == cpos.line) = true := by rfl)
    (h4 : backTo cpos (starEach [e] X.env) = [(false, eval e X.env)] := by rfl) : M1 X o nm apos e cpos := ⟨h1, h2, h3, h4⟩
theorem m2_of {nm : Str} (h1 : attributeBase o nm X.env (eval o X.env) = eval o X.env := by rfl)
    (h2 : ((backTo cpos (starEach [e, f] X.env)).all (fun x => !x.1) && (backToKw cpos (keywordEach [] X.env)).all (fun x => x.1.isSome)
    && decide (([e, f] : List Expr).length + ([] : List Keyword).length + (if ([] : List Keyword).isEmpty then 0 else 1) < 30)) = true := by rfl) (h3 : (apos.endLine == cpos.line) = true := by rfl)
    (h4 : backTo cpos (starEach [e, f] X.env) = [(false, eval e X.env), (false, eval f X.env)] := by rfl) : M2 X o nm apos e f cpos := ⟨h1, h2, h3, h4⟩
theorem ev_get1 (hu : X.A.units + 64 < cLine) (ho : EV X W o fo) (he : EV X W e fe) (mm : M1 X o "get" apos e cpos) : EV X W (.Call (.Attribute o "get" apos) [e] [] cpos) (eGet1 fo fe) := by
  refine pe_imp (pe_dget1 (by omega) ho he mm) fun σ H Q h => ?_
  obtain ⟨B, m, ρ, S, r, re, f⟩ := up_one (g := fun d ρ S => if isDc (view S d) = true then (fe ρ S).bind fun y S => ans S (getD2 (view S d) y .non) else .bad) h
  refine ⟨B, m, ρ, S, r, re, f.mono fun x H1 => ?_⟩
  rintro ⟨B, m, ρ, S, d, r, re, rx, f⟩
  split at f
  · rename_i hd
    obtain ⟨a, rfl, hD⟩ := isDc_at r rx hd
    refine ⟨a, rfl, hD, B, m, ρ, S, r, re, fin.mono (fin.bind f) fun y H2 => ?_⟩
    rintro ⟨m2, S2, dy, p2, q2, f2⟩
    have rx2 := rx.kp (p2.kp r)
    cases e1 : getD2 (view S2 d) dy .non with
    | none => rw [e1] at f2; exact f2.elim
    | some w =>
      rw [e1] at f2
      obtain ⟨a', ov, ea, g, rw'⟩ := getD2_ok (vw p2.rl rx2) q2 .non e1
      cases ea
      exact ⟨ov, g, f2.ok p2.rl (Same.refl _) rw'⟩
  · exact f.elim
theorem ev_get2 (hu : X.A.units + 64 < cLine) (ho : EV X W o fo) (he : EV X W e fe) (hf : EV X W f ff) (mm : M2 X o "get" apos e f cpos) : EV X W (.Call (.Attribute o "get" apos) [e, f] [] cpos) (eGet2 fo fe ff) := by
  refine pe_imp (pe_dget2 (by omega) ho he hf mm) fun σ H Q h => ?_
  obtain ⟨B, m, ρ, S, r, re, f⟩ := up_one (g := fun d ρ S => if isDc (view S d) = true then (fe ρ S).bind fun y S => (ff ρ S).bind fun z S => ans S (getD2 (view S d) y z) else .bad) h
  refine ⟨B, m, ρ, S, r, re, f.mono fun x H1 => ?_⟩
  rintro ⟨B, m, ρ, S, d, r, re, rx, f⟩
  split at f
  · rename_i hd
    obtain ⟨a, rfl, hD⟩ := isDc_at r rx hd
    refine ⟨a, rfl, hD, B, m, ρ, S, r, re, fin.mono (fin.bind f) fun y H2 => ?_⟩
    rintro ⟨m2, S2, dy, p2, q2, f2⟩
    have re2 := re.kp (p2.kp r)
    refine ⟨B, m2, ρ, S2, p2.rl, re2, fin.mono (fin.bind f2) fun z H3 => ?_⟩
    rintro ⟨m3, S3, dz, p3, q3, f3⟩
    have rx3 := (rx.kp (p2.kp r)).kp (p3.kp p2.rl)
    have ry3 := q2.kp (p3.kp p2.rl)
    cases e1 : getD2 (view S3 d) dy dz with
    | none => rw [e1] at f3; exact f3.elim
    | some w =>
      rw [e1] at f3
      obtain ⟨a', ov, ea, g, rw'⟩ := getD2_ok (vw p3.rl rx3) ry3 q3 e1
      cases ea
      exact ⟨ov, g, f3.ok p3.rl (Same.refl _) rw'⟩
  · exact f.elim
theorem ev_popD1 (ho : EV X W o fo) (he : EV X W e fe) (mm : M1 X o "pop" apos e cpos) : EV X W (.Call (.Attribute o "pop" apos) [e] [] cpos) (ePopD1 fo fe) := by
  refine pe_imp (pe_dpop1 ho he mm) fun σ H Q h => ?_
  obtain ⟨B, m, ρ, S, r, re, f⟩ := up_one (g := fun d ρ S => if (dicOf S d).isSome = true then (fe ρ S).bind fun y S => match popAtD S d y with
    | some (z, S') => .ok z S'
    | none => .bad else .bad) h
  refine ⟨B, m, ρ, S, r, re, f.mono fun x H1 => ?_⟩
  rintro ⟨B, m, ρ, S, d, r, re, rx, f⟩
  cases e0 : dicOf S d with
  | none => rw [e0] at f; exact f.elim
  | some nk =>
    rw [e0] at f
    simp only [Option.isSome_some, if_true] at f
    obtain ⟨a, kv, rfl, h1, h2, h3, h4, h5⟩ := dicOf_some r e0 rx
    refine ⟨a, rfl, .inl ⟨kv, .inl h3⟩, B, m, ρ, S, r, re, fin.mono (fin.bind f) fun y H2 => ?_⟩
    rintro ⟨m2, S2, dy, p2, q2, f2⟩
    have rx2 := rx.kp (p2.kp r)
    cases e1 : popAtD S2 d dy with
    | none => rw [e1] at f2; exact f2.elim
    | some zS =>
      obtain ⟨z, S'⟩ := zS
      rw [e1] at f2
      obtain ⟨a', kv', kk, w, ea, g1, g2, g3, po, rw'⟩ := popAt_ok p2.rl rx2 q2 e1
      cases ea
      exact ⟨kv', kk, w, g1, g2, g3, f2 m2 _ w po rw'⟩
/-! ### d[k] op= e -/
def sAugIx (g : D → D → Option D) (o i e : Ex) : Sx := fun ρ S => (o ρ S).bindS ρ fun d S => (i ρ S).bindS ρ fun k S => match dgetD (view S d) k with
  | some x => (e ρ S).bindS ρ fun y S => match g (view S x) (view S y) with
    | some z => match putAtD S d k z with
      | some S' => .fl (.nx ρ) S'
      | none => .bad
    | none => .bad
  | none => .bad
theorem pget_dict (hu : X.A.units + 1 < cLine) : PGet X (fun x y H Q => ∃ a v, x = .ref a ∧ DGet H a y (some v) ∧ Q v H) := by
  intro pins s σ H x y o i Q I rx ry ⟨a, v, ex, g, q⟩
  subst ex
  obtain rfl : o = Value.ref a := rx
  exact d_getItem hu I g ry fun w' s3 I3 rw' => ⟨v, H, I3, rw', q⟩
theorem sv_augIx {op : Operator} {g : D → D → Option D} (hu : X.A.units + 64 < cLine) (ho : EV X W o fo) (hi : EV X W e fe) (he : EV X W f ff) (hp : OpR X (inplaceOp op) (rG2 X.K g))
    (ha : ∀ ov iv new, augStore e ov iv new = (do holding [new, ov, iv] (setItem ov iv new); release [new, ov, iv] []; pure .next) := by intros; rfl) : SV X W (.AugAssign (.Subscript o e tpos) op f pos) (sAugIx g fo fe ff) := by
  refine ps_imp (ps_augS ho hi (pget_dict (by omega)) he (tip := rG2 X.K g) (fun pins s σ H x y v u Q I r1 r2 h => hp pins s σ H x y v u Q I r1 r2 h) (set_dict (by omega)) ha) fun E σ H h => ?_
  obtain ⟨B, m, ρ, S, r, re, f⟩ := upS_one (g := fun d ρ S => (fe ρ S).bindS ρ fun k S => match dgetD (view S d) k with
    | some x => (ff ρ S).bindS ρ fun y S => match g (view S x) (view S y) with
      | some z => match putAtD S d k z with
        | some S' => .fl (.nx ρ) S'
        | none => .bad
      | none => .bad
    | none => .bad) h
  refine ⟨B, m, ρ, S, r, re, f.mono fun x H1 => ?_⟩
  rintro ⟨B, m, ρ, S, d, r, re, rx, f⟩
  refine ⟨B, m, ρ, S, r, re, fin.mono (fin.bindS re r f) fun y H2 => ?_⟩
  rintro ⟨m2, S2, dk, p2, q2, f2⟩
  have re2 := re.kp (p2.kp r)
  have rx2 := rx.kp (p2.kp r)
  cases e1 : dgetD (view S2 d) dk with
  | none => rw [e1] at f2; exact f2.elim
  | some w =>
    rw [e1] at f2
    dsimp only at f2
    obtain ⟨a, vw2, rfl, gg, rw'⟩ := dget_ok (vw p2.rl rx2) (.oth q2) e1
    refine ⟨a, vw2, rfl, gg, B, m2, ρ, S2, p2.rl, re2, fin.mono (fin.bindS re2 p2.rl f2) fun z H3 => ?_⟩
    rintro ⟨m3, S3, dz, p3, q3, f3⟩
    have kp3 := p3.kp p2.rl
    have re3 := re2.kp kp3
    have rx3 := rx2.kp kp3
    have rk3 := q2.kp kp3
    have rw3 := rw'.kp kp3
    cases e2 : g (view S3 w) (view S3 dz) with
    | none => rw [e2] at f3; exact f3.elim
    | some u =>
      rw [e2] at f3
      dsimp only at f3
      refine ⟨_, m3, _, _, u, fr_of p3.rl, vw p3.rl rw3, vw p3.rl q3, e2, fun H4 zz s q4 => ?_⟩
      have pg := Post.grow p3.rl s
      have kp4 := pg.kp p3.rl
      cases e3 : putAtD S3 d dk u with
      | none => rw [e3] at f3; exact f3.elim
      | some S' =>
        rw [e3] at f3
        obtain ⟨a', H5, ea, g5, po⟩ := putAt_ok pg.rl (rx3.kp kp4) (rk3.kp kp4) q4 e3
        cases ea
        exact ⟨a, H5, rfl, g5, f3 m3 H5 σ (pg.trans po) ((re3.kp kp4).kp (po.kp pg.rl))⟩
/-! ### d.values(), d.items() gone through -/
def iVals (e : Ex) : Ix := fun ρ S => (e ρ S).bind fun d S => match d with
  | .dic false kvs => .ok (kvs.map (·.2)) S
  | _ => .bad
def iItems (e : Ex) : Ix := fun ρ S => (e ρ S).bind fun d S => match d with
  | .dic false kvs => .ok (kvs.map fun p => .tup [p.1, p.2]) S
  | _ => .bad
theorem kr_get {K : PySem.W.Frag} {H : Hp} {Fb : Addr → Prop} {m : List Addr} {kv : List (Key × V)} {kvs : List (D × D)} (h : KR K H Fb m kv kvs) {i : Nat} {k : Key} {v : V} (e : kv[i]? = some (k, v)) : ∃ d, kvs[i]? = some (keyD k, d) ∧ Rep K H Fb m v d := by
  induction h generalizing i with
  | nil => simp at e
  | cons r h ih =>
    cases i with
    | zero => cases e; exact ⟨_, rfl, r⟩
    | succ i => exact ih e
theorem itr_vals {K : PySem.W.Frag} {H : Hp} {Fb : Addr → Prop} {m : List Addr} {a : Addr} {od : Obj} {kv : List (Key × V)} {kvs : List (D × D)} (h : H a = some (.frz od (.dK kv))) (q : KR K H Fb m kv kvs) : ItR K H Fb m (Itd a od kv) (kvs.map (·.2)) := by
  intro H2 F2 m2 p
  have h2 := p.fix _ (.frz od (.dK kv)) trivial h
  have hl := q.length
  have q2 := q.kp p
  refine ⟨fun i hi => ⟨⟨h2, by rw [List.length_map] at hi; omega⟩, fun x H3 y => ?_⟩, fun i hi => ⟨h2, by rw [List.length_map] at hi; omega⟩⟩
  obtain ⟨rfl, k, ek⟩ := y
  obtain ⟨d, ed, rd⟩ := kr_get q2 ek
  exact ⟨d, by rw [List.getElem?_map, ed]; rfl, Same.refl _, rd⟩
theorem itr_items {K : PySem.W.Frag} {H : Hp} {Fb : Addr → Prop} {m : List Addr} {a : Addr} {od : Obj} {kv : List (Key × V)} {kvs : List (D × D)} (h : H a = some (.frz od (.dK kv))) (q : KR K H Fb m kv kvs) : ItR K H Fb m (Iti a od kv) (kvs.map fun p => .tup [p.1, p.2]) := by
  intro H2 F2 m2 p
  have h2 := p.fix _ (.frz od (.dK kv)) trivial h
  have hl := q.length
  have q2 := q.kp p
  refine ⟨fun i hi => ⟨⟨h2, by rw [List.length_map] at hi; omega⟩, fun x H3 y => ?_⟩, fun i hi => ⟨h2, by rw [List.length_map] at hi; omega⟩⟩
  obtain ⟨T, k, v, ek, rfl, hT, rfl⟩ := y
  obtain ⟨d, ed, rd⟩ := kr_get q2 ek
  refine ⟨.tup [keyD k, d], by rw [List.getElem?_map, ed]; rfl, same_upd hT, .tup (.of upd_same) (by rw [sizeLine_eq]; simp) (.cons (rep_key k) (.cons (rd.kp (kp_same (same_upd hT))) .nil))⟩
theorem iv_vals {tg : Expr} (h : EV X W e fe) (hbase : attributeBase e "values" X.env (eval e X.env) = eval e X.env := by rfl) (hline : (apos.endLine == cpos.line) = true := by rfl) : IV X W tg (.Call (.Attribute e "values" apos) [] [] cpos) (iVals fe) := by
  refine pi_imp (pi_values h hbase hline) fun σ H Q h => ?_
  obtain ⟨B, m, ρ, S, r, re, f⟩ := upI_one (g := fun d ρ S => match d with | .dic false kvs => .ok (kvs.map (·.2)) S | _ => .bad) h
  refine ⟨B, m, ρ, S, r, re, f.mono fun x H1 => ?_⟩
  rintro ⟨B, m, ρ, S, dx, r, re, rx, f⟩
  split at f
  · cases rx with
    | dK h z e q =>
      obtain ⟨od, h⟩ := h
      exact ⟨_, od, _, rfl, h, f m H1 _ (Post.refl r) (itr_vals h (kr_of e q))⟩
  · exact f.elim
theorem iv_items {elts : List Expr} {kk : Nat} (h : EV X W e fe) (hbase : attributeBase e "items" X.env (eval e X.env) = eval e X.env := by rfl) (hline : (apos.endLine == cpos.line) = true := by rfl) : IV X W (.Tuple elts kk tpos) (.Call (.Attribute e "items" apos) [] [] cpos) (iItems fe) := by
  refine pi_imp (pi_items h hbase hline) fun σ H Q h => ?_
  obtain ⟨B, m, ρ, S, r, re, f⟩ := upI_one (g := fun d ρ S => match d with | .dic false kvs => .ok (kvs.map fun p => .tup [p.1, p.2]) S | _ => .bad) h
  refine ⟨B, m, ρ, S, r, re, f.mono fun x H1 => ?_⟩
  rintro ⟨B, m, ρ, S, dx, r, re, rx, f⟩
  split at f
  · cases rx with
    | dK h z e q =>
      obtain ⟨od, h⟩ := h
      exact ⟨_, od, _, rfl, h, f m H1 _ (Post.refl r) (itr_items h (kr_of e q))⟩
  · exact f.elim
/-! ### enumerate(list) -/
def iEnumX (e : Ex) : Ix := fun ρ S => (e ρ S).bind fun d S => match d with
  | .lst xs => .ok ((List.range xs.length).zip xs |>.map fun p => .tup [.int (p.1 : Nat), p.2]) S
  | _ => .bad
end
end DL

/-! ## DMc -/
set_option Elab.async false
set_option linter.all false
set_option maxRecDepth 100000
set_option maxHeartbeats 4000000
namespace DL
open PySem PySem.Spec PyProof.Rows L2
/-! ### sorted of ints -/
def isI (ns : List Int) : List Int := ns.mergeSort fun a b => decide (a ≤ b)
theorem isI_perm (ns : List Int) : (isI ns).Perm ns := List.mergeSort_perm _ _
theorem isI_pw (ns : List Int) : (isI ns).Pairwise (· ≤ ·) := by
  have := List.pairwise_mergeSort (le := fun a b : Int => decide (a ≤ b)) (fun a b c h1 h2 => by simp at *; omega) (fun a b => by simp; omega) ns
  exact this.imp fun h => of_decide_eq_true h
theorem isI_uniq {ns ms : List Int} (h : ms.Perm ns) (hs : ms.Pairwise (· ≤ ·)) : ms = isI ns :=
  List.Perm.eq_of_pairwise (fun a b _ _ h1 h2 => Int.le_antisymm h1 h2) hs (isI_pw ns) (h.trans (isI_perm ns).symm)
theorem isI_len (ns : List Int) : (isI ns).length = ns.length := (isI_perm ns).length_eq
def sortD : List D → Option D
  | [.lst xs] => (asIs xs).map fun ns => .lst ((isI ns).map .int)
  | [.dic false kvs] => if kvs.length < 64 then (asIs (kvs.map (·.1))).map fun ns => .lst ((isI ns).map .int) else none
  | _ => none
section
variable {X : Cx}
theorem cg_sorted (hc : X.calm = true) : CallR X (.builtin "sorted") (rGn X.K sortD) := by
  intro pins s σ H xs us Q I r ⟨Fb, m, ds, d, fr, vx, e, k⟩
  unfold sortD at e
  split at e
  · rename_i ys
    obtain ⟨ns, e1, rfl⟩ := Option.map_eq_some_iff.mp e
    obtain ⟨v, rfl, h⟩ := vx.one
    obtain ⟨a, vs, rfl, h1, z1, q1⟩ := h.asL
    have hv : vs = ns.map V.int := asIs_vals e1 q1
    subst hv
    refine cr_sortedI pins s σ H _ us Q I r ⟨a, ns, rfl, SqL.of h1, fun ns' p h2 h3 hp => ?_⟩
    have := isI_uniq h2 h3
    subst this
    refine k _ _ (same_upd hp) (.lst upd_same (fr p hp) ?_ (repA_ints _))
    have := q1.length
    have := isI_len ns
    simp only [List.length_map] at *
    omega
  · rename_i kvs
    split at e
    · rename_i h64
      obtain ⟨ns, e1, rfl⟩ := Option.map_eq_some_iff.mp e
      obtain ⟨v, rfl, h⟩ := vx.one
      obtain ⟨a, kv, rfl, h1, z1, q1⟩ := h.asD
      have hk := asIs_eq e1
      rw [q1.keys] at hk
      have hk2 : kv.map (·.1) = ns.map Sum.inl := by
        have : (kv.map (·.1)).map keyD = (ns.map Sum.inl).map keyD := by
          rw [List.map_map, List.map_map]
          exact hk
        exact (List.map_inj_right fun a b h => by cases a <;> cases b <;> simp [keyD] at h <;> simp [h]).mp this
      have hl : ns.length = kvs.length := by
        have := congrArg List.length hk
        simp only [List.length_map] at this
        rw [← this, q1.length]
      refine call_sortedDI hc pins s σ H _ us Q I r ⟨a, kv, ns, rfl, h1, hk2, by omega, fun ys p h2 h3 hp => ?_⟩
      have := isI_uniq h2 h3
      subst this
      refine k _ _ (same_upd hp) (.lst upd_same (fr p hp) ?_ (repA_ints _))
      have := isI_len ns
      simp only [List.length_map]
      rw [sizeLine_eq]
      omega
    · cases e
  · cases e
end
/-! ### order of data -/
def notNon : PyData → Bool
  | .none => false
  | _ => true
theorem notNon_ne {p : PyData} (h : notNon p = true) : p ≠ .none := by rintro rfl; cases h
def cmpP (x y : D) : Option (PyData × PyData) := (toP x).bind fun p => (toP y).bind fun q => if PySem.W.alike p q = true ∧ notNon p = true ∧ p.depth ≤ 40 then some (p, q) else none
def ltXD : D → D → Option D
  | .int i, .int j => some (.bl (decide (i < j)))
  | x, y => (cmpP x y).map fun z => .bl (PySem.W.dataLt z.1 z.2)
section
variable {X : Cx}
theorem cmpP_ok {x y : D} {z : PyData × PyData} (e : cmpP x y = some z) : toP x = some z.1 ∧ toP y = some z.2 ∧ PySem.W.alike z.1 z.2 = true ∧ z.1 ≠ .none ∧ z.1.depth ≤ 40 := by
  unfold cmpP at e
  cases e1 : toP x with
  | none => rw [e1] at e; cases e
  | some p =>
    cases e2 : toP y with
    | none => rw [e1, e2] at e; simp at e
    | some q =>
      rw [e1, e2] at e
      simp only [Option.bind] at e
      split at e
      · rename_i h
        cases e
        exact ⟨rfl, rfl, h.1, notNon_ne h.2.1, h.2.2⟩
      · cases e
theorem og_ltX (hu : X.A.units + 64 < cLine) : OpR X (compareOp .Lt) (rG2 X.K ltXD) := by
  intro pins s σ H x y v u Q I rx ry ⟨Fb, m, dx, dy, d, fr, vx, vy, e, k⟩
  unfold ltXD at e
  split at e
  · cases e
    cases vx.asI
    cases vy.asI
    exact op_lt pins s σ H _ _ v u Q I rx ry ⟨_, _, rfl, rfl, k H _ (Same.refl H) (.bl _)⟩
  · obtain ⟨z, e1, rfl⟩ := Option.map_eq_some_iff.mp e
    obtain ⟨h1, h2, h3, h4, h5⟩ := cmpP_ok e1
    obtain ⟨as, r1⟩ := Dp.reads I _ _ _ (vx.dp h1) rx
    obtain ⟨bs, r2⟩ := Dp.reads I _ _ _ (vy.dp h2) ry
    exact PySem.W.lt_data r1 r2 h3 h4 (by have := Nat.min_le_left z.1.depth z.2.depth; omega) ⟨.bl _, H, I, rfl, k H _ (Same.refl H) (.bl _)⟩
end
theorem lt_tup0 : PySem.W.dataLt (.tuple []) (.tuple []) = false := by rw [PySem.W.dataLt_tuple]; exact PyProof.Rows.lex_irrefl _
theorem lt_tupI (a b : Int) (xs ys : List PyData) : PySem.W.dataLt (.tuple (.int a :: xs)) (.tuple (.int b :: ys)) = (decide (a < b) || (decide (a = b) && PySem.W.dataLt (.tuple xs) (.tuple ys))) := by
  have ha : PySem.W.alike (.int a) (.int b) = true := by simp [PySem.W.alike]
  rw [PySem.W.dataLt_tuple, PySem.W.dataLt_tuple]
  by_cases h : a = b
  · subst h
    rw [PySem.W.dataLt_all_yes ha (by simp [PyData.eqv])]
    simp
  · rw [PySem.W.dataLt_all_no ha (by simp [PyData.eqv, h]), PySem.W.dataLt_int]
    simp [h]
/-! ### min of a list of data -/
mutual
def ofP : PyData → D
  | .none => .non
  | .bool b => .bl b
  | .int i => .int i
  | .str x => .str x
  | .list xs => .lst (ofPs xs)
  | .tuple xs => .tup (ofPs xs)
  | .dict _ => .non
def ofPs : List PyData → List D
  | [] => []
  | x :: xs => ofP x :: ofPs xs
end
mutual
theorem ofP_toP : ∀ {d : D} {p : PyData}, toP d = some p → ofP p = d
  | .non, _, e => by cases e; simp [ofP]
  | .bl b, _, e => by cases e; simp [ofP]
  | .int i, _, e => by cases e; simp [ofP]
  | .str x, _, e => by cases e; simp [ofP]
  | .tup xs, p, e => by
    cases e1 : toPs xs with
    | none => simp [toP, e1] at e
    | some ps => simp [toP, e1] at e; subst e; simp only [ofP]; rw [ofPs_toPs e1]
  | .lst xs, p, e => by
    cases e1 : toPs xs with
    | none => simp [toP, e1] at e
    | some ps => simp [toP, e1] at e; subst e; simp only [ofP]; rw [ofPs_toPs e1]
  | .dic _ _, _, e => by simp [toP] at e
  | .ref _, _, e => by simp [toP] at e
  | .raw _, _, e => by simp [toP] at e
  | .scr _, _, e => by simp [toP] at e
theorem ofPs_toPs : ∀ {ds : List D} {ps : List PyData}, toPs ds = some ps → ofPs ps = ds
  | [], ps, e => by cases e; simp [ofPs]
  | d :: ds, ps, e => by
    cases e1 : toP d with
    | none => simp [toPs, e1] at e
    | some p =>
      cases e2 : toPs ds with
      | none => simp [toPs, e1, e2] at e
      | some qs => simp [toPs, e1, e2] at e; subst e; simp only [ofPs]; rw [ofP_toP e1, ofPs_toPs e2]
end
theorem toPs_get : ∀ {ds : List D} {ps : List PyData}, toPs ds = some ps → ∀ {i : Nat} {d : D}, ds[i]? = some d → ∃ p, ps[i]? = some p ∧ toP d = some p
  | [], ps, e, i, d, h => by simp at h
  | x :: ds, ps, e, i, d, h => by
    cases e1 : toP x with
    | none => simp [toPs, e1] at e
    | some p =>
      cases e2 : toPs ds with
      | none => simp [toPs, e1, e2] at e
      | some qs =>
        simp [toPs, e1, e2] at e
        subst e
        cases i with
        | zero => cases h; exact ⟨p, rfl, e1⟩
        | succ i => exact toPs_get e2 (i := i) h
def alikeB (ps : List PyData) : Bool := ps.all fun p => ps.all (fun q => PySem.W.alike p q) && (match p with | .none => false | _ => true)
def minLD : List D → Option D
  | [.lst xs] => (toPs xs).bind fun ps => match ps with
    | p :: qs => if alikeB (p :: qs) = true ∧ PyData.depthAll (p :: qs) ≤ 40 then some (ofP (PySem.W.minD p qs)) else none
    | [] => none
  | _ => none
theorem alikeB_ok {ps : List PyData} (h : alikeB ps = true) : PySem.W.AlikeAll ps := by
  unfold alikeB at h
  rw [List.all_eq_true] at h
  refine ⟨fun x hx y hy => ?_, fun x hx => ?_⟩
  · have := h x hx
    simp only [Bool.and_eq_true, List.all_eq_true] at this
    exact this.1 y hy
  · have := h x hx
    rintro rfl
    simp at this
theorem minD_mem : ∀ (qs : List PyData) (p : PyData), PySem.W.minD p qs ∈ p :: qs
  | [], p => by simp [PySem.W.minD]
  | q :: qs, p => by
    have := minD_mem qs (if PySem.W.dataLt q p then q else p)
    have e : PySem.W.minD p (q :: qs) = PySem.W.minD (if PySem.W.dataLt q p then q else p) qs := rfl
    rw [e]
    rcases List.mem_cons.mp this with h | h
    · rw [h]; split <;> simp
    · simp [h]
section
variable {X : Cx}
theorem cg_minL (hc : X.calm = true) (hu : X.A.units + 64 < cLine) : CallR X (.builtin "min") (rGn X.K minLD) := by
  intro pins s σ H xs us Q I r ⟨Fb, m, ds, d, fr, vx, e, k⟩
  unfold minLD at e
  split at e
  · rename_i ys
    cases e0 : toPs ys with
    | none => rw [e0] at e; cases e
    | some ps =>
      rw [e0] at e
      simp only [Option.bind] at e
      split at e
      · rename_i p qs
        split at e
        · rename_i hh
          cases e
          obtain ⟨v, rfl, h⟩ := vx.one
          obtain ⟨a, vs, rfl, h1, z1, q1⟩ := h.asL
          obtain ⟨its, rv, hl, hz⟩ := I.list (SqL.of (K := X.K) h1)
          rw [Vals.ref1 r]
          obtain ⟨as, hr⟩ := Dp.readsAll I _ _ its (q1.dp e0) rv
          have hal := alikeB_ok hh.1
          refine PySem.W.min_list_data (I.ok.hd hc) hl.isList (by simpa using hr) hal (by have := hh.2; omega) fun i v h' tk bs hv rb hk => ?_
          have hv' : its[i]? = some v := by simpa using hv
          obtain ⟨w, ew, rw'⟩ : ∃ w, vs[i]? = some w ∧ RelV w v := by
            have hlen := rv.length
            have hi : i < vs.length := by rw [hlen]; exact (List.getElem?_eq_some_iff.mp hv').1
            obtain ⟨u, hu', ru⟩ := rv.get (List.getElem?_eq_getElem hi)
            rw [hv'] at hu'
            cases hu'
            exact ⟨_, List.getElem?_eq_getElem hi, ru⟩
          obtain ⟨dd, ed, rd⟩ := q1.getV ew
          obtain ⟨pp, ep, tp⟩ := toPs_get e0 ed
          have I' : Inv X pins σ H { s with heap := h', toks := tk } := I.kept hk
          obtain ⟨cs, r2⟩ := Dp.reads I' pp w v (rd.dp tp) rw'
          have hm : PySem.W.minD p qs ∈ p :: qs := minD_mem qs p
          have hpm : pp ∈ p :: qs := List.mem_of_getElem? ep
          have hq : pp = PySem.W.minD p qs := PySem.W.alike_unique _ _ _ _ _ (hal.1 _ hpm _ hm) r2 rb
          refine ⟨w, H, I', rw', k H w (Same.refl H) ?_⟩
          rw [← hq, ofP_toP tp]
          exact rd
        · cases e
      · cases e
  · cases e
end
end DL

/-! ## DMd -/
set_option Elab.async false
set_option linter.all false
set_option maxRecDepth 100000
set_option maxHeartbeats 4000000
namespace DL
open PySem PySem.Spec PyProof.Rows L2
/-! ### repr of data with dicts -/
mutual
inductive Dq (K : PySem.W.Frag) (H : Hp) : V → PyData → Prop
  | non : Dq K H .non .none
  | bl (b : Bool) : Dq K H (.bl b) (.bool b)
  | int (i : Int) : Dq K H (.int i) (.int i)
  | str (x : Str) : Dq K H (.str x) (.str x)
  | lst {a : Addr} {xs : List V} {ds : List PyData} : SqL K H a xs → DqAll K H xs ds → Dq K H (.ref a) (.list ds)
  | tup {a : Addr} {xs : List V} {ds : List PyData} : SqT K H a xs → DqAll K H xs ds → Dq K H (.ref a) (.tuple ds)
  | dic {a : Addr} {kv : List (Key × V)} {kvs : List (PyData × PyData)} : Rd H a (.dK kv) → DqAll K H (kv.map fun p => kV p.1) (kvs.map (·.1)) → DqAll K H (kv.map (·.2)) (kvs.map (·.2)) → Dq K H (.ref a) (.dict kvs)
inductive DqAll (K : PySem.W.Frag) (H : Hp) : List V → List PyData → Prop
  | nil : DqAll K H [] []
  | cons {v : V} {vs : List V} {d : PyData} {ds : List PyData} : Dq K H v d → DqAll K H vs ds → DqAll K H (v :: vs) (d :: ds)
end
/-- sys.modules stands in the written part -/
def sysB (K : PySem.W.Frag) : Bool := match K.lookup sysModules with
  | some ⟨.type c, _, _, _⟩ => decide (c = "dict")
  | _ => false
section
variable {X : Cx} {pins : List (Addr × Obj)} {σ : L2.St} {H : Hp} {s : Shared}
theorem sys_none (I : Inv X pins σ H s) (h : sysB X.K = true) : H sysModules = none ∧ ∃ o, s.heap.get? sysModules = some o ∧ o.cls = .type "dict" := by
  unfold sysB at h
  split at h
  · rename_i c d dt sl e
    have h1 := I.mod.kin _ _ e
    exact ⟨(I.bs _ _ h1).2, _, (I.bs _ _ h1).1, by rw [of_decide_eq_true h]⟩
  · cases h
theorem sys_list (I : Inv X pins σ H s) (h : sysB X.K = true) {a : Addr} {xs : List V} (q : SqL X.K H a xs) : sysModules ≠ a := by
  rintro rfl
  obtain ⟨h1, o, h2, h3⟩ := sys_none I h
  obtain ⟨its, rv, hl, hz⟩ := I.list q
  obtain ⟨o', n, e1, e2, _⟩ := hl
  rw [h2] at e1
  cases e1
  rw [h3] at e2
  injection e2 with e2
  exact absurd e2 (by decide)
mutual
theorem Dq.reads (I : Inv X pins σ H s) (hs : sysB X.K = true) : ∀ {v : V} {d : PyData} {u : Value}, Dq X.K H v d → RelV v u → ∃ as, Reads s.heap u d as ∧ sysModules ∉ as
  | _, _, _, .non, r => by cases r; exact ⟨_, .none, by simp⟩
  | _, _, _, .bl b, r => by cases r; exact ⟨_, .bool b, by simp⟩
  | _, _, _, .int i, r => by obtain ⟨t, rfl⟩ := r; exact ⟨_, .int i t, by simp⟩
  | _, _, _, .str x, r => by obtain ⟨t, rfl⟩ := r; exact ⟨_, .str x t, by simp⟩
  | _, _, _, .lst hq ha, r => by
    cases r
    obtain ⟨its, rv, ⟨o, n, ho, hc, _, hd⟩, _⟩ := I.list hq
    obtain ⟨as, hr, hn⟩ := DqAll.reads I hs ha rv
    refine ⟨_, Reads.list ho hc hd hr, ?_⟩
    simp only [List.mem_cons, not_or]
    exact ⟨sys_list I hs hq, hn⟩
  | _, _, _, .tup hq ha, r => by
    cases r
    obtain ⟨its, rv, ⟨o, ho, hc, n, hd⟩, _⟩ := I.tuple hq
    obtain ⟨as, hr, hn⟩ := DqAll.reads I hs ha rv
    exact ⟨_, Reads.tuple ho hc hd hr, hn⟩
  | _, _, _, .dic (a := a) (kv := kv) hq hk hv, r => by
    obtain rfl : _ = Value.ref a := r
    obtain ⟨z, hne, vs, rel, o, es, ep, h1, h2, h3, h4, h5, h6⟩ := dk_rd I.hok hq
    have r1 : Vals (kv.map fun p => kV p.1) (es.toList.map (·.key)) := by
      have : ∀ {kv : List (Key × V)} {vs : List (Key × Value)} {es : List DictEntry}, KV kv vs → Pairs (mixKind X.prog X.w) es vs → Vals (kv.map fun p => kV p.1) (es.map (·.key)) := by
        intro kv vs es a b
        induction a generalizing es with
        | nil => cases b; exact .nil
        | cons hp _ ih =>
          cases b with
          | cons b1 b2 b3 =>
            refine .cons ?_ (ih b3)
            show L2.RelV (kV _) _
            rw [hp.1]
            exact relV_key b1
      exact this rel h5
    have r2 : Vals (kv.map (·.2)) (es.toList.map (·.val)) := by
      have : ∀ {kv : List (Key × V)} {vs : List (Key × Value)} {es : List DictEntry}, KV kv vs → Pairs (mixKind X.prog X.w) es vs → Vals (kv.map (·.2)) (es.map (·.val)) := by
        intro kv vs es a b
        induction a generalizing es with
        | nil => cases b; exact .nil
        | cons hp _ ih =>
          cases b with
          | cons b1 b2 b3 =>
            refine .cons ?_ (ih b3)
            exact (congrArg (fun z => L2.RelV _ z) b2).mpr hp.2
      exact this rel h5
    obtain ⟨as, q1, n1⟩ := DqAll.reads I hs hk r1
    obtain ⟨bs, q2, n2⟩ := DqAll.reads I hs hv r2
    refine ⟨_, Reads.dict h1 h2.1 h3 q1 q2, ?_⟩
    simp only [List.cons_append, List.mem_cons, List.mem_append, not_or]
    exact ⟨fun e => by rw [← e] at hne; simp at hne, n1, n2⟩
theorem DqAll.reads (I : Inv X pins σ H s) (hs : sysB X.K = true) : ∀ {vs : List V} {ds : List PyData} {us : List Value}, DqAll X.K H vs ds → Vals vs us → ∃ as, ReadsAll s.heap us ds as ∧ sysModules ∉ as
  | _, _, _, .nil, r => by cases r; exact ⟨_, .nil, by simp⟩
  | _, _, _, .cons h1 h2, r => by
    cases r with
    | cons r1 r2 =>
      obtain ⟨as, q1, n1⟩ := Dq.reads I hs h1 r1
      obtain ⟨bs, q2, n2⟩ := DqAll.reads I hs h2 r2
      exact ⟨_, .cons q1 q2, by simp only [List.mem_append, not_or]; exact ⟨n1, n2⟩⟩
end
end
def keyP : D → Option PyData
  | .int i => some (.int i)
  | .str x => some (.str x)
  | _ => none
mutual
/-- as data, the places read by r -/
def toQr (r : Nat → Option PyData) : D → Option PyData
  | .non => some .none
  | .bl b => some (.bool b)
  | .int i => some (.int i)
  | .str x => some (.str x)
  | .tup xs => (toQrs r xs).map .tuple
  | .lst xs => (toQrs r xs).map .list
  | .dic false kvs => (toQrk r kvs).map .dict
  | .ref n => r n
  | _ => none
def toQrs (r : Nat → Option PyData) : List D → Option (List PyData)
  | [] => some []
  | d :: ds => match toQr r d, toQrs r ds with
    | some p, some ps => some (p :: ps)
    | _, _ => none
def toQrk (r : Nat → Option PyData) : List (D × D) → Option (List (PyData × PyData))
  | [] => some []
  | (k, d) :: ds => match keyP k, toQr r d, toQrk r ds with
    | some q, some p, some ps => some ((q, p) :: ps)
    | _, _, _ => none
end
def toQ0 : D → Option PyData := toQr fun _ => none
def rdQ (S : Sto) (n : Nat) : Option PyData := match S[n]? with
  | some (some (.lst xs)) => (toQrs (fun _ => none) xs).map .list
  | some (some (.dic false kvs)) => (toQrk (fun _ => none) kvs).map .dict
  | _ => none
def toQ (S : Sto) : D → Option PyData := toQr (rdQ S)
def reprQ (S : Sto) (d : D) : Option D := (toQ S d).bind fun p => if showsD p = true then some (.str p.shown) else none
def eReprQ (f : Ex) : Ex := fun ρ S => (f ρ S).bind fun d S => ans S (reprQ S d)
section
variable {K : PySem.W.Frag} {H : Hp} {Fb : Addr → Prop} {m : List Addr}
theorem key_dq {v : V} {d : D} {k : Key} {p : PyData} (e1 : d = keyD k) (e2 : keyP d = some p) : Dq K H (kV k) p := by
  subst e1
  cases k <;> cases e2
  · exact .int _
  · exact .str _
theorem keys_dq {r : Nat → Option PyData} : ∀ {kv : List (Key × V)} {kvs : List (D × D)} {ps : List (PyData × PyData)}, kvs.map (·.1) = kv.map (fun p => keyD p.1) → toQrk r kvs = some ps → DqAll K H (kv.map fun p => kV p.1) (ps.map (·.1))
  | [], [], ps, _, e => by simp [toQrk] at e; subst e; exact .nil
  | [], _ :: _, _, h, _ => by simp at h
  | _ :: _, [], _, h, _ => by simp at h
  | (k, v) :: kv, (x, d) :: kvs, ps, h, e => by
    simp only [List.map_cons, List.cons.injEq] at h
    cases e0 : keyP x with
    | none => simp [toQrk, e0] at e
    | some kp =>
      cases e1 : toQr r d with
      | none => simp [toQrk, e0, e1] at e
      | some p =>
        cases e2 : toQrk r kvs with
        | none => simp [toQrk, e0, e1, e2] at e
        | some ps' =>
          simp [toQrk, e0, e1, e2] at e
          subst e
          exact .cons (key_dq (v := v) h.1 e0) (keys_dq h.2 e2)
mutual
theorem Rep.dq {r : Nat → Option PyData} (hr : ∀ n v p, Rep K H Fb m v (.ref n) → r n = some p → Dq K H v p) : ∀ {v : V} {d : D} {p : PyData}, Rep K H Fb m v d → toQr r d = some p → Dq K H v p
  | _, _, _, .non, e => by simp [toQr] at e; subst e; exact .non
  | _, _, _, .bl b, e => by simp [toQr] at e; subst e; exact .bl b
  | _, _, _, .int i, e => by simp [toQr] at e; subst e; exact .int i
  | _, _, _, .str x, e => by simp [toQr] at e; subst e; exact .str x
  | _, _, _, .tup (ds := ds) h z q, e => by
    cases e1 : toQrs r ds with
    | none => simp [toQr, e1] at e
    | some ps => simp [toQr, e1] at e; subst e; exact .tup h (RepA.dq hr q e1)
  | _, _, _, .lst (ds := ds) h f z q, e => by
    cases e1 : toQrs r ds with
    | none => simp [toQr, e1] at e
    | some ps => simp [toQr, e1] at e; subst e; exact .lst (SqL.of h) (RepA.dq hr q e1)
  | _, _, _, .dK (kv := kv) (kvs := kvs) h z e0 q, e => by
    cases e1 : toQrk r kvs with
    | none => simp [toQr, e1] at e
    | some ps =>
      simp [toQr, e1] at e
      subst e
      have := RepA.dqk hr q kvs rfl e1
      exact .dic (.inr h) (keys_dq e0 e1) this
  | _, _, _, .dT h z q r', e => by simp [toQr] at e
  | _, _, _, .ref h, e => by simp only [toQr] at e; exact hr _ _ _ (.ref h) e
  | _, _, _, .raw v, e => by simp [toQr] at e
  | _, _, _, .scr h z, e => by simp [toQr] at e
theorem RepA.dq {r : Nat → Option PyData} (hr : ∀ n v p, Rep K H Fb m v (.ref n) → r n = some p → Dq K H v p) : ∀ {vs : List V} {ds : List D} {ps : List PyData}, RepA K H Fb m vs ds → toQrs r ds = some ps → DqAll K H vs ps
  | _, _, _, .nil, e => by simp [toQrs] at e; subst e; exact .nil
  | _, _, _, .cons (d := d) (ds := ds) h q, e => by
    cases e1 : toQr r d with
    | none => simp [toQrs, e1] at e
    | some p =>
      cases e2 : toQrs r ds with
      | none => simp [toQrs, e1, e2] at e
      | some ps => simp [toQrs, e1, e2] at e; subst e; exact .cons (Rep.dq hr h e1) (RepA.dq hr q e2)
theorem RepA.dqk {r : Nat → Option PyData} (hr : ∀ n v p, Rep K H Fb m v (.ref n) → r n = some p → Dq K H v p) : ∀ {vs : List V} {ds : List D}, RepA K H Fb m vs ds → ∀ (kvs : List (D × D)) {ps : List (PyData × PyData)}, ds = kvs.map (·.2) → toQrk r kvs = some ps → DqAll K H vs (ps.map (·.2))
  | _, _, .nil, kvs, ps, ed, e => by
    cases kvs with
    | nil => simp [toQrk] at e; subst e; exact .nil
    | cons _ _ => simp at ed
  | _, _, .cons (d := d) (ds := ds) h q, kvs, ps, ed, e => by
    cases kvs with
    | nil => simp at ed
    | cons kd kvs =>
      obtain ⟨k, d'⟩ := kd
      simp only [List.map_cons, List.cons.injEq] at ed
      obtain ⟨ed1, ed2⟩ := ed
      rw [toQrk, ← ed1] at e
      cases e0 : keyP k with
      | none => simp [e0] at e
      | some kp =>
        cases e1 : toQr r d with
        | none => simp [e0, e1] at e
        | some p =>
          cases e2 : toQrk r kvs with
          | none => simp [e0, e1, e2] at e
          | some ps' => simp [e0, e1, e2] at e; subst e; exact .cons (Rep.dq hr h e1) (RepA.dqk hr q kvs ed2 e2)
end
theorem rdQ_ok {mg : Str → Option Value} {B : Addr → Prop} {S : Sto} (rl : Rl K mg B m H S) : ∀ n v p, Rep K H (Fo B m S) m v (.ref n) → rdQ S n = some p → Dq K H v p := by
  intro n v p h e
  have h0 : ∀ n v p, Rep K H (Fo B m S) m v (.ref n) → (fun _ => none : Nat → Option PyData) n = some p → Dq K H v p := fun _ _ _ _ z => by cases z
  unfold rdQ at e
  cases h with
  | ref hn =>
    split at e
    · rename_i xs ex
      cases e1 : toQrs (fun _ => none) xs with
      | none => rw [e1] at e; cases e
      | some ps =>
        rw [e1] at e
        cases e
        cases rl.obj _ _ _ hn ex with
        | lst h z q => exact .lst (SqL.of h) (q.dq h0 e1)
    · rename_i kvs ex
      cases e1 : toQrk (fun _ => none) kvs with
      | none => rw [e1] at e; cases e
      | some ps =>
        rw [e1] at e
        cases e
        cases rl.obj _ _ _ hn ex with
        | dK h z e0 q => exact .dic (.inl h) (keys_dq e0 e1) (q.dqk h0 kvs rfl e1)
    · cases e
end
def rReprQ (K : PySem.W.Frag) : List V → Hp → VK → Prop := fun xs H Q => ∃ v p, xs = [v] ∧ Dq K H v p ∧ showsD p = true ∧ Q (.str p.shown) H
section
variable {X : Cx} {W : WX} {k : Nat}
theorem call_reprQ (hsy : sysB X.K = true) (hr : DL.Room k X.A) : CallR X (.builtin "repr") (rReprQ X.K) := by
  intro pins s σ H xs us Q I r ⟨v, p, e, hp, hs, q⟩
  subst e
  obtain ⟨u, rfl, rv⟩ := vals1 r
  have h1 := Bool.and_eq_true_iff.mp hs
  have h2 := Bool.and_eq_true_iff.mp h1.1
  have hd := of_decide_eq_true h2.2
  have hz := of_decide_eq_true h1.2
  have hz' : p.shown.length ≤ sizeLine := by rw [sizeLine_eq]; omega
  have hun := hr.r.un
  obtain ⟨as0, rd0, ns0⟩ := Dq.reads I hsy hp rv
  have big : ∀ a, u = .ref a → wpAny (model X.prog X.w) X.A (call (.builtin "repr") [u]) (EP X pins σ Q) X.xe s := by
    rintro a rfl
    exact repr_of_reads' rd0 h2.1 (fun _ => ns0) hr.g (by omega) (fun _ _ z => z) (fun h' t tk kp => ⟨.str p.shown, H, I.kept kp, ⟨_, rfl⟩, q⟩) hz'
  cases hp with
  | non =>
    cases rv
    exact PySem.P.repr_of_none ⟨.str "None", H, I.tok _, ⟨_, rfl⟩, q⟩
  | bl b =>
    cases rv
    exact PySem.P.repr_of_bool ⟨.str _, H, I.tok _, ⟨_, rfl⟩, q⟩
  | int i =>
    obtain ⟨t, rfl⟩ := rv
    exact PySem.P.repr_of_int (by simpa [PyData.showable] using h2.1) ⟨.str _, H, I.tok _, ⟨_, rfl⟩, q⟩
  | str x =>
    obtain ⟨t, rfl⟩ := rv
    exact PySem.P.repr_of_str (hsz := hz') ⟨.str _, H, I.tok _, ⟨_, rfl⟩, q⟩
  | lst _ _ => exact big _ rv
  | tup _ _ => exact big _ rv
  | dic _ _ _ => exact big _ rv
theorem ev_reprQ {e : Expr} {fe : Ex} {p pos : Pos} (hsy : sysB X.K = true) (hr : DL.Room k X.A) (hg : Gl X "repr") (hm : X.mg "repr" = none) (he : EV X W e fe) (hv : bootBuiltins "repr" = some (.builtin "repr") := by decide +kernel)
    (hs : starEach [e] X.env = (false, eval e X.env) :: starEach [] X.env := by rfl) (hpl : (backTo pos (starEach [] X.env)).any (·.1) = false := by rfl) : EV X W (.Call (.Name "repr" p) [e] [] pos) (eReprQ fe) := by
  refine pe_imp (pe_callB (call_reprQ hsy hr) hg hm hv (pa_cons he pa_nil hs) (by decide) (by decide) hs hpl) fun σ H Q h => ?_
  obtain ⟨B, m, ρ, S, r, re, f⟩ := up_one (g := fun x ρ S => ans S (reprQ S x)) h
  refine ⟨B, m, ρ, S, r, re, f.mono fun v H1 => ?_⟩
  rintro ⟨B, m, ρ, S, dx, r, re, rx, f⟩
  cases e1 : toQ S dx with
  | none => simp [reprQ, e1] at f; exact f.elim
  | some p =>
    by_cases hs : showsD p = true
    · simp only [reprQ, e1, Option.bind, hs, if_true] at f
      exact ⟨v, p, rfl, Rep.dq (rdQ_ok r) rx e1, hs, f m H1 _ (Post.refl r) (.str _)⟩
    · simp only [reprQ, e1, Option.bind, if_neg hs] at f
      exact f.elim
end
/-! ### small data, as data -/
mutual
def smP : PyData → Bool
  | .none => true
  | .bool _ => true
  | .int i => decide (i.natAbs < 10 ^ 50)
  | .str x => decide ((reprText x).length ≤ 14)
  | .tuple xs => smPs xs
  | .list xs => smPs xs
  | .dict kvs => smPk kvs
def smPs : List PyData → Bool
  | [] => true
  | d :: ds => smP d && smPs ds
def smPk : List (PyData × PyData) → Bool
  | [] => true
  | (k, d) :: ds => smP k && smP d && smPk ds
end
mutual
def wtP : PyData → Nat
  | .tuple xs => 1 + wtPs xs
  | .list xs => 1 + wtPs xs
  | .dict kvs => 1 + wtPk kvs
  | _ => 1
def wtPs : List PyData → Nat
  | [] => 0
  | d :: ds => wtP d + wtPs ds
def wtPk : List (PyData × PyData) → Nat
  | [] => 0
  | (k, d) :: ds => wtP k + wtP d + wtPk ds
end
mutual
theorem small_P : ∀ p : PyData, smP p = true → p.showable = true ∧ p.depth ≤ wtP p ∧ p.shown.length + 2 ≤ 64 * wtP p
  | .none, _ => ⟨by simp [PyData.showable], by simp [PyData.depth, wtP], by simp only [PyData.shown, wtP]; decide⟩
  | .bool b, _ => ⟨by simp [PyData.showable], by simp [PyData.depth, wtP], by cases b <;> simp only [PyData.shown, wtP] <;> decide⟩
  | .int i, h => by
    have hi : i.natAbs < 10 ^ 50 := of_decide_eq_true h
    refine ⟨?_, by simp [PyData.depth, wtP], ?_⟩
    · simp only [PyData.showable]
      exact decide_eq_true (log2_small hi)
    · have h3 := int_text_length_le10 (k := 50) (by decide) hi
      have h4 : (PyData.shown (.int i)).length = (toString i).length := by
        show (Str.ofString (toString i)).length = _
        rw [PySem.ofString_length]
      simp only [wtP]
      omega
  | .str x, h => by
    have hx : (reprText x).length ≤ 14 := of_decide_eq_true h
    refine ⟨by simp [PyData.showable], by simp [PyData.depth, wtP], ?_⟩
    simp only [PyData.shown, wtP]
    omega
  | .tuple ps, h => by
    obtain ⟨h1, h2, h3⟩ := small_Ps ps h
    have := tupleText_len_le (PyData.shownAll ps)
    have hl := PyData.shownAll_length ps
    refine ⟨by simpa [PyData.showable] using h1, by simp only [PyData.depth, wtP]; omega, ?_⟩
    simp only [PyData.shown, wtP]
    omega
  | .list ps, h => by
    obtain ⟨h1, h2, h3⟩ := small_Ps ps h
    have := listText_len_le (PyData.shownAll ps)
    have hl := PyData.shownAll_length ps
    refine ⟨by simpa [PyData.showable] using h1, by simp only [PyData.depth, wtP]; omega, ?_⟩
    simp only [PyData.shown, wtP]
    omega
  | .dict ps, h => by
    obtain ⟨h1, h2, h3⟩ := small_Pk ps h
    have := dictText_len_le (PyData.shownKv ps)
    refine ⟨by simpa [PyData.showable] using h1, by simp only [PyData.depth, wtP]; omega, ?_⟩
    simp only [PyData.shown, wtP]
    omega
theorem small_Ps : ∀ ps : List PyData, smPs ps = true → PyData.showableAll ps = true ∧ PyData.depthAll ps ≤ wtPs ps ∧ ((PyData.shownAll ps).map (·.length)).sum + 2 * ps.length ≤ 64 * wtPs ps
  | [], _ => ⟨by simp [PyData.showableAll], by simp [PyData.depthAll, wtPs], by simp [PyData.shownAll, wtPs]⟩
  | p :: ps, h => by
    simp only [smPs, Bool.and_eq_true] at h
    obtain ⟨a1, a2, a3⟩ := small_P p h.1
    obtain ⟨b1, b2, b3⟩ := small_Ps ps h.2
    refine ⟨by simp [PyData.showableAll, a1, b1], by simp only [PyData.depthAll, wtPs]; omega, ?_⟩
    simp only [PyData.shownAll, List.map_cons, List.sum_cons, List.length_cons, wtPs]
    omega
theorem small_Pk : ∀ ps : List (PyData × PyData), smPk ps = true → PyData.showableKv ps = true ∧ PyData.depthKv ps ≤ wtPk ps ∧ ((PyData.shownKv ps).map (·.length)).sum + 2 * (PyData.shownKv ps).length ≤ 64 * wtPk ps
  | [], _ => ⟨by simp [PyData.showableKv], by simp [PyData.depthKv, wtPk], by simp [PyData.shownKv, wtPk]⟩
  | (k, p) :: ps, h => by
    simp only [smPk, Bool.and_eq_true] at h
    obtain ⟨a1, a2, a3⟩ := small_P k h.1.1
    obtain ⟨c1, c2, c3⟩ := small_P p h.1.2
    obtain ⟨b1, b2, b3⟩ := small_Pk ps h.2
    refine ⟨by simp [PyData.showableKv, a1, c1, b1], by simp only [PyData.depthKv, wtPk]; omega, ?_⟩
    simp only [PyData.shownKv, List.map_cons, List.sum_cons, List.length_cons, wtPk]
    have e : (PyData.shown k ++ ": " ++ PyData.shown p).length = (PyData.shown k).length + 2 + (PyData.shown p).length := by
      rw [strLen_append, strLen_append]; rfl
    omega
end
theorem rep_smallQ {S : Sto} {d : D} {p : PyData} (e : toQ S d = some p) (h : smP p = true) (hw : wtP p ≤ 200000) (hd : p.depth ≤ 40) : reprQ S d = some (.str p.shown) := by
  obtain ⟨h1, h2, h3⟩ := small_P p h
  have hs : showsD p = true := by
    unfold showsD
    rw [h1, decide_eq_true (show p.depth ≤ 40 by omega), decide_eq_true (show p.shown.length ≤ 16000000 by omega)]
    rfl
  simp only [reprQ, e, Option.bind, hs, if_true]
end DL

/-! ## DMe -/
set_option Elab.async false
set_option linter.all false
set_option maxRecDepth 100000
set_option maxHeartbeats 4000000
namespace DL
open PySem PySem.Spec PyProof.Rows L2
/-! ### dict comprehensions -/
def compD (t : Tg) (tt : Tx) (k e : Ex) (vs : List Nat) : List D → Ev → Sto → List (D × D) → R (List (D × D))
  | [], _, S, acc => .ok acc S
  | d :: ds, ρ, S, acc => match t.put d (wipeD ρ vs) with
    | none => .bad
    | some ρ1 => (tt ρ1 S).nox.bind fun b S => if b = true then (k ρ1 S).nox.bind fun x S => (e ρ1 S).nox.bind fun y S => match unK x with
      | some kk => if acc.length < sizeLine then compD t tt k e vs ds ρ S (putD acc kk y) else .bad
      | none => .bad
      else compD t tt k e vs ds ρ S acc
def eDcM (it : Ix) (t : Tg) (tt : Tx) (k e : Ex) (vs : List Nat) : Ex := fun ρ S => (it ρ S).bind fun xs S => (compD t tt k e vs xs ρ S []).bind fun acc S => .ok (.ref S.length) (S ++ [some (.dic false acc)])
section
variable {K : PySem.W.Frag} {mg : Str → Option Value} {B : Addr → Prop} {m m' m1 m2 : List Addr} {S S' S1 S2 : Sto} {H H' H1 H2 : Hp}
theorem kp_writeD {Fb : Addr → Prop} {D : Addr} {u o : HO} (hD : H D = some u) (hn : ¬ Fixd u) (hF : Fb D) : Kp H (upd H D o) Fb Fb m m := by
  have ne : ∀ a, ¬ Fb a → a ≠ D := fun a f e => f (e ▸ hF)
  refine ⟨fun a xs h f => by rw [upd_ne (ne a f)]; exact h, fun a u h f => ?_, fun a o f h => ?_, fun _ _ _ f => f, fun _ _ h => h⟩
  · unfold Rd; rw [upd_ne (ne a f)]; exact h
  · have : a ≠ D := by
      rintro rfl
      rw [hD] at h
      cases h
      exact hn f
    rw [upd_ne this]; exact h
theorem Rl.writeD {D : Addr} {u o : HO} (r : Rl K mg (BD B D) m H S) (hD : H D = some u) (hn : ¬ Fixd u) : Rl K mg (BD B D) m (upd H D o) S := by
  have kp : Kp H (upd H D o) (Fo (BD B D) m S) (Fo (BD B D) m S) m m := kp_writeD hD hn (.inl (.inr rfl))
  have nD : ∀ a, Liv m S a → a ≠ D := fun a h e => r.nb a h (.inr e)
  have sm : ∀ a, H a ≠ none → upd H D o a ≠ none := fun a h => by
    by_cases e : a = D
    · subst e; rw [upd_same]; simp
    · rw [upd_ne e]; exact h
  refine ⟨r.len, r.nod, r.nb, fun a h => sm a (r.bt a h), fun a h => sm a (r.mt a h), fun n a u e1 e2 => ?_⟩
  have na : a ≠ D := nD a ⟨n, u, e1, e2⟩
  cases r.obj n a u e1 e2 with
  | lst h z q => exact .lst (by rw [upd_ne na]; exact h) z (q.kp kp)
  | dK h z e q => exact .dK (by rw [upd_ne na]; exact h) z e (q.kp kp)
  | dT h z e q => exact .dT (by rw [upd_ne na]; exact h) z e (q.kp kp)
  | ins g h e q => exact .ins g (by rw [upd_ne na]; exact h) e (q.kp kp)
theorem Rl.adoptD {D : Addr} {kv : List (Key × V)} {kvs : List (DL.D × DL.D)} (r : Rl K mg (BD B D) m H S) (nB : ¬ B D) (nD : D ∉ m) (hD : H D = some (.dK kv)) (q : KR K H (Fo (BD B D) m S) m kv kvs) (hz : kv.length ≤ sizeLine) :
    Rl K mg B (m ++ [D]) H (S ++ [some (.dic false kvs)]) := by
  have kp := kp_adopt (B := B) (D := D) (H := H) (o := .dic false kvs) r.len
  refine ⟨by simp [r.len], ?_, fun a h z => ?_, fun a h => r.bt a (.inl h), fun a h => ?_, fun n a u e1 e2 => ?_⟩
  · refine List.nodup_append.mpr ⟨r.nod, by simp, fun a h1 b h2 e => ?_⟩
    simp at h2
    subst h2
    subst e
    exact nD h1
  · rcases liv_app r.len h with h | ⟨h, _⟩
    · exact r.nb a h (.inl z)
    · exact nB (h ▸ z)
  · rcases List.mem_append.mp h with h | h
    · exact r.mt a h
    · simp at h
      subst h
      rw [hD]; simp
  · by_cases hn : n < m.length
    · rw [List.getElem?_append_left hn] at e1
      rw [List.getElem?_append_left (by rw [← r.len]; exact hn)] at e2
      cases r.obj n a u e1 e2 with
      | lst h z q => exact .lst h z (q.kp kp)
      | dK h z e q => exact .dK h z e (q.kp kp)
      | dT h z e q => exact .dT h z e (q.kp kp)
      | ins g h e q => exact .ins g h e (q.kp kp)
    · rw [List.getElem?_append_right (by omega)] at e1
      have hl := r.len
      rw [List.getElem?_append_right (by omega)] at e2
      have hz' : n - m.length = 0 := by
        have := (List.getElem?_eq_some_iff.mp e1).1
        simp at this
        omega
      rw [hz'] at e1
      rw [show n - S.length = 0 by omega] at e2
      simp at e1 e2
      subst e1 e2
      exact .dK hD hz q.keys (q.vals.kp kp)
end
section
variable {X : Cx} {W : WX} {tg iter ke elt : Expr} {ifs : List Expr} {fi : Ix} {t : Tg} {tt : Tx} {fk fe : Ex} {scope : Scope} {own : List (Str × Nat)} {pos : Pos}
theorem dc_of {K : PySem.W.Frag} {mg : Str → Option Value} {σ : L2.St} {H : Hp} {Q : VK} {vs : List Nat} {Fin : List (D × D) → Sto → R D} (hv : ∀ i ∈ t.sl, i ∈ vs) (h : up K mg W (fun ρ S => (fi ρ S).bind fun xs S => (compD t tt fk fe vs xs ρ S []).bind Fin) σ H Q)
    (hf : ∀ B m1 S1 H1 m2 S2 H2 D acc ds, Rl K mg B m1 H1 S1 → H1 D = none → Pc m1 S1 H1 m2 S2 H2 → Rl K mg (BD B D) m2 H2 S2 → H2 D = some (.dK acc) → KR K H2 (Fo (BD B D) m2 S2) m2 acc ds → acc.length ≤ sizeLine → D ∉ m2 → fin K mg W B m1 S1 σ H1 (Fin ds S2) Q → Q (.ref D) H2) :
    tDc (upI K mg W fi) (Tg.rd K t) (upT K mg W0 tt) (up K mg W0 fk) (up K mg W0 fe) vs σ H Q := by
  obtain ⟨B, m, ρ, S, r, re, f⟩ := h
  refine ⟨B, m, ρ, S, r, re, finI.mono (finI.bind f) fun J H1 => ?_⟩
  rintro ⟨m1, S1, xs, p1, itr, f1⟩ D hD
  have re1 := re.kp (p1.kp r)
  have k0 := kp_aside (B := B) (m := m1) (S := S1) (o := .dK []) hD
  refine ⟨fun i n H => n = xs.length - i ∧ i ≤ xs.length ∧ ∃ m2 S2 acc ds, Pc m1 S1 H1 m2 S2 H ∧ Kp H1 H (Fo B m1 S1) (Fo (BD B D) m2 S2) m1 m2 ∧ Rl K mg (BD B D) m2 H S2 ∧ H D = some (.dK acc) ∧ KR K H (Fo (BD B D) m2 S2) m2 acc ds ∧ acc.length ≤ sizeLine ∧ D ∉ m2 ∧
      fin K mg W B m1 S1 σ H1 ((compD t tt fk fe vs (xs.drop i) ρ S2 ds).bind Fin) Q,
    ⟨xs.length, by simp, Nat.zero_le _, m1, S1, [], [], (Post.refl p1.rl).pc.over hD, k0, p1.rl.aside hD, upd_same, .nil, by simp, fun z => p1.rl.mt D z hD, by simpa using f1⟩, ?_⟩
  rintro i n H2 ⟨rfl, hi, m2, S2, acc, ds, pc, kp, rl, hacc, qa, za, nD, f2⟩
  obtain ⟨go, stop⟩ := itr H2 _ m2 kp
  by_cases hlt : i < xs.length
  · right
    refine ⟨(go i hlt).1, fun H' => ∃ m3 S3 acc ds, Pc m1 S1 H1 m3 S3 H' ∧ Kp H1 H' (Fo B m1 S1) (Fo (BD B D) m3 S3) m1 m3 ∧ Rl K mg (BD B D) m3 H' S3 ∧ H' D = some (.dK acc) ∧ KR K H' (Fo (BD B D) m3 S3) m3 acc ds ∧ acc.length ≤ sizeLine ∧ D ∉ m3 ∧
      fin K mg W B m1 S1 σ H1 ((compD t tt fk fe vs (xs.drop (i + 1)) ρ S3 ds).bind Fin) Q, ?_, ?_⟩
    · rintro H' ⟨m3, S3, acc3, ds3, h3⟩
      exact ⟨_, by omega, rfl, hlt, m3, S3, acc3, ds3, h3⟩
    · intro x H3 y
      obtain ⟨d, ed, sm, rx⟩ := (go i hlt).2 x H3 y
      have p3 : Post K mg (BD B D) m2 S2 H2 m2 S2 H3 := Post.grow rl sm
      have kp3 := kp.trans (p3.kp rl)
      have ed' : xs[i] = d := by
        have := List.getElem?_eq_getElem hlt
        rw [this] at ed
        exact Option.some.inj ed
      rw [List.drop_eq_getElem_cons hlt, ed'] at f2
      unfold compD at f2
      cases e1 : t.put d (wipeD ρ vs) with
      | none => rw [e1] at f2; exact f2.elim
      | some ρ4 =>
        rw [e1] at f2
        dsimp only at f2
        refine Tg.rd_okP (A := fun σ' => L2.wipe σ' vs = L2.wipe σ vs) t (fun σ i v h1 h2 => by rw [wipe_set (hv i h1)]; exact h2) e1 rx ((re1.kp kp3).wipe vs) ?_ fun σ4 re4 a4 => ⟨a4, BD B D, m2, ρ4, S2, p3.rl, re4, ?_⟩
        · apply List.ext_getElem?
          intro j
          rw [wipe_get, wipe_get, wipe_length]
          by_cases h1 : j ∈ vs ∧ j < σ.length
          · simp [h1]
          · simp [h1]
        · -- the test
          rcases R.nox_ok (r := tt ρ4 S2) (g := fun b S => if b = true then (fk ρ4 S).nox.bind fun x S => (fe ρ4 S).nox.bind fun y S => match unK x with
            | some kk => if ds.length < sizeLine then compD t tt fk fe vs (xs.drop (i + 1)) ρ S (putD ds kk y) else .bad
            | none => .bad
            else compD t tt fk fe vs (xs.drop (i + 1)) ρ S ds) with ⟨b, S5, e5, e6⟩ | e6
          · rw [e6] at f2
            rw [e5]
            intro m5 H5 p5
            have kp5 := kp3.trans (p5.kp p3.rl)
            have pc5 : Pc m1 S1 H1 m5 S5 H5 := (pc.trans p3.pc).trans p5.pc
            have hacc3 := p3.keep _ _ hacc fun z => rl.nb _ z (.inr rfl)
            have hacc5 : H5 D = some (.dK acc) := p5.keep _ _ hacc3 fun z => p3.rl.nb _ z (.inr rfl)
            have qa5 := (qa.kp (p3.kp rl)).kp (p5.kp p3.rl)
            have nD5 : D ∉ m5 := notin_ext nD p5.ext hacc3
            cases b with
            | false =>
              rw [if_neg Bool.false_ne_true] at f2 ⊢
              exact ⟨m5, S5, acc, ds, pc5, kp5, p5.rl, hacc5, qa5, za, nD5, f2⟩
            | true =>
              rw [if_pos rfl] at f2 ⊢
              have re5 := re4.kp (p5.kp p3.rl)
              rcases R.nox_ok (r := fk ρ4 S5) (g := fun x S => (fe ρ4 S).nox.bind fun y S => match unK x with
                | some kk => if ds.length < sizeLine then compD t tt fk fe vs (xs.drop (i + 1)) ρ S (putD ds kk y) else .bad
                | none => .bad) with ⟨xk, S6, e7, e8⟩ | e8
              · rw [e8] at f2
                refine ⟨BD B D, m5, ρ4, S5, p5.rl, re5, ?_⟩
                rw [e7]
                intro m6 H6 v6 p6 rv6
                have hacc6 : H6 D = some (.dK acc) := p6.keep _ _ hacc5 fun z => p5.rl.nb _ z (.inr rfl)
                rcases R.nox_ok (r := fe ρ4 S6) (g := fun y S => match unK xk with
                  | some kk => if ds.length < sizeLine then compD t tt fk fe vs (xs.drop (i + 1)) ρ S (putD ds kk y) else .bad
                  | none => .bad) with ⟨y, S7, e9, e10⟩ | e10
                · rw [e10] at f2
                  refine ⟨BD B D, m6, ρ4, S6, p6.rl, re5.kp (p6.kp p5.rl), ?_⟩
                  rw [e9]
                  intro m7 H7 v7 p7 rv7
                  have hacc7 : H7 D = some (.dK acc) := p7.keep _ _ hacc6 fun z => p6.rl.nb _ z (.inr rfl)
                  cases ek : unK xk with
                  | none => rw [ek] at f2; exact f2.elim
                  | some kk =>
                    rw [ek] at f2
                    dsimp only at f2
                    split at f2
                    · rename_i hz
                      have hl : acc.length = ds.length := qa.length
                      have qa7 := (qa5.kp (p6.kp p5.rl)).kp (p7.kp p6.rl)
                      have nw : ¬ Fixd (.dK acc) := fun z => z
                      have hF : Fo (BD B D) m7 S7 D := .inl (.inr rfl)
                      refine ⟨acc, kk, rv6.key ek, hacc7, by rw [hl]; exact hz, m7, S7, putK acc kk v7, putD ds kk y, ((pc5.trans p6.pc).trans p7.pc).over hD, ((kp5.trans (p6.kp p5.rl)).trans (p7.kp p6.rl)).trans (kp_writeD hacc7 nw hF), p7.rl.writeD hacc7 nw, upd_same, ?_, ?_, notin_ext (notin_ext nD5 p6.ext hacc5) p7.ext hacc6, f2⟩
                      · exact (qa7.put kk rv7).kp (kp_writeD hacc7 nw hF)
                      · have := length_putK acc kk v7; omega
                    · exact f2.elim
                · rw [e10] at f2; exact f2.elim
              · rw [e8] at f2; exact f2.elim
          · rw [e6] at f2; exact f2.elim
  · left
    have hd : xs.drop i = [] := List.drop_eq_nil_of_le (by omega)
    rw [hd] at f2
    exact ⟨stop i (by omega), hf B m1 S1 H1 m2 S2 H2 D acc ds p1.rl hD pc rl hacc qa za nD f2⟩
theorem dcM_fin {K : PySem.W.Frag} {mg : Str → Option Value} {σ : L2.St} {Q : VK} (B : Addr → Prop) (m1 : List Addr) (S1 : Sto) (H1 : Hp) (m2 : List Addr) (S2 : Sto) (H2 : Hp) (D : Addr) (acc : List (Key × V)) (ds : List (DL.D × DL.D)) (r1 : Rl K mg B m1 H1 S1) (hD : H1 D = none) (pc : Pc m1 S1 H1 m2 S2 H2) (rl : Rl K mg (BD B D) m2 H2 S2) (hacc : H2 D = some (.dK acc))
    (qa : KR K H2 (Fo (BD B D) m2 S2) m2 acc ds) (za : acc.length ≤ sizeLine) (nD : D ∉ m2) (f : fin K mg W B m1 S1 σ H1 (.ok (.ref S2.length) (S2 ++ [some (.dic false ds)])) Q) : Q (.ref D) H2 := by
  have nB : ¬ B D := fun z => r1.bt D z hD
  have rl2 := rl.adoptD nB nD hacc qa za
  refine f (m2 ++ [D]) H2 _ (post_of_pc ⟨?_, pc.keep, pc.smm, fun a h => ?_⟩ rl2) (.ref (by rw [List.getElem?_append_right (by rw [rl.len]; exact Nat.le_refl _), rl.len]; simp))
  · obtain ⟨l, e, fr⟩ := pc.ext
    refine ⟨l ++ [D], by rw [e, List.append_assoc], fun a h => ?_⟩
    rcases List.mem_append.mp h with h | h
    · exact fr a h
    · simp at h
      rw [h]; exact hD
  · rcases liv_app rl.len h with h | ⟨h, _⟩
    · exact pc.liv a h
    · right; rw [h]; exact hD
theorem ev_dcM (hc : X.calm = true) (hN : X.N.Nodup) (hi : IV X W tg iter fi) (ok : BlkOk X.N X.env.scope scope own)
    (hg : ∀ (s : Shared) (H : Hp) (C : Addr) (cl : List (Str × Addr)) (fp : List Addr), GV (X.blk s H scope (compEnvC scope cl C X.env) fp) tg t) (ht : ∀ (s : Shared) (H : Hp) (C : Addr) (cl : List (Str × Addr)) (fp : List Addr), TVs (X.blk s H scope (compEnvC scope cl C X.env) fp) W0 ifs tt)
    (hk : ∀ (s : Shared) (H : Hp) (C : Addr) (cl : List (Str × Addr)) (fp : List Addr), EV (X.blk s H scope (compEnvC scope cl C X.env) fp) W0 ke fk)
    (he : ∀ (s : Shared) (H : Hp) (C : Addr) (cl : List (Str × Addr)) (fp : List Addr), EV (X.blk s H scope (compEnvC scope cl C X.env) fp) W0 elt fe) (hv : ∀ i ∈ t.sl, i ∈ own.map (·.2) := by decide) (hs : ∀ x, foldedSetIterable iter X.env x = pure x := by intro _; rfl) :
    EV X W (.DictComp ke elt [⟨tg, iter, ifs, 0⟩] scope pos) (eDcM fi t tt fk fe (own.map (·.2))) :=
  pe_imp (pe_dc (g := Tg.rd X.K t) (tt := upT X.K X.mg W0 tt) (tk := up X.K X.mg W0 fk) (tv := up X.K X.mg W0 fe) hc hN hi ok hg ht hk he hs) fun σ H Q h => dc_of hv h dcM_fin
end
end DL

/-! ## DMf -/
set_option Elab.async false
set_option linter.all false
set_option maxRecDepth 100000
set_option maxHeartbeats 4000000
namespace DL
open PySem PySem.Spec PyProof.Rows L2
/-! ### the written part with sys.modules -/
def frY (n : Nat) (g : Addr → Option Obj) : PySem.W.Frag := He.frT g (sysModules :: He.asD g n)
abbrev AlY : Type := He.AlD × Bool
def obsY (n : Nat) (fa : List He.Fa) (fn : List He.DefD) (ex : PySem.W.Frag → Bool) (g : Addr → Option Obj) : AlY := (He.obsD fa fn (frY n g), ex (frY n g))
def hookY (n : Nat) (fa : List He.Fa) (fn : List He.DefD) (ex : PySem.W.Frag → Bool) : PySem.W.Hook where
  α := AlY
  obs := fun s => obsY n fa fn ex s.heap.get?
  val := fun _ => (He.valD fn, true)
  says := fun _ h => ∃ K : PySem.W.Frag, K.In h ∧ He.SaysD fa fn K ∧ ex K = true
  of := fun _ _ e => ⟨_, He.frT_in, congrArg (fun z : AlY => z.1) e, congrArg (fun z : AlY => z.2) e⟩
  keeps := fun _ _ _ ⟨K, hK, c⟩ k => ⟨K, PySem.W.Frag.In.keeps hK k, c⟩
theorem obsY_eq {n : Nat} {fa : List He.Fa} {fn : List He.DefD} {ex : PySem.W.Frag → Bool} {g : Addr → Option Obj} {s : Shared} (h : ∀ a, g a = s.heap.get? a) : obsY n fa fn ex g = (hookY n fa fn ex).obs s := by
  have e : g = s.heap.get? := funext h
  rw [e] <;> rfl
/-- the keyword-only default x of the def at f, if it is an object -/
def kwdAt (f : Str × Option Str) (x : Str) (K : PySem.W.Frag) : Addr := match K.lookup (He.fAd K f) with
  | some ⟨_, _, .func fd, _⟩ => (match fd.kwdefaults with
    | .ref D => (match PySem.W.nsIn K D x with
      | some (some (.ref a)) => a
      | _ => 0)
    | _ => 0)
  | _ => 0
/-- .. is () -/
def emptB (K : PySem.W.Frag) (a : Addr) : Bool := match K.lookup a with
  | some ⟨.type c, _, .seq its _, _⟩ => decide (c = "tuple") && decide (its.size = 0)
  | _ => false
theorem emptB_ok {K : PySem.W.Frag} {a : Addr} (h : emptB K a = true) (H : Hp) : SqT K H a [] := by
  unfold emptB at h
  cases q : K.lookup a with
  | none => rw [q] at h; cases h
  | some o =>
    obtain ⟨oc, od, dt, osl⟩ := o
    rw [q] at h
    cases oc with
    | type c =>
      cases dt with
      | seq its n =>
        have h' := Bool.and_eq_true_iff.mp h
        have h1 := of_decide_eq_true h'.1
        have h2 := of_decide_eq_true h'.2
        have h3 : its = #[] := Array.eq_empty_of_size_eq_zero h2
        subst h1 h3
        exact .inr ⟨_, #[], n, q, rfl, rfl, Nat.zero_le _, .nil⟩
      | _ => cases h
    | _ => cases dt <;> cases h
theorem rep_empt {K : PySem.W.Frag} {a : Addr} (h : emptB K a = true) (H : Hp) (Fb : Addr → Prop) (m : List Addr) : Rep K H Fb m (.ref a) (.tup []) := .tup (emptB_ok h H) (Nat.zero_le _) .nil
/-! ### calls with keywords -/
/-- the things at these places -/
def pick {α : Type} (is : List Nat) (xs : List α) : List α := is.filterMap fun i => xs[i]?
theorem vals_at : ∀ {vs : List V} {us : List Value}, Vals vs us → ∀ (i : Nat) (h : i < vs.length) (h2 : i < us.length), RelV vs[i] us[i]
  | _, _, .cons r q, 0, _, _ => r
  | _, _, .cons r q, i + 1, h, h2 => vals_at q i (by simpa using h) (by simpa using h2)
theorem pick_vals {vs : List V} {us : List Value} (r : Vals vs us) : ∀ is : List Nat, Vals (pick is vs) (pick is us)
  | [] => .nil
  | i :: is => by
    have hl := r.length
    unfold pick
    by_cases h : i < vs.length
    · have h2 : i < us.length := by omega
      rw [List.filterMap_cons_some (List.getElem?_eq_getElem h), List.filterMap_cons_some (List.getElem?_eq_getElem h2)]
      exact .cons (vals_at r i h h2) (pick_vals r is)
    · rw [List.filterMap_cons_none (List.getElem?_eq_none (by omega)), List.filterMap_cons_none (List.getElem?_eq_none (by omega))]
      exact pick_vals r is
theorem pick_rep {K : PySem.W.Frag} {H : Hp} {Fb : Addr → Prop} {m : List Addr} {vs : List V} {ds : List D} (r : RepA K H Fb m vs ds) : ∀ is : List Nat, RepA K H Fb m (pick is vs) (pick is ds)
  | [] => .nil
  | i :: is => by
    have hl := r.length
    unfold pick
    by_cases h : i < ds.length
    · obtain ⟨v, e, q⟩ := r.get (List.getElem?_eq_getElem h)
      rw [List.filterMap_cons_some e, List.filterMap_cons_some (List.getElem?_eq_getElem h)]
      exact .cons q (pick_rep r is)
    · rw [List.filterMap_cons_none (List.getElem?_eq_none (by omega)), List.filterMap_cons_none (List.getElem?_eq_none (by omega))]
      exact pick_rep r is
theorem pick_len {α : Type} {xs : List α} : ∀ is : List Nat, (∀ i ∈ is, i < xs.length) → (pick is xs).length = is.length
  | [], _ => rfl
  | i :: is, h => by
    have := pick_len is fun j hj => h j (by simp [hj])
    unfold pick at this ⊢
    rw [List.filterMap_cons_some (List.getElem?_eq_getElem (h i (by simp)))]
    simp [this]
def eFnK (F : Fn) (is : List Nat) (dd : List D) (fs gs : List Ex) : Ex := fun ρ S => (evL fs ρ S).bind fun us S => (evL gs ρ S).bind fun zs S => F (pick is (us ++ (zs ++ dd))) S
def OkFK (P : Program) (w : World) (K : PySem.W.Frag) (mg : Str → Option Value) (base : Heap) (x : Str) (ps : List Str) (n : Nat) (ks : List Str) (is : List Nat) (mv : List V) (k : Nat) (F : Fn) : Prop :=
  ∃ fd mu, DL.FnOk P w K mg base (L2.CX P w) k (He.ga K x) fd ps (spD K mg ps.length F) ∧ Vals mv mu ∧ (∀ (s : Shared) (us ws : List Value), K.In s.heap → us.length = n → ws.length = ks.length → BindsTo s fd ⟨us, ks.zip ws⟩ (ps.zip (pick is (us ++ (ws ++ mu))))) ∧
    mg x = some (.ref (He.ga K x)) ∧ PySem.W.keepIn K (.ref (He.ga K x)) = true ∧ is.length = ps.length ∧ ∀ i ∈ is, i < n + (ks.length + mv.length)
section
variable {P : Program} {w : World} {K : PySem.W.Frag} {mg : Str → Option Value} {base : Heap} {x name qual : Str} {params : Arguments} {body : List Stmt} {scope : Scope} {N ps ks : List Str} {k n : Nat} {b : Sx} {F : Fn} {kws ms : List (Str × V)} {is : List Nat}
theorem okFK_mk {G : Fn} (h : ∃ fd, FunD K name qual params body scope [] kws (He.fAd K (x, none)) fd) (hm : mg x = some (.ref (He.ga K x))) (sc : FnScope N ps scope) (hk : kws ≠ []) (hms : ∀ q ∈ ms, q ∈ kws) (hi : is.length = ps.length) (hj : ∀ i ∈ is, i < n + (ks.length + ms.length))
    (hbind : ∀ (D : Addr) (doc pm : Value) (an : Option Addr) (cdv ct : Value) (us ws mu : List Value), us.length = n → ws.length = ks.length → mu.length = ms.length →
      KwChain D ((ms.map (·.1)).zip mu) (bindArgs (PySem.W.fnOf name qual params body scope .none (.ref D) doc pm an cdv ct) ⟨us, ks.zip ws⟩) (ps.zip (pick is (us ++ (ws ++ mu)))))
    (hb : BodyOk P w K mg base x qual body scope N k b) (imp : ∀ vs H Q E, spD K mg ps.length G vs H Q E → spD K mg ps.length (fnB N.length b) vs H Q E) : OkFK P w K mg base x ps n ks is (ms.map (·.2)) (k + 1) G := by
  obtain ⟨fd, g⟩ := h
  have FO := (fn_denD (base := base) g sc hb).imp imp
  obtain ⟨oc, od, dV, kV, doc, pm, an, cdv, ct, osl, rfl, lk, hcd, hD, hK⟩ := g.ex
  rcases hD with ⟨_, rfl⟩ | ⟨e, _⟩
  · rcases hK with e | ⟨D, rfl, hq⟩
    · exact absurd e hk
    · obtain ⟨mu, hl, rk, hks⟩ := kwd_vals (ms := ms) fun q hm => hq q (hms q hm)
      exact ⟨_, mu, FO, rk, fun s us ws X l1 l2 => BindsTo.of_looks fun M => KwChain.looks X hks (hbind D doc pm an cdv ct us ws mu l1 l2 hl), hm, g.kp, hi, by rw [List.length_map]; exact hj⟩
  · exact absurd rfl e
end
section
variable {X : Cx} {CX : CXT} {k n : Nat} {f : Addr} {fd : FuncData} {ps ks : List Str} {sp : Sp} {E : L2.St → XK} {x : Str} {p pos : Pos} {e : Expr} {es : List Expr} {kws : List Keyword} {t tk : TA} {mu : List Value} {mv : List V} {is : List Nat}
theorem run_callK {pins : List (Addr × Obj)} {σ : L2.St} {H : Hp} {s : Shared} {Q : VK} {us ws : List Value} {vs zs : List V} (F : DL.FnOk X.prog X.w X.K X.mg X.base CX k f fd ps sp) (room : DL.Room k X.A) (hd : Vals mv mu)
    (bi : ∀ (s : Shared) (us ws : List Value), X.K.In s.heap → us.length = n → ws.length = ks.length → BindsTo s fd ⟨us, ks.zip ws⟩ (ps.zip (pick is (us ++ (ws ++ mu))))) (pass : PassesAt CX X σ (E σ))
    (J : Inv X pins σ H s) (rel : Vals vs us) (rz : Vals zs ws) (l1 : vs.length = n) (l2 : zs.length = ks.length) (want : sp (pick is (vs ++ (zs ++ mv))) H Q (E σ)) : wpAny (model X.prog X.w) X.A (call (.ref f) us (ks.zip ws)) (EP X pins σ Q) X.xe s := by
  have rel2 := pick_vals (rel.append (rz.append hd)) is
  refine wpAny_call (codeAny_mono (F.run X.A X.stack s H ⟨us, ks.zip ws⟩ _ _ Q (E σ) room J.env0 (bi s us ws J.kIn (rel.length.symm.trans l1) (rz.length.symm.trans l2)) rel2 want) ?_)
  intro res s2 hres
  match res, hres with
  | .ok (.ret u), hres => exact J.after hres
  | .ok .next, hres => exact False.elim hres
  | .ok .brk, hres => exact False.elim hres
  | .ok .cont, hres => exact False.elim hres
  | .error er, hres => exact pass pins H s er s2 J hres
def tCallH (sp : Sp) (n m : Nat) (is : List Nat) (mv : List V) (E : L2.St → XK) (t tk : TA) : TE := fun σ H Q => t σ H fun vs H1 => tk σ H1 fun zs H2 => vs.length = n ∧ zs.length = m ∧ sp (pick is (vs ++ (zs ++ mv))) H2 Q (E σ)
theorem pe_callH1 (F : DL.FnOk X.prog X.w X.K X.mg X.base CX k f fd ps sp) (room : DL.Room k X.A) (hg : Gl X x) (hm : X.mg x = some (.ref f)) (hk : PySem.W.keepIn X.K (.ref f) = true) (hd : Vals mv mu)
    (bi : ∀ (s : Shared) (us ws : List Value), X.K.In s.heap → us.length = n → ws.length = ks.length → BindsTo s fd ⟨us, ks.zip ws⟩ (ps.zip (pick is (us ++ (ws ++ mu))))) (pass : ∀ σ, PassesAt CX X σ (E σ))
    (ha : PA X (e :: es) t) (hkw : PK X kws tk) (hall : (backToKw pos (keywordEach kws X.env)).all (·.1.isSome) = true := by rfl) (hks : (backToKw pos (keywordEach kws X.env)).filterMap (·.1) = ks := by rfl)
    (hdb : (x == ("__debug__" : Str)) = false := by decide) (he : starEach (e :: es) X.env = (false, eval e X.env) :: starEach es X.env := by rfl)
    (hpl : ((backTo pos (starEach (e :: es) X.env)).any (·.1) || (backToKw pos (keywordEach kws X.env)).any (·.1.isNone)) = false := by rfl) :
    PE X (.Call (.Name x p) (e :: es) kws pos) (tCallH sp n ks.length is mv E t tk) := by
  refine ⟨fun pins s σ H Q I h => ?_⟩
  refine wpAny_Call_Name_kw (ld_glob I hg hm ?_ hdb)
  refine PySem.W.callWith_KW (h₀ := X.base) I.ok.mod.kin hk hall (thn (ha.run pos pins s σ H _ I h) fun us s1 ⟨vs, H1, I1, r, q⟩ => ?_) hpl he
  refine thn (hkw.run pos pins s1 σ H1 _ I1 q) fun ws s2 ⟨zs, H2, I2, rz, l1, l2, q2⟩ => ⟨I2.kIn, ?_⟩
  rw [hks]
  exact run_callK F room hd bi (pass σ) I2 r rz l1 l2 q2
theorem pe_callH0 (F : DL.FnOk X.prog X.w X.K X.mg X.base CX k f fd ps sp) (room : DL.Room k X.A) (hg : Gl X x) (hm : X.mg x = some (.ref f)) (hk : PySem.W.keepIn X.K (.ref f) = true) (hd : Vals mv mu)
    (bi : ∀ (s : Shared) (us ws : List Value), X.K.In s.heap → us.length = n → ws.length = ks.length → BindsTo s fd ⟨us, ks.zip ws⟩ (ps.zip (pick is (us ++ (ws ++ mu))))) (pass : ∀ σ, PassesAt CX X σ (E σ))
    (hkw : PK X kws tk) (hall : (backToKw pos (keywordEach kws X.env)).all (·.1.isSome) = true := by rfl) (hks : (backToKw pos (keywordEach kws X.env)).filterMap (·.1) = ks := by rfl)
    (hdb : (x == ("__debug__" : Str)) = false := by decide)
    (hpl : ((backTo pos (starEach [] X.env)).any (·.1) || (backToKw pos (keywordEach kws X.env)).any (·.1.isNone)) = false := by rfl) :
    PE X (.Call (.Name x p) [] kws pos) (tCallH sp n ks.length is mv E tNil tk) := by
  refine ⟨fun pins s σ H Q I h => ?_⟩
  refine wpAny_Call_Name_kw (ld_glob I hg hm ?_ hdb)
  refine PySem.W.callWith_KW0 (h₀ := X.base) I.ok.mod.kin hk hall (thn (hkw.run pos pins s σ H _ I h) fun ws s2 ⟨zs, H2, I2, rz, l1, l2, q2⟩ => ⟨I2.kIn, ?_⟩) hpl
  rw [hks]
  exact run_callK (us := []) (vs := []) F room hd bi (pass σ) I2 .nil rz l1 l2 q2
end
section
variable {X : Cx} {W : WX} {x : Str} {ps ks : List Str} {k j n : Nat} {F : Fn} {p pos : Pos} {e : Expr} {es : List Expr} {kws : List Keyword} {fs gs : List Ex} {mv : List V} {dd : List D} {is : List Nat}
/-- the keywords' expressions -/
def KVA (X : Cx) (W : WX) (kws : List Keyword) (gs : List Ex) : Prop := PK X kws (upA X.K X.mg W (evL gs))
theorem ka_nil : KVA X W [] [] := ⟨fun pos pins s σ H Q I h => pk_nil.run pos pins s σ H Q I (upA_nil h)⟩
theorem ka_cons {f : Ex} {nm : Option Str} {kpos : Pos} (he : EV X W e f) (hr : KVA X W kws gs) : KVA X W (⟨nm, e, kpos⟩ :: kws) (f :: gs) := ⟨fun pos pins s σ H Q I h => (pk_cons he hr).run pos pins s σ H Q I (upA_cons h)⟩
theorem upH (hd : ∀ H Fb m, RepA X.K H Fb m mv dd) (tk : Takes X W) (hn : fs.length = n) (hm : gs.length = ks.length) (hi : is.length = ps.length) (hj : ∀ i ∈ is, i < n + (ks.length + mv.length)) {σ : L2.St} {H : Hp} {Q : VK} (h : up X.K X.mg W (eFnK F is dd fs gs) σ H Q) :
    tCallH (spD X.K X.mg ps.length F) n ks.length is mv (fun σ => WE W σ) (upA X.K X.mg W (evL fs)) (upA X.K X.mg W (evL gs)) σ H Q := by
  obtain ⟨B, m, ρ, S, r, re, g⟩ := h
  refine ⟨B, m, ρ, S, r, re, ?_⟩
  have g' : fin X.K X.mg W B m S σ H ((evL fs ρ S).bind fun us S => (evL gs ρ S).bind fun zs S => F (pick is (us ++ (zs ++ dd))) S) Q := g
  cases e1 : evL fs ρ S with
  | bad => rw [e1] at g'; exact g'.elim
  | exc c p S1 => rw [e1] at g'; exact g'
  | ok us S1 =>
    rw [e1] at g'
    intro m1 H1 vs po q
    refine ⟨B, m1, ρ, S1, po.rl, re.kp (po.kp r), ?_⟩
    have g2 : fin X.K X.mg W B m1 S1 σ H1 ((evL gs ρ S1).bind fun zs S => F (pick is (us ++ (zs ++ dd))) S) Q := fin.later po g'
    cases e2 : evL gs ρ S1 with
    | bad => rw [e2] at g2; exact g2.elim
    | exc c p S2 => rw [e2] at g2; exact g2
    | ok zs S2 =>
      rw [e2] at g2
      intro m2 H2 ws po2 q2
      have l1 : vs.length = n := by rw [q.length, evL_len _ _ _ _ _ e1, hn]
      have l2 : ws.length = ks.length := by rw [q2.length, evL_len _ _ _ _ _ e2, hm]
      refine ⟨l1, l2, B, m2, S2, pick is (us ++ (zs ++ dd)), po2.rl, pick_rep ((q.kp (po2.kp po.rl)).append (q2.append (hd _ _ _))) is, ?_, fin_call (fin.later po2 g2)⟩
      rw [pick_len is fun i hh => ?_, hi]
      have := hj i hh
      simp only [List.length_append]
      omega
theorem ev_fnK (O : OkFK X.prog X.w X.K X.mg X.base x ps n ks is mv k F) (hd : ∀ H Fb m, RepA X.K H Fb m mv dd) (hr : DL.Room j X.A) (hg : Gl X x) (tk : Takes X W) (ha : EVA X W (e :: es) fs) (hkw : KVA X W kws gs) (hj : k ≤ j := by omega) (hn : fs.length = n := by rfl) (hm' : gs.length = ks.length := by rfl)
    (hall : (backToKw pos (keywordEach kws X.env)).all (·.1.isSome) = true := by rfl) (hks : (backToKw pos (keywordEach kws X.env)).filterMap (·.1) = ks := by rfl)
    (hdb : (x == ("__debug__" : Str)) = false := by decide) (he : starEach (e :: es) X.env = (false, eval e X.env) :: starEach es X.env := by rfl)
    (hpl : ((backTo pos (starEach (e :: es) X.env)).any (·.1) || (backToKw pos (keywordEach kws X.env)).any (·.1.isNone)) = false := by rfl) :
    EV X W (.Call (.Name x p) (e :: es) kws pos) (eFnK F is dd fs gs) := by
  obtain ⟨fd, mu, FO, rd, bi, hm, hk, hi, hjj⟩ := O
  exact pe_imp (pe_callH1 (p := p) (FO.mono hj) hr hg hm hk rd bi (fun σ => passAt tk σ) ha hkw hall hks hdb he hpl) fun σ H Q h => upH hd tk hn hm' hi hjj h
theorem ev_fnK0 (O : OkFK X.prog X.w X.K X.mg X.base x ps 0 ks is mv k F) (hd : ∀ H Fb m, RepA X.K H Fb m mv dd) (hr : DL.Room j X.A) (hg : Gl X x) (tk : Takes X W) (hkw : KVA X W kws gs) (hj : k ≤ j := by omega) (hm' : gs.length = ks.length := by rfl)
    (hall : (backToKw pos (keywordEach kws X.env)).all (·.1.isSome) = true := by rfl) (hks : (backToKw pos (keywordEach kws X.env)).filterMap (·.1) = ks := by rfl)
    (hdb : (x == ("__debug__" : Str)) = false := by decide)
    (hpl : ((backTo pos (starEach [] X.env)).any (·.1) || (backToKw pos (keywordEach kws X.env)).any (·.1.isNone)) = false := by rfl) :
    EV X W (.Call (.Name x p) [] kws pos) (eFnK F is dd [] gs) := by
  obtain ⟨fd, mu, FO, rd, bi, hm, hk, hi, hjj⟩ := O
  refine pe_imp (pe_callH0 (p := p) (FO.mono hj) hr hg hm hk rd bi (fun σ => passAt tk σ) hkw hall hks hdb hpl) fun σ H Q h => ?_
  obtain ⟨B, m, ρ, S, r, re, f⟩ := upH (n := 0) (fs := []) hd tk rfl hm' hi hjj h
  exact f m H [] (Post.refl r) .nil
end
end DL

/-! ## DMg -/
set_option Elab.async false
set_option linter.all false
set_option maxRecDepth 100000
set_option maxHeartbeats 4000000
namespace DL
open PySem PySem.Spec PyProof PyProof.Rows L2 HT
/-! ### t += u -/
theorem noI_tuple_add : typeLookup (.type "tuple") (dunderI "add") = pure none := by rw [typeLookup_type, builtinLookup_eq_fast]; kernel_rfl
section
variable {prog : Program} {w : World} {A : Around} {E : Value → Shared → Prop} {s : Shared}
theorem iconcat_meets {T id : String} {B : Builtin} {a b : Value} {S : PySem.Spec} {Q : Value → Shared → Prop} (ha : s.TypeIs a T) (hb : s.TypeIs b T) (hno : typeLookup (.type T) (dunderI "add") = pure none)
    (hfill : fillsNumberSlot (.type T) "add" = pure false) (hseq : seqSlot? (.type T) "__add__" = pure (some (.builtin id))) (slot : Slot T "__add__" id)
    (entry : entryFor table id = some B) (args : argsOk id ⟨[a, b], []⟩) (g : Meets (B ⟨[a, b], []⟩) S) (h : S A (wants Q E) s) : wpAny (model prog w) A (inplaceOp .Add a b) Q E s :=
  wpAny_inplaceOp_concat ha hb hno hfill hseq (call_meets slot ha entry args g h)
theorem icat_any {t b : Addr} {vs ws : List Value} {Q : Value → Shared → Prop} (ht : IsTup s.heap t vs.toArray) (hb : IsTup s.heap b ws.toArray)
    (h0 : vs = [] → Q (.ref b) s) (h1 : vs ≠ [] → ws = [] → Q (.ref t) s) (h2 : vs ≠ [] → ws ≠ [] → Q (.ref s.heap.objs.size) { s with heap := s.heap.push { cls := .type "tuple", data := .seq (vs ++ ws).toArray } })
    (hsz : vs.length + ws.length ≤ sizeLine) : wpAny (model prog w) A (inplaceOp .Add (.ref t) (.ref b)) Q E s := by
  obtain ⟨⟨cls, dd, data, sl⟩, ho, hc, n, hd⟩ := id ht
  obtain ⟨⟨cls2, dd2, data2, sl2⟩, ho2, hc2, n2, hd2⟩ := id hb
  simp only at hc hd hc2 hd2
  subst hc hd hc2 hd2
  have e : vs.toArray ++ ws.toArray = (vs ++ ws).toArray := by simp
  by_cases hv : vs = []
  · exact iconcat_meets ⟨_, ho, rfl⟩ ⟨_, ho2, rfl⟩ noI_tuple_add noFill_tuple_add seq_tuple_add PySem.F.slot_tuple_add PySem.F.entry_tuple_add (PySem.F.args_tuple_add_2 _ _)
      (tuple_addW0 t b vs.toArray ws.toArray n n2 dd dd2 sl sl2 (by simp [hv])) ⟨ho, ho2, h0 hv⟩
  · by_cases hw : ws = []
    · exact iconcat_meets ⟨_, ho, rfl⟩ ⟨_, ho2, rfl⟩ noI_tuple_add noFill_tuple_add seq_tuple_add PySem.F.slot_tuple_add PySem.F.entry_tuple_add (PySem.F.args_tuple_add_2 _ _)
        (tuple_addW1 t b vs.toArray ws.toArray n n2 dd dd2 sl sl2 (by simpa using hv) (by simp [hw])) ⟨ho, ho2, h1 hv hw⟩
    · refine iconcat_meets ⟨_, ho, rfl⟩ ⟨_, ho2, rfl⟩ noI_tuple_add noFill_tuple_add seq_tuple_add PySem.F.slot_tuple_add PySem.F.entry_tuple_add (PySem.F.args_tuple_add_2 _ _)
        (tuple_addW2 t b vs.toArray ws.toArray n n2 dd dd2 sl sl2 (by simpa using hv) (by simpa using hw) (by rw [List.size_toArray, List.size_toArray]; exact hsz)) ⟨ho, ho2, ?_⟩
      rw [e]
      exact h2 hv hw
end
def igAddA : D → D → Option D
  | .int i, .int j => some (.int (i + j))
  | .tup xs, .tup ys => if xs.length + ys.length ≤ sizeLine then some (.tup (xs ++ ys)) else none
  | _, _ => none
section
variable {X : Cx}
theorem iop_catA : OpR X (inplaceOp .Add) (rCatA X.K) := by
  intro pins s σ H x y v u Q I rx ry h
  obtain ⟨a, b, xs, ys, rfl, rfl, ha, hb, hz, q0, q1, q2⟩ := h
  cases rx
  cases ry
  obtain ⟨its, r1, p1, _⟩ := I.tuple ha
  obtain ⟨its2, r2, p2, _⟩ := I.tuple hb
  have l1 := r1.length
  have l2 := r2.length
  refine icat_any p1 p2 (fun e => ⟨.ref b, H, I, rfl, q0 ?_⟩) (fun e1 e2 => ⟨.ref a, H, I, rfl, q1 ?_ ?_⟩) (fun e1 e2 => ⟨.ref _, _, I.laid (t' := s.toks) (o := .tup (xs ++ ys)) (fun b ob q => Heap.get?_push_of_some _ q) (Nat.le_refl _) ?_, rfl, q2 ?_ ?_ _ (I.hok.fresh (Nat.le_refl _))⟩) (by omega)
  · subst e; cases r1; rfl
  · rintro rfl; cases r1; exact e1 rfl
  · subst e2; cases r2; rfl
  · exact ⟨by rw [List.length_append]; exact hz, _, r1.append r2, ⟨_, Heap.get?_push_size _ rfl, rfl, 0, rfl⟩⟩
  · rintro rfl; cases r1; exact e1 rfl
  · rintro rfl; cases r2; exact e2 rfl
theorem ig_addA : OpR X (inplaceOp .Add) (rG2 X.K igAddA) := by
  intro pins s σ H x y v u Q I rx ry ⟨Fb, m, dx, dy, d, fr, vx, vy, e, k⟩
  unfold igAddA at e
  split at e
  · rename_i i j
    cases e
    cases vx.asI; cases vy.asI
    exact iop_add pins s σ H _ _ v u Q I rx ry ⟨i, j, rfl, rfl, k H _ (Same.refl H) (.int _)⟩
  · rename_i xs ys
    split at e
    · rename_i hl
      cases e
      obtain ⟨a, vs, rfl, h1, z1, q1⟩ := vx.asT
      obtain ⟨b, ws, rfl, h2, z2, q2⟩ := vy.asT
      refine iop_catA pins s σ H _ _ v u Q I rx ry ⟨a, b, vs, ws, rfl, rfl, h1, h2, by rw [q1.length, q2.length]; exact hl, ?_, ?_, ?_⟩
      · rintro rfl
        cases q1
        exact k H _ (Same.refl H) (.tup h2 z2 q2)
      · intro _ e2
        subst e2
        cases q2
        exact k H _ (Same.refl H) (by simpa using Rep.tup h1 z1 q1)
      · intro _ _ p hp
        exact k _ _ (same_upd hp) (.tup (.of upd_same) (by rw [List.length_append, q1.length, q2.length]; exact hl) ((q1.append q2).kp (kp_same (same_upd hp))))
    · cases e
  · cases e
end
end DL

/-! ## DMh -/
set_option Elab.async false
set_option linter.all false
set_option maxRecDepth 100000
set_option maxHeartbeats 4000000
namespace L2
open PySem PySem.Spec PyProof.Rows
section
variable {X : Cx}
/-- name = {..} on one line, the name a local -/
theorem ps_setDc {i : Nat} {y : Str} {py : Pos} {kx elt tg iter : Expr} {ifs : List Expr} {scope : Scope} {own : List (Str × Nat)} {pos spos : Pos} {wi : TI} {g : TG} {tt : TT} {tk te : TE} (hc : X.calm = true) (hN : X.N.Nodup) (hy : X.N[i]? = some y) (hyl : X.env.scope.names.lookup y = some .local)
    (hsw : swapsWith (.DictComp kx elt [⟨tg, iter, ifs, 0⟩] scope pos) (some (.Name y py)) spos.line X.env = pure true) (hi : PI X tg iter wi) (ok : BlkOk X.N X.env.scope scope own)
    (hg : ∀ (s : Shared) (H : Hp) (C : Addr) (cl : List (Str × Addr)) (fp : List Addr), PG (X.blk s H scope (compEnvC scope cl C X.env) fp) tg g) (ht : ∀ (s : Shared) (H : Hp) (C : Addr) (cl : List (Str × Addr)) (fp : List Addr), PTs (X.blk s H scope (compEnvC scope cl C X.env) fp) ifs tt)
    (hk : ∀ (s : Shared) (H : Hp) (C : Addr) (cl : List (Str × Addr)) (fp : List Addr), PE (X.blk s H scope (compEnvC scope cl C X.env) fp) kx tk)
    (he : ∀ (s : Shared) (H : Hp) (C : Addr) (cl : List (Str × Addr)) (fp : List Addr), PE (X.blk s H scope (compEnvC scope cl C X.env) fp) elt te) (hs : ∀ x, foldedSetIterable iter X.env x = pure x := by intro _; rfl) :
    PS X (.Assign [.Name y py] (.DictComp kx elt [⟨tg, iter, ifs, 0⟩] scope pos) spos) (tAsg (tDc wi g tt tk te (own.map (·.2))) (gName i)) := by
  refine ⟨fun pins s σ H D I h => ?_⟩
  rw [exec_Assign_Name_used _ _ _ _ hsw]
  refine wpAny_bind (wpAny_standAt (wpAny_bind ?_))
  show wpAny _ X.A (do let _ ← comprehension (.DictComp kx elt [⟨tg, iter, ifs, 0⟩] scope pos) scope X.env (firstIterPos [⟨tg, iter, ifs, 0⟩] pos) newDict false (eval iter X.env) (some (assign (.Name y py) X.env))) _ _ s
  have h : tDc wi g tt tk te (own.map (·.2)) σ H (fun x H1 => gName i x σ H1 D.nx) := h
  refine wpAny_bind (thn (dc_core (Qf := fun _ s' => SP X pins D .next s') hc hN I hi ok hg ht hk he hs h fun L C s' m H' I' q hn f => ?_) fun _ s' hq => wpAny_pure (wpAny_pure hq))
  show wpAny _ _ (assign (.Name y py) X.env (.ref L)) _ _ _
  refine wpAny_assign_Name (store_ok2 (v := V.ref L) I' hN hy (.inl hyl) rfl (fun s2 I2 ⟨a, sb, ha⟩ => ?_) (.inr hyl))
  obtain ⟨f0, f1, f2, f3, f4, f5⟩ := f
  have haC : C ≠ a := by
    rcases ha with z | z
    · rw [z]; exact f1
    · exact fun e => f4 y a z e.symm
  refine ⟨m, hn.sameBut sb haC, fun h3 sb3 => ?_⟩
  exact ⟨_, H', I2.turned (t' := s2.toks) (fun b o hb e => (sb3.2 b hb).trans e) f0 f1 f3 f4 f5, q⟩
theorem sw_trueD {kx elt : Expr} {gs : List Comprehension} {scope : Scope} {pos py : Pos} {y : Str} {l : Nat} {env : Env} (hk : env.scope.kind = .function) (hy : env.scope.names.lookup y = some .local) (hl : (py.line == pos.line) = true)
    (ha : (scope.names.any fun (n, k) => n == y && (k == .local || k == .cell)) = false) : swapsWith (.DictComp kx elt gs scope pos) (some (.Name y py)) l env = pure true := by
  have ky : env.kindOf y = some .local := hy
  have hb : env.blockKind = .function := by unfold Env.blockKind; rw [hk]; rfl
  unfold swapsWith
  simp only [hb, ky, ha, Expr.pos, hl]
  rfl
end
end L2
namespace DL
open PySem PySem.Spec PyProof.Rows L2
section
variable {X : Cx} {W : WX} {tg iter ke elt : Expr} {ifs : List Expr} {fi : Ix} {t : Tg} {tt : Tx} {fk fe : Ex} {scope : Scope} {own : List (Str × Nat)} {pos : Pos}
theorem sv_setDcM {i : Nat} {y : Str} {py spos : Pos} (hc : X.calm = true) (hN : X.N.Nodup) (hy : X.N[i]? = some y) (hyl : X.env.scope.names.lookup y = some .local) (hsw : swapsWith (.DictComp ke elt [⟨tg, iter, ifs, 0⟩] scope pos) (some (.Name y py)) spos.line X.env = pure true) (hi : IV X W tg iter fi) (ok : BlkOk X.N X.env.scope scope own)
    (hg : ∀ (s : Shared) (H : Hp) (C : Addr) (cl : List (Str × Addr)) (fp : List Addr), GV (X.blk s H scope (compEnvC scope cl C X.env) fp) tg t) (ht : ∀ (s : Shared) (H : Hp) (C : Addr) (cl : List (Str × Addr)) (fp : List Addr), TVs (X.blk s H scope (compEnvC scope cl C X.env) fp) W0 ifs tt)
    (hk : ∀ (s : Shared) (H : Hp) (C : Addr) (cl : List (Str × Addr)) (fp : List Addr), EV (X.blk s H scope (compEnvC scope cl C X.env) fp) W0 ke fk)
    (he : ∀ (s : Shared) (H : Hp) (C : Addr) (cl : List (Str × Addr)) (fp : List Addr), EV (X.blk s H scope (compEnvC scope cl C X.env) fp) W0 elt fe) (hv : ∀ i ∈ t.sl, i ∈ own.map (·.2) := by decide) (hs : ∀ x, foldedSetIterable iter X.env x = pure x := by intro _; rfl) :
    SV X W (.Assign [.Name y py] (.DictComp ke elt [⟨tg, iter, ifs, 0⟩] scope pos) spos) (sAsg i (eDcM fi t tt fk fe (own.map (·.2)))) := by
  refine ps_imp (ps_setDc (g := Tg.rd X.K t) (tt := upT X.K X.mg W0 tt) (tk := up X.K X.mg W0 fk) (te := up X.K X.mg W0 fe) hc hN hy hyl hsw hi ok hg ht hk he hs) fun E σ H h => ?_
  obtain ⟨B, m, ρ, S, r, re, f⟩ := h
  refine dc_of (W := W) (Fin := fun acc S => .ok (.ref S.length) (S ++ [some (.dic false acc)])) hv (Q := fun x H1 => gName i x σ H1 E.nx) ⟨B, m, ρ, S, r, re, ?_⟩ dcM_fin
  have f' : finS X.K X.mg W B m S H ((eDcM fi t tt fk fe (own.map (·.2)) ρ S).bindS ρ fun d S => .fl (.nx (ρ.set i (some d))) S) E := f
  show fin X.K X.mg W B m S σ H (eDcM fi t tt fk fe (own.map (·.2)) ρ S) _
  refine fin.mono (fin.bindS re r f') fun v H1 => ?_
  rintro ⟨m1, S1, d, p, q, f1⟩
  exact f1 m1 H1 _ (Post.refl p.rl) ((re.kp (p.kp r)).set q)
end
end DL

/-! ## DMw -/
set_option Elab.async false
set_option linter.all false
set_option maxRecDepth 100000
set_option maxHeartbeats 4000000
namespace DL
open PySem PySem.Spec PyProof.Rows L2
/-! ### tables of ints -/
abbrev TB := List (Int × Int)
def kI (l : TB) : List (D × D) := l.map fun p => (.int p.1, .int p.2)
def dI (l : TB) : D := .dic false (kI l)
def getI : TB → Int → Option Int
  | [], _ => none
  | p :: l, k => if p.1 = k then some p.2 else getI l k
def putI (l : TB) (k v : Int) : TB := if (l.any fun p => decide (p.1 = k)) = true then l.map (fun p => if p.1 = k then (p.1, v) else p) else l ++ [(k, v)]
def hasI (l : TB) (k : Int) : Prop := k ∈ l.map (·.1)
theorem unK_int (a k : Int) : (unK (.int a) = some (.inl k)) = (a = k) := by simp [unK]
theorem valD_I : ∀ (l : TB) (k : Int), valD (kI l) (.inl k) = (getI l k).map D.int
  | [], _ => rfl
  | p :: l, k => by
    have ih := valD_I l k
    unfold valD kI at ih ⊢
    simp only [List.map_cons, List.find?_cons, unK_int, getI]
    by_cases h : p.1 = k
    · simp [h]
    · simp only [h, decide_false, if_false]
      exact ih
theorem any_I (l : TB) (k : Int) : ((kI l).any fun p => decide (unK p.1 = some (.inl k))) = (l.any fun p => decide (p.1 = k)) := by
  unfold kI
  rw [List.any_map]
  congr 1
  funext p
  simp [unK]
theorem putD_I (l : TB) (k v : Int) : putD (kI l) (.inl k) (.int v) = kI (putI l k v) := by
  unfold putD putI
  rw [any_I]
  split
  · unfold kI
    rw [List.map_map, List.map_map]
    refine List.map_congr_left fun p _ => ?_
    simp only [Function.comp, unK_int]
    split <;> rfl
  · simp [kI, keyD]
theorem kI_len (l : TB) : (kI l).length = l.length := by simp [kI]
theorem getI_mem : ∀ {l : TB} {k v : Int}, getI l k = some v → (k, v) ∈ l
  | [], _, _, h => by cases h
  | p :: l, k, v, h => by
    unfold getI at h
    split at h
    · rename_i e
      cases h
      subst e
      simp
    · exact List.mem_cons_of_mem _ (getI_mem h)
theorem getI_none : ∀ {l : TB} {k : Int}, getI l k = none ↔ k ∉ l.map (·.1)
  | [], k => by simp [getI]
  | p :: l, k => by
    unfold getI
    have := @getI_none l k
    by_cases e : p.1 = k
    · simp [e]
    · rw [if_neg e, this, List.map_cons, List.mem_cons]
      have e' : ¬ k = p.1 := fun z => e z.symm
      simp only [e', false_or]
theorem getI_has {l : TB} {k : Int} (h : k ∈ l.map (·.1)) : ∃ v, getI l k = some v := by
  cases e : getI l k with
  | none => exact absurd h (getI_none.mp e)
  | some v => exact ⟨v, rfl⟩
theorem getI_upd : ∀ (l : TB) (k v j : Int), getI (l.map fun p => if p.1 = k then (p.1, v) else p) j = if j = k then (getI l j).map (fun _ => v) else getI l j
  | [], k, v, j => by simp [getI]
  | p :: l, k, v, j => by
    have ih := getI_upd l k v j
    simp only [List.map_cons, getI, ih]
    by_cases hp : p.1 = k
    · by_cases hj : j = k
      · subst hj; simp [hp]
      · have : ¬ k = j := fun e => hj e.symm
        simp [hp, hj, this]
    · by_cases hj : p.1 = j
      · have : ¬ j = k := fun e => hp (hj.trans e)
        simp [hp, hj, this]
      · simp only [if_neg hp, if_neg hj]
theorem getI_app : ∀ (l m : TB) (j : Int), getI (l ++ m) j = (getI l j).or (getI m j)
  | [], m, j => by simp [getI]
  | p :: l, m, j => by
    simp only [List.cons_append, getI, getI_app l m j]
    split <;> simp
theorem getI_put (l : TB) (k v j : Int) : getI (putI l k v) j = if j = k then some v else getI l j := by
  unfold putI
  split
  · rename_i h
    rw [getI_upd]
    by_cases hj : j = k
    · subst hj
      rw [if_pos rfl, if_pos rfl]
      have h1 : j ∈ l.map (·.1) := by
        obtain ⟨p, h1, h2⟩ := List.any_eq_true.mp h
        exact List.mem_map.mpr ⟨p, h1, of_decide_eq_true h2⟩
      obtain ⟨w, e⟩ := getI_has h1
      rw [e]; rfl
    · rw [if_neg hj, if_neg hj]
  · rename_i h
    have hn : k ∉ l.map (·.1) := fun z => h (by
      obtain ⟨p, h1, h2⟩ := List.mem_map.mp z
      exact List.any_eq_true.mpr ⟨p, h1, decide_eq_true h2⟩)
    rw [getI_app]
    by_cases hj : j = k
    · subst hj
      rw [getI_none.mpr hn]
      simp [getI]
    · have : ¬ k = j := fun e => hj e.symm
      simp [getI, hj, this]
theorem put_mem {l : TB} {k v : Int} {p : Int × Int} (h : p ∈ putI l k v) : p ∈ l ∨ p = (k, v) := by
  unfold putI at h
  split at h
  · obtain ⟨q, h1, rfl⟩ := List.mem_map.mp h
    split
    · rename_i e
      right
      rw [e]
    · exact .inl h1
  · simpa using h
theorem put_len (l : TB) (k v : Int) : (putI l k v).length ≤ l.length + 1 := by
  unfold putI
  split <;> simp
theorem put_keys {l : TB} {k v j : Int} : j ∈ (putI l k v).map (·.1) ↔ j = k ∨ j ∈ l.map (·.1) := by
  have h1 := @getI_none (putI l k v) j
  have h2 := @getI_none l j
  rw [getI_put] at h1
  by_cases hj : j = k
  · simp only [hj, if_true] at h1
    simp only [hj, true_or, iff_true]
    exact Decidable.not_not.mp fun z => by simpa using h1.mpr z
  · rw [if_neg hj] at h1
    simp only [hj, false_or]
    exact Decidable.not_iff_not.mp (h1.symm.trans h2)
theorem asIs_I : ∀ xs : List Int, asIs (xs.map D.int) = some xs
  | [] => rfl
  | x :: xs => by simp only [List.map_cons, asIs, asIs_I xs]; rfl
theorem keys_I (l : TB) : (kI l).map (·.1) = (l.map (·.1)).map D.int := by simp [kI]
theorem vals_I (l : TB) : (kI l).map (·.2) = (l.map (·.2)).map D.int := by simp [kI]
theorem fVs_I : ∀ xs : List Int, fVs (xs.map .int) = some (xs.map .int)
  | [] => rfl
  | x :: xs => by simp only [List.map_cons, fVs, fV, fVs_I xs]
theorem inV_I (x : Int) (xs : List Int) : inV (.int x) (xs.map .int) = decide (x ∈ xs) := by
  unfold inV
  induction xs with
  | nil => simp
  | cons y ys ih =>
    rw [List.map_cons, List.any_cons, ih]
    have e : eqV (.int y) (.int x) = decide (x = y) := by
      show (y == x) = _
      rw [Bool.eq_iff_iff, beq_iff_eq, decide_eq_true_iff]
      exact ⟨Eq.symm, Eq.symm⟩
    rw [e]
    simp
/-! ### triples of ints, in order -/
abbrev I3 := Int × Int × Int
def d3 (t : I3) : D := .tup [.int t.1, .int t.2.1, .int t.2.2]
def p3 (t : I3) : PyData := .tuple [.int t.1, .int t.2.1, .int t.2.2]
def lt3 (a b : I3) : Bool := decide (a.1 < b.1) || (decide (a.1 = b.1) && (decide (a.2.1 < b.2.1) || (decide (a.2.1 = b.2.1) && (decide (a.2.2 < b.2.2) || (decide (a.2.2 = b.2.2) && false)))))
theorem toP_3 (t : I3) : toP (d3 t) = some (p3 t) := by simp [d3, p3, toP, toPs]
theorem lt_p3 (a b : I3) : PySem.W.dataLt (p3 a) (p3 b) = lt3 a b := by
  unfold p3 lt3
  rw [lt_tupI, lt_tupI, lt_tupI, lt_tup0]
theorem alike_3 (a b : I3) : PySem.W.alike (p3 a) (p3 b) = true := by simp [p3, PySem.W.alike, PySem.W.alikeAll]
theorem ofP_3 (t : I3) : ofP (p3 t) = d3 t := ofP_toP (toP_3 t)
def min3 (t : I3) (ts : List I3) : I3 := ts.foldl (fun a y => if lt3 y a then y else a) t
theorem minD_3 (t : I3) (ts : List I3) : PySem.W.minD (p3 t) (ts.map p3) = p3 (min3 t ts) := by
  unfold PySem.W.minD min3
  induction ts generalizing t with
  | nil => rfl
  | cons u ts ih =>
    simp only [List.map_cons, List.foldl_cons, lt_p3]
    have : (if lt3 u t = true then p3 u else p3 t) = p3 (if lt3 u t = true then u else t) := by split <;> rfl
    rw [this]
    exact ih _
theorem ltX_3 (a b : I3) : ltXD (d3 a) (d3 b) = some (.bl (lt3 a b)) := by
  have : cmpP (d3 a) (d3 b) = some (p3 a, p3 b) := by
    unfold cmpP
    rw [toP_3, toP_3]
    simp only [Option.bind]
    rw [if_pos ⟨alike_3 a b, rfl, by simp [p3, PyData.depth, PyData.depthAll]⟩]
  show (cmpP (d3 a) (d3 b)).map (fun z => D.bl (PySem.W.dataLt z.1 z.2)) = _
  rw [this]
  simp only [Option.map_some, lt_p3]
theorem dep_3 : ∀ ts : List I3, PyData.depthAll (ts.map p3) ≤ 1
  | [] => by simp [PyData.depthAll]
  | t :: ts => by
    have := dep_3 ts
    simp only [List.map_cons, PyData.depthAll, p3, PyData.depth]
    omega
theorem minL_3 (t : I3) (ts : List I3) : minLD [.lst ((t :: ts).map d3)] = some (d3 (min3 t ts)) := by
  have e : toPs ((t :: ts).map d3) = some ((t :: ts).map p3) := toPs_map d3 p3 toP_3 _
  have a : alikeB ((t :: ts).map p3) = true := by
    unfold alikeB
    rw [List.all_eq_true]
    intro x hx
    obtain ⟨u, _, rfl⟩ := List.mem_map.mp hx
    rw [Bool.and_eq_true, List.all_eq_true]
    refine ⟨fun y hy => ?_, rfl⟩
    obtain ⟨w, _, rfl⟩ := List.mem_map.mp hy
    exact alike_3 u w
  have dd := dep_3 (t :: ts)
  unfold minLD
  simp only [e, Option.bind]
  rw [List.map_cons] at a dd ⊢
  dsimp only
  rw [if_pos ⟨a, by omega⟩, minD_3, ofP_3]
theorem lt3_irr (a : I3) : lt3 a a = false := by simp [lt3]
theorem lt3_iff (a b : I3) : lt3 a b = true ↔ a.1 < b.1 ∨ (a.1 = b.1 ∧ (a.2.1 < b.2.1 ∨ (a.2.1 = b.2.1 ∧ a.2.2 < b.2.2))) := by simp [lt3]
theorem lt3_tri {a b : I3} (h : lt3 a b = false) (h2 : lt3 b a = false) : a = b := by
  have h' : ¬ (lt3 a b = true) := by simp [h]
  have h2' : ¬ (lt3 b a = true) := by simp [h2]
  rw [lt3_iff] at h' h2'
  obtain ⟨a1, a2, a3⟩ := a
  obtain ⟨b1, b2, b3⟩ := b
  simp only [Prod.mk.injEq] at *
  omega
theorem lt3_tr {a b c : I3} (h : lt3 b a = false) (h2 : lt3 c b = false) : lt3 c a = false := by
  have h' : ¬ (lt3 b a = true) := by simp [h]
  have h2' : ¬ (lt3 c b = true) := by simp [h2]
  rw [lt3_iff] at h' h2'
  rw [Bool.eq_false_iff, ne_eq, lt3_iff]
  omega
/-- the least of some -/
def Least (ts : List I3) (t : I3) : Prop := t ∈ ts ∧ ∀ u ∈ ts, lt3 u t = false
theorem Least.uniq {ts us : List I3} {t u : I3} (h : Least ts t) (h2 : Least us u) (e : ∀ x, x ∈ ts ↔ x ∈ us) : t = u := lt3_tri (h2.2 t ((e t).mp h.1)) (h.2 u ((e u).mpr h2.1))
theorem min3_least (t : I3) (ts : List I3) : Least (t :: ts) (min3 t ts) := by
  induction ts generalizing t with
  | nil => exact ⟨by simp [min3], by simp [min3, lt3_irr]⟩
  | cons u ts ih =>
    have e : min3 t (u :: ts) = min3 (if lt3 u t then u else t) ts := rfl
    rw [e]
    obtain ⟨h1, h2⟩ := ih (if lt3 u t then u else t)
    refine ⟨?_, fun x hx => ?_⟩
    · rcases List.mem_cons.mp h1 with h | h
      · rw [h]; split <;> simp
      · simp [h]
    · have h3 := h2 _ (List.mem_cons_self ..)
      rcases List.mem_cons.mp hx with rfl | hx
      · cases hc : lt3 u x with
        | true =>
          rw [hc] at h3
          simp only [if_true] at h3 ⊢
          refine lt3_tr h3 ?_
          have : lt3 u x = true := hc
          rw [lt3_iff] at this
          rw [Bool.eq_false_iff, ne_eq, lt3_iff]
          omega
        | false => rw [hc] at h3; simpa using h3
      · rcases List.mem_cons.mp hx with rfl | hx
        · cases hc : lt3 x t with
          | true => rw [hc] at h3; simpa using h3
          | false => rw [hc] at h3; simp only [Bool.false_eq_true, if_false] at h3 ⊢; exact lt3_tr h3 hc
        · exact h2 x (by simp [hx])
/-! ### rules -/
section
variable {Q : D → Prop} {S : Sto} {n : Nat} {l : TB} {k v : Int} {xs ys : List Int} {y : D}
theorem vo_vwD1 {g : D → D → Option D} (h : S[n]? = some (some (.dic false (kI l)))) (q : Wo (g (view S (dI l)) y) Q) : Wo (g (view S (.ref n)) y) Q := by
  have : view S (.ref n) = view S (dI l) := by simp only [view, h]; rfl
  rw [this]; exact q
theorem vo_vwDc {g : List D → Option D} (h : S[n]? = some (some (.dic false (kI l)))) (q : Wo (g (List.map (view S) [dI l])) Q) : Wo (g (List.map (view S) [.ref n])) Q := by
  have : view S (.ref n) = view S (dI l) := by simp only [view, h]; rfl
  have e : List.map (view S) [.ref n] = List.map (view S) [dI l] := by simp only [List.map_cons, List.map_nil, this]
  rw [e]; exact q
theorem vo_ixI (h : getI l k = some v) (q : Q (.int v)) : Wo (ixD (view S (dI l)) (view S (.int k))) Q := by
  refine .of (d := .int v) ?_ q
  show (unK (.int k)).bind (valD (kI l)) = _
  show valD (kI l) (.inl k) = _
  rw [valD_I, h]; rfl
theorem vo_inT (q : Q (.bl (decide (k ∈ xs)))) : Wo (inD (view S (.int k)) (view S (.tup (xs.map .int)))) Q := by
  refine .of ?_ q
  show (inB (.int k) (.tup (xs.map .int))).map D.bl = _
  simp only [inB, fV, sqOf, fVs_I, Option.bind, Option.map_some, inV_I]
theorem vo_ninT (q : Q (.bl (!decide (k ∈ xs)))) : Wo (ninD (view S (.int k)) (view S (.tup (xs.map .int)))) Q := by
  refine .of ?_ q
  show (inB (.int k) (.tup (xs.map .int))).map _ = _
  simp only [inB, fV, sqOf, fVs_I, Option.bind, Option.map_some, inV_I]
theorem vo_inL (q : Q (.bl (decide (k ∈ xs)))) : Wo (inD (view S (.int k)) (view S (.lst (xs.map .int)))) Q := by
  refine .of ?_ q
  show (inB (.int k) (.lst (xs.map .int))).map D.bl = _
  simp only [inB, fV, sqOf, fVs_I, Option.bind, Option.map_some, inV_I]
theorem vo_ninL (q : Q (.bl (!decide (k ∈ xs)))) : Wo (ninD (view S (.int k)) (view S (.lst (xs.map .int)))) Q := by
  refine .of ?_ q
  show (inB (.int k) (.lst (xs.map .int))).map _ = _
  simp only [inB, fV, sqOf, fVs_I, Option.bind, Option.map_some, inV_I]
theorem has_dec (l : TB) (k : Int) : (getI l k).isSome = decide (k ∈ l.map (·.1)) := by
  cases e : getI l k with
  | none => have := getI_none.mp e; simp [this]
  | some v => have := List.mem_map_of_mem (f := (·.1)) (getI_mem e); simp only [Option.isSome_some]; exact (decide_eq_true this).symm
theorem vo_inI (q : Q (.bl (decide (k ∈ l.map (·.1))))) : Wo (inD (view S (.int k)) (view S (dI l))) Q := by
  refine .of ?_ q
  show ((unK (.int k)).map fun kk => (valD (kI l) kk).isSome).map D.bl = _
  show some (D.bl (valD (kI l) (.inl k)).isSome) = _
  rw [valD_I, Option.isSome_map, has_dec]
theorem vo_ninI (q : Q (.bl (!decide (k ∈ l.map (·.1))))) : Wo (ninD (view S (.int k)) (view S (dI l))) Q := by
  refine .of ?_ q
  show ((unK (.int k)).map fun kk => (valD (kI l) kk).isSome).map _ = _
  show some (D.bl (!(valD (kI l) (.inl k)).isSome)) = _
  rw [valD_I, Option.isSome_map, has_dec]
theorem vo_sortI (h : l.length < 64) (q : Q (.lst ((isI (l.map (·.1))).map .int))) : Wo (sortD (List.map (view S) [dI l])) Q := by
  refine .of ?_ q
  show (if (kI l).length < 64 then (asIs ((kI l).map (·.1))).map (fun ns => D.lst ((isI ns).map .int)) else none) = _
  rw [if_pos (by rw [kI_len]; exact h), keys_I, asIs_I]; rfl
theorem vo_sortL (q : Q (.lst ((isI xs).map .int))) : Wo (sortD (List.map (view S) [.lst (xs.map .int)])) Q := by
  refine .of ?_ q
  show (asIs (xs.map D.int)).map _ = _
  rw [asIs_I]; rfl
theorem vo_lenI (q : Q (.int l.length)) : Wo (lenD (List.map (view S) [dI l])) Q := by
  refine .of ?_ q
  show some (D.int (kI l).length) = _
  rw [kI_len]
theorem vo_minL3 {t : I3} {ts : List I3} (q : Q (d3 (min3 t ts))) : Wo (minLD (List.map (view S) [.lst ((t :: ts).map d3)])) Q := .of (minL_3 t ts) q
theorem vo_lt3 {a b : I3} (q : Q (.bl (lt3 a b))) : Wo (ltXD (view S (d3 a)) (view S (d3 b))) Q := .of (ltX_3 a b) q
theorem vo_isNN (q : Q (.bl true)) : Wo (isD (view S .non) (view S .non)) Q := ⟨q⟩
theorem vo_is3N {a : I3} (q : Q (.bl false)) : Wo (isD (view S (d3 a)) (view S .non)) Q := ⟨q⟩
theorem vo_isTN {zs : List D} (q : Q (.bl false)) : Wo (isD (view S (.tup zs)) (view S .non)) Q := ⟨q⟩
theorem vo_isIN (q : Q (.bl false)) : Wo (isD (view S (.int k)) (view S .non)) Q := ⟨q⟩
theorem vo_igAddA (h : xs.length + ys.length ≤ 16777216) (q : Q (.tup ((xs ++ ys).map .int))) : Wo (igAddA (view S (.tup (xs.map .int))) (view S (.tup (ys.map .int)))) Q := by
  have e : igAddA (.tup (xs.map .int)) (.tup (ys.map .int)) = some (.tup ((xs ++ ys).map .int)) := by
    show (if (xs.map D.int).length + (ys.map D.int).length ≤ sizeLine then some (D.tup (xs.map D.int ++ ys.map D.int)) else none) = _
    rw [if_pos (by rw [List.length_map, List.length_map, sizeLine_eq]; exact h), List.map_append]
  exact .of e q
theorem vo_igAddI {j : Int} (q : Q (.int (k + j))) : Wo (igAddA (view S (.int k)) (view S (.int j))) Q := ⟨q⟩
end
section
variable {Q : D → Sto → Prop} {E : Px} {ρ : Ev} {S : Sto} {o f x : Ex}
theorem wp_dnew (q : Q (.ref S.length) (S ++ [some (.dic false (kI []))])) : Wp (eDNew ρ S) Q E := ⟨q⟩
theorem wp_get2 (h : Wp (o ρ S) (fun d S1 => isDc (view S1 d) = true ∧ Wp (f ρ S1) (fun y S2 => Wp (x ρ S2) (fun z S3 => ∃ (l : TB) (k v : Int), view S3 d = dI l ∧ y = .int k ∧ z = .int v ∧ Q (.int ((getI l k).getD v)) S3) E) E) E) : Wp (eGet2 o f x ρ S) Q E := by
  refine wp_bind (h.mono fun d S1 h => ?_)
  rw [if_pos h.1]
  refine wp_bind (h.2.mono fun y S2 h => wp_bind (h.mono fun z S3 ⟨l, k, v, e2, e3, e4, q⟩ => ?_))
  subst e3 e4
  refine wp_ans (.of (d := .int ((getI l k).getD v)) ?_ q)
  rw [e2]
  show some ((valD (kI l) (.inl k)).getD (.int v)) = _
  rw [valD_I]
  cases getI l k <;> rfl
theorem ws_setI {Q : Fl → Sto → Prop} {E : Str → D → Ev → Sto → Prop} {e o i : Ex} (h : Wp (e ρ S) (fun z S1 => Wp (o ρ S1) (fun d S2 => Wp (i ρ S2) (fun k S3 => ∃ (n : Nat) (l : TB) (j v : Int), d = .ref n ∧ k = .int j ∧ z = .int v ∧ S3[n]? = some (some (.dic false (kI l))) ∧ l.length < 16777216 ∧ Q (.nx ρ) (S3.set n (some (.dic false (kI (putI l j v)))))) (fun c p S => E c p ρ S)) (fun c p S => E c p ρ S)) (fun c p S => E c p ρ S)) : Ws (sSetIx o i e ρ S) Q E :=
  ws_bind (h.mono fun z S1 h => ws_bind (h.mono fun d S2 h => ws_bind (h.mono fun k S3 ⟨n, l, j, v, e1, e2, e3, h1, h2, q⟩ => by
    subst e1 e2 e3
    have e0 : lstOf S3 (.ref n) = none := by simp only [lstOf, h1]
    have e1 : dicOf S3 (.ref n) = some (n, kI l) := by simp only [dicOf, h1]
    have e4 : putAtD S3 (.ref n) (.int j) (.int v) = some (S3.set n (some (.dic false (kI (putI l j v))))) := by
      unfold putAtD
      rw [e1]
      show (if (kI l).length < sizeLine then some (S3.set n (some (.dic false (putD (kI l) (.inl j) (.int v))))) else none) = _
      rw [if_pos (by rw [kI_len, sizeLine_eq]; exact h2), putD_I]
    rw [e0]
    dsimp only
    rw [e4]
    exact ⟨q⟩)))
theorem ws_augI {Q : Fl → Sto → Prop} {E : Str → D → Ev → Sto → Prop} {e o i : Ex} (h : Wp (o ρ S) (fun d S1 => Wp (i ρ S1) (fun k S2 => ∃ (n : Nat) (l : TB) (j v : Int), d = .ref n ∧ k = .int j ∧ S2[n]? = some (some (.dic false (kI l))) ∧ getI l j = some v ∧ Wp (e ρ S2) (fun y S3 => ∃ w : Int, y = .int w ∧ S3[n]? = some (some (.dic false (kI l))) ∧ l.length < 16777216 ∧ Q (.nx ρ) (S3.set n (some (.dic false (kI (putI l j (v + w))))))) (fun c p S => E c p ρ S)) (fun c p S => E c p ρ S)) (fun c p S => E c p ρ S)) : Ws (sAugIx igAdd o i e ρ S) Q E :=
  ws_bind (h.mono fun d S1 h => ws_bind (h.mono fun k S2 ⟨n, l, j, v, e1, e2, h1, hg, hh⟩ => by
    subst e1 e2
    have ev : view S2 (.ref n) = .dic false (kI l) := by simp only [view, h1]
    rw [ev]
    have eg : dgetD (.dic false (kI l)) (.int j) = some (.int v) := by
      show (unK (.int j)).bind (valD (kI l)) = _
      show valD (kI l) (.inl j) = _
      rw [valD_I, hg]; rfl
    rw [eg]
    refine ws_bind (hh.mono fun y S3 ⟨w, ey, h3, h2, q⟩ => ?_)
    subst ey
    have e1 : dicOf S3 (.ref n) = some (n, kI l) := by simp only [dicOf, h3]
    have e4 : putAtD S3 (.ref n) (.int j) (.int (v + w)) = some (S3.set n (some (.dic false (kI (putI l j (v + w)))))) := by
      unfold putAtD
      rw [e1]
      show (if (kI l).length < sizeLine then some (S3.set n (some (.dic false (putD (kI l) (.inl j) (.int (v + w)))))) else none) = _
      rw [if_pos (by rw [kI_len, sizeLine_eq]; exact h2), putD_I]
    have e5 : igAdd (view S3 (.int v)) (view S3 (.int w)) = some (.int (v + w)) := rfl
    rw [e5]
    dsimp only
    rw [e4]
    exact ⟨q⟩))
theorem ws_frzD {Q : Fl → Sto → Prop} {E : Str → D → Ev → Sto → Prop} {i n : Nat} {s : Sx} {l : TB} (h0 : ρ[i]? = some (some (.ref n))) (h1 : S[n]? = some (some (.dic false (kI l)))) (h : Ws (s (ρ.set i (some (dI l))) (S.set n none)) Q E) : Ws (sFrz i s ρ S) Q E := by
  unfold sFrz
  simp only [h0, h1]
  exact h
theorem wi_valsI {Q : List D → Sto → Prop} {e : Ex} (h : Wp (e ρ S) (fun d S1 => ∃ l : TB, d = dI l ∧ Q ((l.map (·.2)).map D.int) S1) E) : Wp (iVals e ρ S) Q E := wp_bind (h.mono fun d S1 ⟨l, e, q⟩ => by
  subst e
  rw [← vals_I] at q
  exact ⟨q⟩)
theorem wi_itemsI {Q : List D → Sto → Prop} {e : Ex} (h : Wp (e ρ S) (fun d S1 => ∃ l : TB, d = dI l ∧ Q (l.map fun p => .tup [.int p.1, .int p.2]) S1) E) : Wp (iItems e ρ S) Q E := wp_bind (h.mono fun d S1 ⟨l, e, q⟩ => by
  subst e
  have : (kI l).map (fun p => D.tup [p.1, p.2]) = l.map fun p => .tup [.int p.1, .int p.2] := by simp [kI]
  rw [← this] at q
  exact ⟨q⟩)
theorem dkl_I (l : TB) : dkl (dI l) = some ((l.map (·.1)).map D.int) := by rw [← keys_I]; rfl
theorem wp_reprQ {f : Ex} (h : Wp (f ρ S) (fun d S1 => ∃ p : PyData, toQ S1 d = some p ∧ smP p = true ∧ wtP p ≤ 200000 ∧ p.depth ≤ 40 ∧ Q (.str p.shown) S1) E) : Wp (eReprQ f ρ S) Q E :=
  wp_bind (h.mono fun d S1 ⟨p, h1, h2, h3, h4, q⟩ => wp_ans (.of (rep_smallQ h1 h2 h3 h4) q))
theorem wp_fnK {F : Fn} {is : List Nat} {dd : List D} {fs gs : List Ex} (h : Wp (evL fs ρ S) (fun us S1 => Wp (evL gs ρ S1) (fun zs S2 => Wp (F (pick is (us ++ (zs ++ dd))) S2) Q E) E) E) : Wp (eFnK F is dd fs gs ρ S) Q E :=
  wp_bind (h.mono fun us S1 h => wp_bind h)
end
theorem wp_rgM {ρ : Ev} {S : Sto} {Q : D → Sto → Prop} {E : Px} {e : Ex} (h : Wp (e ρ S) (fun d S1 => ∃ n : Nat, d = .int n ∧ n ≤ 1000000 ∧ Q (.ref S1.length) (S1 ++ [some (.lst (((List.range n).map fun (k : Nat) => (k : Int)).map .int))])) E) : Wp (eLstRgM (eC (.int 0)) e ρ S) Q E := by
  refine wp_bind (wp_c (wp_bind (h.mono fun d S1 ⟨n, e, hn, q⟩ => ?_)))
  subst e
  have h : iRng 0 (n : Int) = ((List.range n).map fun (k : Nat) => (k : Int)).map .int := by rw [List.map_map]; exact iRng0 n
  show Wp (if -16777216 ≤ (0 : Int) ∧ (0 : Int) ≤ 16777216 ∧ -16777216 ≤ (n : Int) ∧ (n : Int) ≤ 16777216 ∧ ((n : Int) - 0).toNat ≤ 16777216 then _ else _) Q E
  rw [if_pos ⟨by omega, by omega, by omega, by omega, by omega⟩, h]
  exact ⟨q⟩
theorem gPopI {L : List Int} {v : Int} (h : 0 ≤ v ∧ v < L.length) (hl : L.length ≤ 1000000) : ∃ x ∈ L, gPopAt (L.map .int) [.int v] = some ((L.eraseIdx v.toNat).map .int, .int x) := by
  have hv : v.toNat < L.length := by omega
  refine ⟨L[v.toNat], List.getElem_mem _, ?_⟩
  have e1 : PySem.seqIndex? v (L.map D.int).length = some v.toNat := by
    unfold PySem.seqIndex?
    rw [List.length_map]
    simp [show ¬ v < 0 by omega, h.1, h.2]
  have e2 : (L.map D.int)[v.toNat]? = some (.int L[v.toNat]) := by rw [List.getElem?_map, List.getElem?_eq_getElem hv]; rfl
  have e3 : (L.map D.int).eraseIdx v.toNat = (L.eraseIdx v.toNat).map .int := by
    rw [List.eraseIdx_eq_take_drop_succ, List.eraseIdx_eq_take_drop_succ, List.map_append, List.map_take, List.map_drop]
  unfold gPopAt
  dsimp only
  rw [if_pos (by omega), e1]
  dsimp only
  rw [e2]
  dsimp only
  rw [e3]
/-! ### {k: v for ..}: of ints, the store stays -/
section
variable {Q : D → Sto → Prop} {E : Px} {ρ : Ev} {S : Sto} {t : Tg} {k e : Ex} {vs : List Nat} {it : Ix}
theorem wp_compD {α : Type} (f : α → D) (gk gv : α → Int) (S1 : Sto) : ∀ (l : List α) (acc : TB) (Q : List (D × D) → Sto → Prop), acc.length + l.length ≤ 16777216 →
    (∀ x ∈ l, ∃ ρ1, t.put (f x) (wipeD ρ vs) = some ρ1 ∧ Wp (k ρ1 S1) (fun y S2 => y = .int (gk x) ∧ S2 = S1) noX ∧ Wp (e ρ1 S1) (fun y S2 => y = .int (gv x) ∧ S2 = S1) noX) →
    Q (kI (l.foldl (fun a x => putI a (gk x) (gv x)) acc)) S1 → Wp (compD t tYesX k e vs (l.map f) ρ S1 (kI acc)) Q E
  | [], acc, Q, _, _, q => ⟨q⟩
  | x :: l, acc, Q, hl, st, q => by
    obtain ⟨ρ1, e1, h1, h2⟩ := st x (by simp)
    rw [List.map_cons]
    unfold compD
    rw [e1]
    dsimp only
    simp only [List.length_cons] at hl
    refine wp_bind (wp_nox (wp_tyes ?_))
    rw [if_pos rfl]
    refine wp_bind (wp_nox (h1.mono fun y S2 ⟨h, hS⟩ => ?_))
    subst h hS
    refine wp_bind (wp_nox (h2.mono fun y S3 ⟨h, hS⟩ => ?_))
    subst h hS
    show Wp (if (kI acc).length < sizeLine then _ else _) Q E
    rw [if_pos (by rw [kI_len, sizeLine_eq]; omega)]
    show Wp (compD t tYesX k e vs (l.map f) ρ _ (putD (kI acc) (.inl (gk x)) (.int (gv x)))) Q E
    rw [putD_I]
    have := put_len acc (gk x) (gv x)
    exact wp_compD f gk gv _ l _ Q (by omega) (fun y hy => st y (by simp [hy])) q
theorem wp_dcM {α : Type} (l : List α) (f : α → D) (gk gv : α → Int) (hl : l.length ≤ 16777216) (h : Wp (it ρ S) (fun xs S1 => xs = l.map f ∧
    (∀ x ∈ l, ∃ ρ1, t.put (f x) (wipeD ρ vs) = some ρ1 ∧ Wp (k ρ1 S1) (fun y S2 => y = .int (gk x) ∧ S2 = S1) noX ∧ Wp (e ρ1 S1) (fun y S2 => y = .int (gv x) ∧ S2 = S1) noX) ∧
    Q (.ref S1.length) (S1 ++ [some (.dic false (kI (l.foldl (fun a x => putI a (gk x) (gv x)) [])))])) E) : Wp (eDcM it t tYesX k e vs ρ S) Q E :=
  wp_bind (h.mono fun xs S1 ⟨h1, st, q⟩ => by
    subst h1
    exact wp_bind (wp_compD f gk gv S1 l [] _ (by simpa using hl) st ⟨q⟩))
end
end DL

/-! ## DMi -/
set_option Elab.async false
set_option linter.all false
set_option maxRecDepth 100000
set_option maxHeartbeats 4000000
namespace DL
open PySem PySem.Spec PyProof.Rows L2
/-! ### sorted(..) that will be written -/
def eSortM (fs : List Ex) : Ex := fun ρ S => (evL fs ρ S).bind fun ds S => match sortD (ds.map (view S)) with
  | some (.lst xs) => .ok (.ref S.length) (S ++ [some (.lst xs)])
  | _ => .bad
def rSortM (X : Cx) : List V → Hp → VK → Prop := fun xs H Q => ∃ ns : List Int, ns.length ≤ 16777216 ∧ ((∃ a, xs = [.ref a] ∧ SqL X.K H a (ns.map V.int)) ∨ (∃ a kv, xs = [.ref a] ∧ Rd H a (.dK kv) ∧ kv.map (·.1) = ns.map Sum.inl ∧ ns.length < 64)) ∧ ∀ p, H p = none → Q (.ref p) (upd H p (.lst ((isI ns).map V.int)))
section
variable {X : Cx} {W : WX} {e : Expr} {es : List Expr} {fs : List Ex} {pos p : Pos}
theorem cg_sortM (hc : X.calm = true) : CallR X (.builtin "sorted") (rSortM X) := by
  intro pins s σ H xs us Q I r ⟨ns, hl, h, k⟩
  rcases h with ⟨a, rfl, h1⟩ | ⟨a, kv, rfl, h1, h2, h3⟩
  · refine cr_sortedI pins s σ H _ us Q I r ⟨a, ns, rfl, h1, fun ns' p h2 h3 hp => ?_⟩
    have := isI_uniq h2 h3
    subst this
    exact k p hp
  · refine call_sortedDI hc pins s σ H _ us Q I r ⟨a, kv, ns, rfl, h1, h2, by omega, fun ys p h2 h3 hp => ?_⟩
    have := isI_uniq h2 h3
    subst this
    exact k p hp
theorem ev_sortM (hc : X.calm = true) (hg : Gl X "sorted") (hm : X.mg "sorted" = none) (ha : EVA X W (e :: es) fs) (hv : bootBuiltins "sorted" = some (.builtin "sorted") := by decide +kernel)
    (he : starEach (e :: es) X.env = (false, eval e X.env) :: starEach es X.env := by rfl) (hpl : (backTo pos (starEach es X.env)).any (·.1) = false := by rfl) : EV X W (.Call (.Name "sorted" p) (e :: es) [] pos) (eSortM fs) := by
  refine pe_imp (pe_callB (cg_sortM hc) hg hm hv ha (by decide) (by decide) he hpl) fun σ H Q h => ?_
  obtain ⟨B, m, ρ, S, r, re, f⟩ := upA_one (g := fun ds ρ S => match sortD (ds.map (view S)) with
    | some (.lst xs) => .ok (.ref S.length) (S ++ [some (.lst xs)])
    | _ => .bad) h
  refine ⟨B, m, ρ, S, r, re, finA.mono f fun vs H1 => ?_⟩
  rintro ⟨B, m, ρ, S, ds, r, re, q, f⟩
  split at f
  · rename_i xs e1
    have vx := vwA r q
    have fin : ∀ ns : List Int, xs = (isI ns).map D.int → ns.length ≤ 16777216 → ∀ p, H1 p = none → Q (.ref p) (upd H1 p (.lst ((isI ns).map V.int))) := fun ns ex hl p hp => by
      subst ex
      exact f (m ++ [p]) _ _ (Post.new r hp (.lst upd_same (by rw [List.length_map, isI_len, sizeLine_eq]; exact hl) (repA_ints _))) (rep_new r)
    unfold sortD at e1
    split at e1
    · rename_i ys e2
      rw [e2] at vx
      obtain ⟨ns, e3, e4⟩ := Option.map_eq_some_iff.mp e1
      obtain ⟨v, rfl, hv⟩ := vx.one
      obtain ⟨a, ws, rfl, h1, z1, q1⟩ := hv.asL
      have hw : ws = ns.map V.int := asIs_vals e3 q1
      subst hw
      have hl : ns.length ≤ 16777216 := by rw [List.length_map, sizeLine_eq] at z1; exact z1
      cases e4
      exact ⟨ns, hl, .inl ⟨a, rfl, SqL.of h1⟩, fin ns rfl hl⟩
    · rename_i kvs e2
      rw [e2] at vx
      split at e1
      · rename_i h64
        obtain ⟨ns, e3, e4⟩ := Option.map_eq_some_iff.mp e1
        obtain ⟨v, rfl, hv⟩ := vx.one
        obtain ⟨a, kv, rfl, h1, z1, q1⟩ := hv.asD
        have hk := asIs_eq e3
        rw [q1.keys] at hk
        have hk2 : kv.map (·.1) = ns.map Sum.inl := by
          have : (kv.map (·.1)).map keyD = (ns.map Sum.inl).map keyD := by
            rw [List.map_map, List.map_map]
            exact hk
          exact (List.map_inj_right fun a b h => by cases a <;> cases b <;> simp [keyD] at h <;> simp [h]).mp this
        have hl : ns.length = kvs.length := by
          have := congrArg List.length hk
          simp only [List.length_map] at this
          rw [← this, q1.length]
        cases e4
        exact ⟨ns, by omega, .inr ⟨a, kv, rfl, h1, hk2, by omega⟩, fin ns rfl (by omega)⟩
      · cases e1
    · cases e1
  · exact f.elim
end
/-! ### d != {} -/
def neDE (a b : D) : Option D := match a, b with
  | .dic false kvs, .dic false ls => if ls.isEmpty = true then some (.bl (!kvs.isEmpty)) else none
  | _, _ => none
section
variable {X : Cx}
theorem og_neE (hu : X.A.units + 64 < cLine) : OpR X (compareOp .NotEq) (rG2 X.K neDE) := by
  intro pins s σ H x y v u Q I rx ry ⟨Fb, m, dx, dy, d, fr, vx, vy, e, k⟩
  unfold neDE at e
  split at e
  · rename_i kvs ls
    split at e
    · rename_i hb
      cases e
      obtain ⟨a, kv, rfl, h1, z1, q1⟩ := vx.asD
      obtain ⟨b, lv, rfl, h2, z2, q2⟩ := vy.asD
      have hl0 : ls = [] := by simpa using hb
      subst hl0
      cases q2
      obtain rfl : v = Value.ref a := rx
      obtain rfl : u = Value.ref b := ry
      obtain ⟨_, ya, va, ra, da⟩ := dk_rd I.hok h1
      obtain ⟨_, yb, vb, rb, db⟩ := dk_rd I.hok h2
      cases rb
      have hl : kv.length = kvs.length := q1.length
      have hv : va.length = kv.length := ra.length.symm
      have he : kvs.isEmpty = va.isEmpty := by cases kvs <;> cases va <;> simp_all
      rw [he] at k
      exact PySem.W.keq_ne (knd := mixKind X.prog X.w) (r := true) ya yb da db (by omega) (fun hh => by
        have h0 : va = [] := by cases va with | nil => rfl | cons _ _ => simp at hh
        subst h0
        cases ra
        exact hits_all .nil .nil fun p hp => by simp at hp) (fin_bl I (k H _ (Same.refl H) (.bl _)) (by cases va <;> simp))
    · cases e
  · cases e
end
/-! ### a, b = x, y: stored without a tuple -/
def sPar (i j : Nat) (fs : List Ex) : Sx := fun ρ S => (evL fs ρ S).bindS ρ fun ds S => match ds with
  | [a, b] => .fl (.nx ((ρ.set i (some a)).set j (some b))) S
  | _ => .bad
theorem finA.bindS {K : PySem.W.Frag} {mg : Str → Option Value} {W : WX} {B : Addr → Prop} {m : List Addr} {S : Sto} {σ : L2.St} {H : Hp} {ρ : Ev} {E : Ends} {r : R (List D)} {g : List D → Sto → RS} (re : RepE K H (Fo B m S) m σ ρ) (rl : Rl K mg B m H S) (h : finS K mg W B m S H (r.bindS ρ g) E) :
    finA K mg W B m S σ H r (fun v H1 => ∃ m1 S1 d, Post K mg B m S H m1 S1 H1 ∧ RepA K H1 (Fo B m1 S1) m1 v d ∧ finS K mg W B m1 S1 H1 (g d S1) E) := by
  cases r with
  | ok d S' => exact fun m' H' v p r => ⟨m', S', d, p, r, finS.later p h⟩
  | exc c p' S' => exact fun m' H' cls dd p x => h m' H' σ cls dd p (re.kp (p.kp rl)) x
  | bad => exact h
theorem sv_par {X : Cx} {W : WX} {i j : Nat} {x y : Str} {a b : Expr} {fs : List Ex} {px py pt pos : Pos} {kt k2 pt2} (hc : X.calm = true) (hN : X.N.Nodup) (hi : X.N[i]? = some x) (hj : X.N[j]? = some y) (hij : i ≠ j)
    (hx : X.env.scope.names.lookup x = some .local) (hy : X.env.scope.names.lookup y = some .local) (ha : EVA X W [a, b] fs)
    (hw : swappedStores [.Tuple [.Name x px, .Name y py] kt pt] (.Tuple [a, b] k2 pt2) X.env = pure (some [x, y]) := by rfl)
    (hs : swapsWithSole [.Tuple [.Name x px, .Name y py] kt pt] (.Tuple [a, b] k2 pt2) pos.line X.env = pure false := by rfl) :
    SV X W (.Assign [.Tuple [.Name x px, .Name y py] kt pt] (.Tuple [a, b] k2 pt2) pos) (sPar i j fs) := by
  refine ps_imp (ps_par hc hN hi hj hij hx hy ha hw hs) fun E σ H h => ?_
  obtain ⟨B, m, ρ, S, r, re, f⟩ := h
  refine ⟨B, m, ρ, S, r, re, finA.mono (finA.bindS re r f) fun vs H1 => ?_⟩
  rintro ⟨m1, S1, ds, p, q, f1⟩
  split at f1
  · rename_i d1 d2
    cases q with
    | cons q1 q' =>
      cases q' with
      | cons q2 q3 =>
        cases q3
        exact ⟨_, _, rfl, f1 m1 H1 _ (Post.refl p.rl) (((re.kp (p.kp r)).set q1).set q2)⟩
  · exact f1.elim
theorem ws_par {Q : Fl → Sto → Prop} {E : Str → D → Ev → Sto → Prop} {ρ : Ev} {S : Sto} {i j : Nat} {fs : List Ex} (h : Wp (evL fs ρ S) (fun ds S1 => ∃ a b, ds = [a, b] ∧ Q (.nx ((ρ.set i (some a)).set j (some b))) S1) (fun c p S => E c p ρ S)) : Ws (sPar i j fs ρ S) Q E :=
  ws_bind (h.mono fun ds S1 ⟨a, b, e, q⟩ => by subst e; exact ⟨q⟩)
/-! ### tables of things by ints -/
def kA {α : Type} (f : α → D) (l : List (Int × α)) : List (D × D) := l.map fun p => (.int p.1, f p.2)
def dA {α : Type} (f : α → D) (l : List (Int × α)) : D := .dic false (kA f l)
def getA {α : Type} : List (Int × α) → Int → Option α
  | [], _ => none
  | p :: l, k => if p.1 = k then some p.2 else getA l k
def putA {α : Type} (l : List (Int × α)) (k : Int) (v : α) : List (Int × α) := if (l.any fun p => decide (p.1 = k)) = true then l.map (fun p => if p.1 = k then (p.1, v) else p) else l ++ [(k, v)]
section
variable {α : Type} {f : α → D}
theorem valD_A : ∀ (l : List (Int × α)) (k : Int), valD (kA f l) (.inl k) = (getA l k).map f
  | [], _ => rfl
  | p :: l, k => by
    have ih := valD_A l k
    unfold valD kA at ih ⊢
    simp only [List.map_cons, List.find?_cons, unK_int, getA]
    by_cases h : p.1 = k
    · simp [h]
    · simp only [h, decide_false, if_false]
      exact ih
theorem any_A (l : List (Int × α)) (k : Int) : ((kA f l).any fun p => decide (unK p.1 = some (.inl k))) = (l.any fun p => decide (p.1 = k)) := by
  unfold kA
  rw [List.any_map]
  congr 1
  funext p
  simp [unK]
theorem putD_A (l : List (Int × α)) (k : Int) (v : α) : putD (kA f l) (.inl k) (f v) = kA f (putA l k v) := by
  unfold putD putA
  rw [any_A]
  split
  · unfold kA
    rw [List.map_map, List.map_map]
    refine List.map_congr_left fun p _ => ?_
    simp only [Function.comp, unK_int]
    split <;> rfl
  · simp [kA, keyD]
theorem kA_len (l : List (Int × α)) : (kA f l).length = l.length := by simp [kA]
theorem keys_A (l : List (Int × α)) : (kA f l).map (·.1) = (l.map (·.1)).map D.int := by simp [kA]
theorem getA_mem : ∀ {l : List (Int × α)} {k : Int} {v : α}, getA l k = some v → (k, v) ∈ l
  | [], _, _, h => by cases h
  | p :: l, k, v, h => by
    unfold getA at h
    split at h
    · rename_i e
      cases h
      subst e
      simp
    · exact List.mem_cons_of_mem _ (getA_mem h)
theorem getA_none : ∀ {l : List (Int × α)} {k : Int}, getA l k = none ↔ k ∉ l.map (·.1)
  | [], k => by simp [getA]
  | p :: l, k => by
    unfold getA
    have := @getA_none l k
    by_cases e : p.1 = k
    · simp [e]
    · rw [if_neg e, this, List.map_cons, List.mem_cons]
      have e' : ¬ k = p.1 := fun z => e z.symm
      simp only [e', false_or]
theorem getA_has {l : List (Int × α)} {k : Int} (h : k ∈ l.map (·.1)) : ∃ v, getA l k = some v := by
  cases e : getA l k with
  | none => exact absurd h (getA_none.mp e)
  | some v => exact ⟨v, rfl⟩
theorem putA_mem {l : List (Int × α)} {k : Int} {v : α} {p : Int × α} (h : p ∈ putA l k v) : p ∈ l ∨ p = (k, v) := by
  unfold putA at h
  split at h
  · obtain ⟨q, h1, rfl⟩ := List.mem_map.mp h
    split
    · rename_i e
      right
      rw [e]
    · exact .inl h1
  · simpa using h
theorem putA_len (l : List (Int × α)) (k : Int) (v : α) : (putA l k v).length ≤ l.length + 1 := by
  unfold putA
  split <;> simp
theorem putA_keys {l : List (Int × α)} {k : Int} {v : α} (h : k ∈ l.map (·.1)) : (putA l k v).map (·.1) = l.map (·.1) := by
  unfold putA
  have : (l.any fun p => decide (p.1 = k)) = true := by
    obtain ⟨p, h1, h2⟩ := List.mem_map.mp h
    exact List.any_eq_true.mpr ⟨p, h1, decide_eq_true h2⟩
  rw [if_pos this, List.map_map]
  refine List.map_congr_left fun p _ => ?_
  simp only [Function.comp]
  split <;> rfl
theorem putA_new {l : List (Int × α)} {k : Int} {v : α} (h : k ∉ l.map (·.1)) : putA l k v = l ++ [(k, v)] := by
  unfold putA
  have : ¬ (l.any fun p => decide (p.1 = k)) = true := fun z => h (by
    obtain ⟨p, h1, h2⟩ := List.any_eq_true.mp z
    exact List.mem_map.mpr ⟨p, h1, of_decide_eq_true h2⟩)
  rw [if_neg this]
end
section
variable {α : Type} {f : α → D} {Q : D → Prop} {S : Sto} {n : Nat} {l : List (Int × α)} {k : Int} {v : α} {y : D}
theorem vo_vwA1 {g : D → D → Option D} (h : S[n]? = some (some (.dic false (kA f l)))) (q : Wo (g (view S (dA f l)) y) Q) : Wo (g (view S (.ref n)) y) Q := by
  have : view S (.ref n) = view S (dA f l) := by simp only [view, h]; rfl
  rw [this]; exact q
theorem vo_vwAc {g : List D → Option D} (h : S[n]? = some (some (.dic false (kA f l)))) (q : Wo (g (List.map (view S) [dA f l])) Q) : Wo (g (List.map (view S) [.ref n])) Q := by
  have : view S (.ref n) = view S (dA f l) := by simp only [view, h]; rfl
  have e : List.map (view S) [.ref n] = List.map (view S) [dA f l] := by simp only [List.map_cons, List.map_nil, this]
  rw [e]; exact q
theorem vo_ixA (h : getA l k = some v) (q : Q (f v)) : Wo (ixD (view S (dA f l)) (view S (.int k))) Q := by
  refine .of (d := f v) ?_ q
  show valD (kA f l) (.inl k) = _
  rw [valD_A, h]; rfl
theorem vo_sortA (h : l.length < 64) (q : Q (.lst ((isI (l.map (·.1))).map .int))) : Wo (sortD (List.map (view S) [dA f l])) Q := by
  refine .of ?_ q
  show (if (kA f l).length < 64 then (asIs ((kA f l).map (·.1))).map (fun ns => D.lst ((isI ns).map .int)) else none) = _
  rw [if_pos (by rw [kA_len]; exact h), keys_A, asIs_I]; rfl
theorem vo_lenA (q : Q (.int l.length)) : Wo (lenD (List.map (view S) [dA f l])) Q := by
  refine .of ?_ q
  show some (D.int (kA f l).length) = _
  rw [kA_len]
theorem vo_neE {m : Nat} (h : S[m]? = some (some (.dic false []))) (q : Q (.bl (!l.isEmpty))) : Wo (neDE (view S (dA f l)) (view S (.ref m))) Q := by
  have : view S (.ref m) = .dic false [] := by simp only [view, h]
  rw [this]
  refine .of ?_ q
  show (if ([] : List (D × D)).isEmpty = true then some (D.bl (!(kA f l).isEmpty)) else none) = _
  cases l <;> rfl
end
section
variable {α : Type} {f : α → D} {Q : D → Sto → Prop} {E : Px} {ρ : Ev} {S : Sto} {o g x : Ex}
theorem wp_dnewA (q : Q (.ref S.length) (S ++ [some (.dic false [])])) : Wp (eDNew ρ S) Q E := ⟨q⟩
theorem ws_setA (f : α → D) {Q : Fl → Sto → Prop} {E : Str → D → Ev → Sto → Prop} {e o i : Ex} (h : Wp (e ρ S) (fun z S1 => Wp (o ρ S1) (fun d S2 => Wp (i ρ S2) (fun k S3 => ∃ (n : Nat) (l : List (Int × α)) (j : Int) (v : α), d = .ref n ∧ k = .int j ∧ z = f v ∧ S3[n]? = some (some (.dic false (kA f l))) ∧ l.length < 16777216 ∧ Q (.nx ρ) (S3.set n (some (.dic false (kA f (putA l j v)))))) (fun c p S => E c p ρ S)) (fun c p S => E c p ρ S)) (fun c p S => E c p ρ S)) : Ws (sSetIx o i e ρ S) Q E :=
  ws_bind (h.mono fun z S1 h => ws_bind (h.mono fun d S2 h => ws_bind (h.mono fun k S3 ⟨n, l, j, v, e1, e2, e3, h1, h2, q⟩ => by
    subst e1 e2 e3
    have e0 : lstOf S3 (.ref n) = none := by simp only [lstOf, h1]
    have e1 : dicOf S3 (.ref n) = some (n, kA f l) := by simp only [dicOf, h1]
    have e4 : putAtD S3 (.ref n) (.int j) (f v) = some (S3.set n (some (.dic false (kA f (putA l j v))))) := by
      unfold putAtD
      rw [e1]
      show (if (kA f l).length < sizeLine then some (S3.set n (some (.dic false (putD (kA f l) (.inl j) (f v))))) else none) = _
      rw [if_pos (by rw [kA_len, sizeLine_eq]; exact h2), putD_A]
    rw [e0]
    dsimp only
    rw [e4]
    exact ⟨q⟩)))
theorem ws_frzA {Q : Fl → Sto → Prop} {E : Str → D → Ev → Sto → Prop} {i n : Nat} {s : Sx} {kvs : List (D × D)} (h0 : ρ[i]? = some (some (.ref n))) (h1 : S[n]? = some (some (.dic false kvs))) (h : Ws (s (ρ.set i (some (.dic false kvs))) (S.set n none)) Q E) : Ws (sFrz i s ρ S) Q E := by
  unfold sFrz
  simp only [h0, h1]
  exact h
theorem wp_sortM {fs : List Ex} (h : Wp (evL fs ρ S) (fun ds S1 => ∃ xs, sortD (ds.map (view S1)) = some (.lst xs) ∧ Q (.ref S1.length) (S1 ++ [some (.lst xs)])) E) : Wp (eSortM fs ρ S) Q E := wp_bind (h.mono fun ds S1 ⟨xs, e, q⟩ => by
  rw [e]; exact ⟨q⟩)
theorem wp_reprV {f : Ex} (h : Wp (f ρ S) (fun d S1 => ∃ p : PyData, toQ S1 d = some p ∧ showsD p = true ∧ Q (.str p.shown) S1) E) : Wp (eReprQ f ρ S) Q E :=
  wp_bind (h.mono fun d S1 ⟨p, h1, h2, q⟩ => wp_ans (.of (by simp only [reprQ, h1, Option.bind, h2, if_true]) q))
end
end DL

/-! ## DMj -/
set_option Elab.async false
set_option linter.all false
set_option maxRecDepth 100000
set_option maxHeartbeats 4000000
namespace DL
open PySem PySem.Spec PyProof.Rows L2
/-! ### zip, the first no longer than the second -/
def ItzN (t1 t2 : Bool) (K : PySem.W.Frag) (a b : Addr) : It :=
  ⟨fun i H => ∃ (xs ys : List V) (x y : V), SqB t1 K H a xs ∧ SqB t2 K H b ys ∧ xs[i]? = some x ∧ ys[i]? = some y,
    fun i H v H' => ∃ T x y, v = .ref T ∧ H T = none ∧ H' = upd H T (.tup [x, y]) ∧ (∀ xs, SqB t1 K H a xs → xs[i]? = some x) ∧ ∀ ys, SqB t2 K H b ys → ys[i]? = some y,
    fun i H => ∃ xs ys : List V, SqB t1 K H a xs ∧ SqB t2 K H b ys ∧ xs.length ≤ i⟩
section
variable {K : PySem.W.Frag} {H : Hp} {Fb : Addr → Prop} {m : List Addr}
theorem itr_zipN {t1 t2 : Bool} {a b : Addr} {xs ys : List D} {vs ws : List V} (q1 : RepA K H Fb m vs xs) (q2 : RepA K H Fb m ws ys) (h1 : ∀ H2 F2 m2, Kp H H2 Fb F2 m m2 → SqB t1 K H2 a vs) (h2 : ∀ H2 F2 m2, Kp H H2 Fb F2 m m2 → SqB t2 K H2 b ws)
    (hl : xs.length ≤ ys.length) : ItR K H Fb m (ItzN t1 t2 K a b) (zipDs xs ys) := by
  intro H2 F2 m2 k
  have s1 := h1 H2 F2 m2 k
  have s2 := h2 H2 F2 m2 k
  have l1 := q1.length
  have l2 := q2.length
  have hz : (zipDs xs ys).length = xs.length := by simp [zipDs]; omega
  refine ⟨fun i hi => ?_, fun i hi => ⟨vs, ws, s1, s2, by omega⟩⟩
  rw [hz] at hi
  obtain ⟨v, ev, rv⟩ := (q1.kp k).get (d := xs[i]) (List.getElem?_eq_getElem hi)
  obtain ⟨w, ew, rw'⟩ := (q2.kp k).get (d := ys[i]'(by omega)) (List.getElem?_eq_getElem (by omega))
  refine ⟨⟨vs, ws, v, w, s1, s2, ev, ew⟩, fun x H3 y => ?_⟩
  obtain ⟨T, x1, y1, e1, e2, e3, e4, e5⟩ := y
  subst e1 e3
  have a1 := e4 vs s1
  rw [ev] at a1; cases a1
  have a2 := e5 ws s2
  rw [ew] at a2; cases a2
  refine ⟨.tup [xs[i], ys[i]'(by omega)], by rw [zipDs, List.getElem?_map, List.getElem?_eq_getElem (show i < (xs.zip ys).length by simp; omega), List.getElem_zip]; rfl, same_upd e2, ?_⟩
  exact .tup (.of upd_same) (by show 2 ≤ sizeLine; decide) ((RepA.cons rv (.cons rw' .nil)).kp (kp_same (same_upd e2)))
end
section
variable {prog : Program} {w : World} {A : Around} {E : Value → Shared → Prop} {s : Shared}
theorem zipN_next_end2 {t1 t2 : Bool} {z TI TO i1 i2 l1 l2 : Addr} {k1 k2 : Nat} {xs ys : Array Value} {a b : Value} {Q : Fin → Shared → Prop} (hh : A.handled = none) (D : ZipApart z TI TO i1 i2 l1 l2)
    (hz : IsZipB false s.heap z TI TO .none) (hTI : IsPair s.heap TI (.ref i1) (.ref i2)) (hTO : IsPair s.heap TO a b)
    (h1 : SI t1 s.heap i1 l1 k1) (h2 : SI t2 s.heap i2 l2 k2) (hl1 : SS t1 s.heap l1 xs) (hl2 : SS t2 s.heap l2 ys) (hx : xs[k1]? = none)
    (hE : ∀ h' e, (∀ c o, c ≠ z → c ≠ TO → c ≠ i1 → c ≠ i2 → s.heap.get? c = some o → h'.get? c = some o) → (∃ o, h'.get? e = some o ∧ o.cls = .type "StopIteration") → E (.ref e) { s with heap := h' }) :
    wpAny (model prog w) A (Builtin.«zip.__next__» ⟨[.ref z], []⟩) Q E s := by
  show wpAny _ _ (field (.ref z) 2 >>= _) _ _ _
  refine wpAny_bind (wpAny_field hz rfl (x := .bool false) rfl ?_)
  show wpAny _ _ (field (.ref z) 3 >>= _) _ _ _
  refine wpAny_bind (wpAny_field hz rfl (x := .ref TI) rfl ?_)
  refine wpAny_bind (wpAny_seqItems hTI rfl ?_)
  show wpAny _ _ (Builtin.SmallTypes.ownedTupleIsFree (.ref z) >>= _) _ _ _
  refine wpAny_bind ?_
  unfold Builtin.SmallTypes.ownedTupleIsFree
  refine wpAny_bind (wpAny_field hz rfl (x := .none) rfl (wpAny_pure ?_))
  simp only [if_true]
  refine wpAny_bind (wpAny_rule ?_)
  refine wpAny_bind (wpAny_field hz rfl (x := .ref TO) rfl ?_)
  refine wpAny_bind (wpAny_setField_rec hz (by simp) fun g1 hg1 hb1 => ?_)
  replace hg1 : IsZipB false g1 z TI TO .ellipsis := hg1
  refine wpAny_bind ?_
  simp only [List.zipIdx_cons, List.zipIdx_nil, List.forIn_cons, List.forIn_nil]
  refine wpAny_bind (wpAny_bind (wpAny_onRaise ?_))
  show wpAny _ _ (Builtin.SmallTypes.nextOf (.ref i1) >>= _) _ _ _
  refine wpAny_bind (src_end hh (h1.extBut hb1.extBut D.i1z) (hl1.extBut hb1.extBut D.l1z) hx fun g2 e hb2 he => ?_)
  obtain ⟨oe, hoe, hce⟩ := he
  have hg2 : IsZipB false g2 z TI TO .ellipsis := hb2 _ _ D.i1z.symm hg1
  have hez : e ≠ z := by
    rintro rfl
    rw [hg2] at hoe
    cases hoe
    simp at hce
  exact wpAny_setField_rec hg2 (by simp) fun g3 _ hb3 => hE g3 e (fun c o c1 _ c3 _ x => hb3.extBut _ _ c1 (hb2 _ _ c3 (hb1.extBut _ _ c1 x))) ⟨oe, hb3.extBut _ _ hez hoe, hce⟩
theorem pyNext_zipN_end2 {t1 t2 : Bool} {z TI TO i1 i2 l1 l2 : Addr} {k1 k2 : Nat} {xs ys : Array Value} {a b : Value} {Q : Option Value → Shared → Prop} (hh : A.handled = none) (D : ZipApart z TI TO i1 i2 l1 l2)
    (hz : IsZipB false s.heap z TI TO .none) (hTI : IsPair s.heap TI (.ref i1) (.ref i2)) (hTO : IsPair s.heap TO a b)
    (h1 : SI t1 s.heap i1 l1 k1) (h2 : SI t2 s.heap i2 l2 k2) (hl1 : SS t1 s.heap l1 xs) (hl2 : SS t2 s.heap l2 ys) (hx : xs[k1]? = none)
    (hQ : ∀ h', (∀ c o, c ≠ z → c ≠ TO → c ≠ i1 → c ≠ i2 → s.heap.get? c = some o → h'.get? c = some o) → Q none { s with heap := h' }) : wpAny (model prog w) A (pyNext (.ref z)) Q E s := by
  have hT : s.TypeIs (.ref z) "zip" := ⟨_, hz, rfl⟩
  unfold pyNext
  refine wpAny_bind (wpAny_attempt (wpAny_callSpecial?_slot (name := Str.ofString "__next__") hT F.slot_zip_next
    (wpAny_call_entry F.slot_zip_next hT F.entry_zip_next (zipN_next_end2 hh D hz hTI hTO h1 h2 hl1 hl2 hx fun h' e hk he => ?_) (F.args_zip_next_1 _))))
  obtain ⟨o, ho, hc⟩ := he
  refine wpAny_bind (wpAny_isInstance (T := "StopIteration") (b := true) ⟨o, ho, hc⟩ isSubtype_stop ?_)
  exact wpAny_pure (hQ _ hk)
end
theorem turn_zipN2 {t1 t2 : Bool} {P : Program} {w : World} {K : PySem.W.Frag} {elts : List Expr} {kk : Nat} {tpos : Pos} {a b z TI TO i1 i2 : Addr} (D : ZipApart z TI TO i1 i2 a b) :
    Turn P w K (.Tuple elts kk tpos) (ItzN t1 t2 K a b) [z, TI, TO, i1, i2] z (fun i h => IsZipB false h z TI TO .none ∧ IsPair h TI (.ref i1) (.ref i2) ∧ (∃ x y, IsPair h TO x y) ∧ SI t1 h i1 a i ∧ SI t2 h i2 b i) where
  mem := by simp
  obj := fun i h st c hc => by
    obtain ⟨hz, hTI, ⟨x, y, hTO⟩, h1, h2⟩ := st
    have e' : c = z ∨ c = TI ∨ c = TO ∨ c = i1 ∨ c = i2 := by simpa using hc
    rcases e' with q | q | q | q | q
    · rw [q]; exact ⟨_, hz, fun v q => nomatch q⟩
    · rw [q]; exact ⟨_, hTI, fun v q => nomatch q⟩
    · rw [q]; exact ⟨_, hTO, fun v q => nomatch q⟩
    · rw [q]; exact h1.obj
    · rw [q]; exact h2.obj
  keep := fun i h h' st k => by
    obtain ⟨hz, hTI, ⟨x, y, hTO⟩, h1, h2⟩ := st
    exact ⟨k z (by simp) _ hz, k TI (by simp) _ hTI, ⟨x, y, k TO (by simp) _ hTO⟩, h1.at fun o q => k i1 (by simp) o q, h2.at fun o q => k i2 (by simp) o q⟩
  item := by
    intro X hP hw hK hc i pins s σ H E I hf st hg
    subst hP hw hK
    obtain ⟨hz, hTI, ⟨x0, y0, hTO⟩, h1, h2⟩ := st
    obtain ⟨xs, ys, x, y, hqx, hqy, hx, hy⟩ := hg
    obtain ⟨its, rv, p⟩ := seqB I hqx
    obtain ⟨its2, rv2, p2⟩ := seqB I hqy
    obtain ⟨u, hu, ru⟩ := rv.get hx
    obtain ⟨u2, hu2, ru2⟩ := rv2.get hy
    have hzl : z < s.heap.objs.size := Heap.lt_size hz
    refine pyNext_zipN_item D hz hTI hTO h1 h2 p p2 (x := u) (y := u2) (by simpa using hu) (by simpa using hu2) fun h' z' TO' h1' h2' hT hsz hk => ?_
    refine ⟨_, rfl, letGo_zipN (s := { s with heap := h' }) z' fun h'' z'' sb => ?_⟩
    have hT2 : h''.get? s.heap.objs.size = some { cls := .type "tuple", data := .seq #[u, u2] } := (sb.2 _ (Nat.ne_of_gt hzl)).trans hT
    have new : ObjOk X.prog X.w (upd H s.heap.objs.size (.tup [x, y])) h'' s.heap.objs.size (.tup [x, y]) :=
      ⟨by show 2 ≤ sizeLine; decide, [u, u2], .cons ru (.cons ru2 .nil), ⟨_, hT2, rfl, _, rfl⟩⟩
    have I1 : Inv X pins σ (upd H s.heap.objs.size (.tup [x, y])) { s with heap := h'' } :=
      I.turnedNew (t' := s.toks) (ch := [z, TI, TO, i1, i2]) (fun c o hb q => (sb.2 c (fun q' => hb (by simp [q']))).trans (hk c o (fun q' => hb (by simp [q'])) (fun q' => hb (by simp [q'])) (fun q' => hb (by simp [q'])) (fun q' => hb (by simp [q'])) q)) hf (Nat.le_refl _) new
    refine ⟨.ref s.heap.objs.size, _, I1, rfl, ⟨_, x, y, rfl, I.hok.fresh (Nat.le_refl _), rfl, fun l hl => by rw [seqB_inj I hl hqx]; exact hx, fun l hl => by rw [seqB_inj I hl hqy]; exact hy⟩, ⟨z'', ?_, ⟨u, u2, ?_⟩, ?_, ?_⟩, fun c hcm => ?_⟩
    · exact (sb.2 _ D.TIz).trans (hk _ _ D.TIz D.TITO D.TIi1 D.TIi2 hTI)
    · exact (sb.2 _ D.TOz).trans TO'
    · exact h1'.at fun o q => (sb.2 _ D.i1z).trans q
    · exact h2'.at fun o q => (sb.2 _ D.i2z).trans q
    · have hlt : c < s.heap.objs.size := by
        have e' : c = z ∨ c = TI ∨ c = TO ∨ c = i1 ∨ c = i2 := by simpa using hcm
        rcases e' with q | q | q | q | q
        · rw [q]; exact hzl
        · rw [q]; exact Heap.lt_size hTI
        · rw [q]; exact Heap.lt_size hTO
        · rw [q]; exact h1.lt
        · rw [q]; exact h2.lt
      rw [upd_ne (Nat.ne_of_lt hlt)]
      exact (hf c hcm).1
  done := by
    intro X hP hw hK hc i pins s σ H E I hf st hg
    subst hP hw hK
    obtain ⟨hz, hTI, ⟨x0, y0, hTO⟩, h1, h2⟩ := st
    obtain ⟨xs, ys, hqx, hqy, he1⟩ := hg
    obtain ⟨its, rv, p⟩ := seqB I hqx
    obtain ⟨its2, rv2, p2⟩ := seqB I hqy
    have l1 := rv.length
    have l2 := rv2.length
    exact pyNext_zipN_end2 (I.ok.hd hc) D hz hTI hTO h1 h2 p p2 (by simp; omega) fun h' hk => ⟨rfl, I.turnedL (t' := s.toks) (ch := [z, TI, TO, i1, i2]) (fun c o hb q =>
      hk c o (fun q' => hb (by simp [q'])) (fun q' => hb (by simp [q'])) (fun q' => hb (by simp [q'])) (fun q' => hb (by simp [q'])) q) hf⟩
  self := fun A i s Q E st h => pyIter_zipN st.1 h
def iZipN (a b : Ex) : Ix := fun ρ S => (a ρ S).bind fun x S => (b ρ S).bind fun y S => match asSq x, asSq y with
  | some p, some q => if p.2.length ≤ q.2.length then .ok (zipDs p.2 q.2) S else .bad
  | _, _ => .bad
section
variable {X : Cx} {W : WX} {e e2 : Expr} {fa fb : Ex} {p pos tpos : Pos} {elts : List Expr} {kk : Nat}
theorem iv_zipN (hg : Gl X "zip") (hm : X.mg "zip" = none) (ha : EV X W e fa) (hb : EV X W e2 fb) (hs2 : starEach [e2] X.env = [(false, eval e2 X.env)] := by rfl)
    (he1 : starEach [e, e2] X.env = (false, eval e X.env) :: starEach [e2] X.env := by rfl) (hpl : (backTo pos (starEach [e2] X.env)).any (·.1) = false := by rfl) :
    IV X W (.Tuple elts kk tpos) (.Call (.Name "zip" p) [e, e2] [] pos) (iZipN fa fb) := by
  refine ⟨fun pins s σ H R I h => ?_⟩
  obtain ⟨B, m, ρ, S, r, re, f⟩ := h
  have hA : upA X.K X.mg W (evL [fa, fb]) σ H fun vs H1 => ∃ B m S ρ dx dy v1 v2, vs = [v1, v2] ∧ Rl X.K X.mg B m H1 S ∧ RepE X.K H1 (Fo B m S) m σ ρ ∧ Rep X.K H1 (Fo B m S) m v1 dx ∧ Rep X.K H1 (Fo B m S) m v2 dy ∧
      finI X.K X.mg W B m S σ H1 (match asSq dx, asSq dy with | some p, some q => if p.2.length ≤ q.2.length then .ok (zipDs p.2 q.2) S else .bad | _, _ => .bad) R := by
    refine ⟨B, m, ρ, S, r, re, ?_⟩
    have f' : finI X.K X.mg W B m S σ H ((fa ρ S).bind fun x S => (fb ρ S).bind fun y S => match asSq x, asSq y with | some p, some q => if p.2.length ≤ q.2.length then .ok (zipDs p.2 q.2) S else .bad | _, _ => .bad) R := f
    unfold evL evL evL
    cases e1 : fa ρ S with
    | bad => rw [e1] at f'; exact f'.elim
    | exc c p S1 => rw [e1] at f'; exact f'
    | ok dx S1 =>
      rw [e1] at f'
      simp only [DL.R.bind] at f' ⊢
      cases e2 : fb ρ S1 with
      | bad => rw [e2] at f'; exact f'.elim
      | exc c p S1 => rw [e2] at f'; exact f'
      | ok dy S2 =>
        rw [e2] at f'
        simp only [DL.R.bind] at f' ⊢
        intro m' H' vs po q
        cases q with
        | cons q1 qt =>
          cases qt with
          | cons q2 qn =>
            cases qn
            exact ⟨B, m', S2, ρ, dx, dy, _, _, rfl, po.rl, re.kp (po.kp r), q1, q2, finI.later po f'⟩
  have hpa : PA X [e, e2] (upA X.K X.mg W (evL [fa, fb])) := ea_cons ha (ea_cons hb ea_nil hs2) he1
  refine Call_ (ld_blt I hg hm PyProof.Rows.boot_zip (PyProof.Rows.callWith_type1 (thn (hpa.run pos pins s σ H _ I hA) fun us s1 ⟨vs, H1, I1, r1, q1⟩ => ?_) he1 hpl))
  obtain ⟨B, m, S, ρ, dx, dy, v1, v2, rfl, rl, re, rx, ry, fI⟩ := q1
  obtain ⟨u1, u2, rfl, ru1, ru2⟩ := vals2 r1
  cases e1 : asSq dx with
  | none => rw [e1] at fI; exact fI.elim
  | some p =>
    cases e2 : asSq dy with
    | none => rw [e1, e2] at fI; exact fI.elim
    | some q =>
      rw [e1, e2] at fI
      dsimp only at fI
      split at fI
      · rename_i hl
        obtain ⟨a, vs, rfl, qa, sa, ka⟩ := asSq_rep rx e1
        obtain ⟨b, ws, rfl, qb, sb, kb⟩ := asSq_rep ry e2
        cases ru1
        cases ru2
        obtain ⟨its, rv, p1⟩ := seqB I1 sa
        obtain ⟨its2, rv2, p2⟩ := seqB I1 sb
        refine call_zipN p1 p2 fun h' hz hTI hTO h1 h2 hsz hk => pyIter_zipN hz ?_
        have I2 : Inv X pins σ H1 { s1 with heap := h' } := I1.kept (t' := s1.toks) hk
        exact ⟨s1.heap.objs.size + 4, [s1.heap.objs.size + 4, s1.heap.objs.size + 2, s1.heap.objs.size + 3, s1.heap.objs.size, s1.heap.objs.size + 1], _, _, H1, rfl, I2, turn_zipN2 (PySem.W.ktu_apart s1.heap.objs.size a b p1.lt p2.lt), ⟨hz, hTI, ⟨_, _, hTO⟩, h1, h2⟩, fresh5 I1, fI m H1 _ (Post.refl rl) (itr_zipN qa qb ka kb hl)⟩
      · exact fI.elim
end
section
variable {Q : List D → Sto → Prop} {E : Px} {ρ : Ev} {S : Sto} {a b : Ex}
theorem wi_zipN (h : Wp (a ρ S) (fun x S1 => Wp (b ρ S1) (fun y S2 => ∃ xs ys, (x = .lst xs ∨ x = .tup xs) ∧ (y = .lst ys ∨ y = .tup ys) ∧ xs.length ≤ ys.length ∧ Q (zipDs xs ys) S2) E) E) : Wp (iZipN a b ρ S) Q E :=
  wp_bind (h.mono fun d S1 h => wp_bind (h.mono fun d2 S2 ⟨xs, ys, e1, e2, hl, q⟩ => by
    rcases e1 with rfl | rfl <;> rcases e2 with rfl | rfl <;> simp only [asSq] <;> rw [if_pos hl] <;> exact ⟨q⟩))
end
end DL

/-! ## DMk -/
set_option Elab.async false
set_option linter.all false
set_option maxRecDepth 100000
set_option maxHeartbeats 4000000
namespace DL
open PySem PySem.Spec PyProof.Rows L2
/-! ### enumerate(list) -/
def enumDs (xs : List D) : List D := (List.range xs.length).zip xs |>.map fun p => .tup [.int (p.1 : Nat), p.2]
def iEnumL (e : Ex) : Ix := fun ρ S => (e ρ S).bind fun d S => match d with
  | .lst xs => .ok (enumDs xs) S
  | _ => .bad
section
variable {K : PySem.W.Frag} {H : Hp} {Fb : Addr → Prop} {m : List Addr}
theorem enum_len (xs : List D) : (enumDs xs).length = xs.length := by simp [enumDs]
theorem enum_at {xs : List D} {i : Nat} (h : i < xs.length) : (enumDs xs)[i]? = some (.tup [.int (i : Nat), xs[i]]) := by
  unfold enumDs
  rw [List.getElem?_map, List.getElem?_eq_getElem (show i < ((List.range xs.length).zip xs).length by simp; omega), List.getElem_zip]
  simp
theorem itr_enum {a : Addr} {xs : List D} {vs : List V} (q1 : RepA K H Fb m vs xs) (h1 : ∀ H2 F2 m2, Kp H H2 Fb F2 m m2 → SqL K H2 a vs) : ItR K H Fb m (Ite K a) (enumDs xs) := by
  intro H2 F2 m2 k
  have s1 := h1 H2 F2 m2 k
  have l1 := q1.length
  refine ⟨fun i hi => ?_, fun i hi => ⟨vs, s1, by rw [enum_len] at hi; omega⟩⟩
  rw [enum_len] at hi
  obtain ⟨v, ev, rv⟩ := (q1.kp k).get (d := xs[i]) (List.getElem?_eq_getElem hi)
  refine ⟨⟨vs, v, s1, ev⟩, fun x H3 y => ?_⟩
  obtain ⟨T, x1, e1, e2, e3, e4⟩ := y
  subst e1 e3
  have a1 := e4 vs s1
  rw [ev] at a1; cases a1
  refine ⟨.tup [.int (i : Nat), xs[i]], enum_at hi, same_upd e2, ?_⟩
  exact .tup (.of upd_same) (by show 2 ≤ sizeLine; decide) ((RepA.cons (.int _) (.cons rv .nil)).kp (kp_same (same_upd e2)))
end
section
variable {X : Cx} {W : WX} {e : Expr} {fe : Ex} {p pos tpos : Pos} {elts : List Expr} {kk : Nat}
theorem iv_enum (hg : Gl X "enumerate") (hm : X.mg "enumerate" = none) (he : EV X W e fe) (hs : starEach [e] X.env = [(false, eval e X.env)] := by rfl) (hs2 : starEach [e] X.env = (false, eval e X.env) :: starEach [] X.env := by rfl) : IV X W (.Tuple elts kk tpos) (.Call (.Name "enumerate" p) [e] [] pos) (iEnumL fe) := by
  refine ⟨fun pins s σ H R I h => (pi_enum hg hm (ea_cons he ea_nil hs2) hs).run pins s σ H R I ?_⟩
  obtain ⟨B, m, ρ, S, r, re, f⟩ := h
  refine ⟨B, m, ρ, S, r, re, ?_⟩
  have f' : finI X.K X.mg W B m S σ H ((fe ρ S).bind fun d S => match d with | .lst xs => .ok (enumDs xs) S | _ => .bad) R := f
  unfold evL evL
  cases e1 : fe ρ S with
  | bad => rw [e1] at f'; exact f'.elim
  | exc c p S1 => rw [e1] at f'; exact f'
  | ok d S1 =>
    rw [e1] at f'
    simp only [DL.R.bind] at f' ⊢
    intro m' H' vs po q
    cases q with
    | cons q1 qn =>
      cases qn
      cases d with
      | lst xs =>
        cases q1 with
        | lst h nf z qq =>
          exact ⟨_, _, rfl, SqL.of h, finI.later po f' m' H' _ (Post.refl po.rl) (itr_enum qq fun H2 F2 m2 k => SqL.of (k.lst _ _ h nf))⟩
      | _ => exact f'.elim
theorem wi_enum {Q : List D → Sto → Prop} {E : Px} {ρ : Ev} {S : Sto} {a : Ex} (h : Wp (a ρ S) (fun x S1 => ∃ xs, x = .lst xs ∧ Q (enumDs xs) S1) E) : Wp (iEnumL a ρ S) Q E := wp_bind (h.mono fun d S1 ⟨xs, e, q⟩ => by
  subst e; exact ⟨q⟩)
end
end DL

/-! ## DMl -/
set_option Elab.async false
set_option linter.all false
set_option maxRecDepth 100000
set_option maxHeartbeats 4000000
namespace DL
open PySem PySem.Spec PyProof.Rows L2
/-! ### set(x) of a list of ints, by the road of L2.call_set_tupI -/
section
variable {P : Program} {w : World} {A : Around} {E : Value → Shared → Prop} {s : Shared}
set_option maxRecDepth 100000 in
set_option maxHeartbeats 3200000 in
theorem call_set_listI {l : Addr} {items : Array Value} (ns : List Int) {Q : Value → Shared → Prop} (hh : A.handled = none) (hl : s.heap.IsList l items) (hit : IntsAre items.toList ns) (hb : ns.length + 1 < scanBound)
    (h : ∀ (h' : Heap) (tk c : Nat), SetR w h' s.heap.objs.size (fun j => decide (j ∈ ns)) c → c ≤ ns.length → (∀ b o, s.heap.get? b = some o → h'.get? b = some o) → Q (.ref s.heap.objs.size) { s with heap := h', toks := tk }) :
    wpAny (model P w) A (call (.type "set") [.ref l]) Q E s := by
  have hisz : items.size = ns.length := by
    have q := IntsAre.length hit
    rw [Array.length_toList] at q
    exact q
  obtain ⟨c, tl, hmro⟩ := F.called_set.mro
  have hmade := F.called_set.made
  have hsub := F.called_set.sub
  refine wpAny_call (codeAny_of_tree ?_)
  show wpAny _ _ (callAny (.type "set") _) _ _ _
  refine wpAny_pure ⟨Code.quiet_builtin _ (by decide +kernel), codeAny_builtin F.entry_type_call ?_⟩
  rw [Around.under_plain (weight_type_call_type "set" [.ref l] []) rfl]
  have h1 := F.called_set.notType
  have h2 := F.called_set.canCreate
  have hct := F.typeCall_set_1 (.ref l)
  repeat (any_goals (first | assumption | wp_step))

  refine codeAny_mono (code_set_led1 (.ref l) (E := E) (Q₁ := fun obj s₁ => obj = .ref s.heap.objs.size ∧ s₁ = { s with heap := s.heap.push { cls := .type "set", dict := none, data := .set #[] 0 (.fresh 0 0 (!w.params.followText "set-order")) } }) ⟨rfl, rfl⟩) fun r s₁ hr => ?_
  cases r with
  | error e => exact hr
  | ok fl =>
    cases fl with
    | ret obj =>
      obtain ⟨rfl, rfl⟩ := hr
      have hS : (s.heap.push { cls := .type "set", dict := none, data := .set #[] 0 (.fresh 0 0 (!w.params.followText "set-order")) }).get? s.heap.objs.size = some { cls := .type "set", dict := none, data := .set #[] 0 (.fresh 0 0 (!w.params.followText "set-order")) } := Heap.get?_push_size _ rfl
      have hT : Shared.TypeIs { s with heap := s.heap.push { cls := .type "set", dict := none, data := .set #[] 0 (.fresh 0 0 (!w.params.followText "set-order")) } } (.ref s.heap.objs.size) "set" := ⟨_, hS, rfl⟩
      have hli := F.called_set.init.lookup
      have hbi := F.called_set.init.bind (.ref s.heap.objs.size)
      repeat (any_goals (first | assumption | wp_step))

      refine codeAny_mono (codeAny_call_builtin (R := wants (fun r s₂ => r = .none ∧ ∃ h' tk c, s₂ = { s with heap := h', toks := tk } ∧ SetR w h' s.heap.objs.size (fun j => decide (j ∈ ns)) c ∧ c ≤ ns.length ∧
          (∀ b o, s.heap.get? b = some o → h'.get? b = some o)) E) F.called_set.init.plain F.entry_set_init (check_set_init_1 hT ?_)) fun r₂ s₂ hr₂ => ?_
      · obtain ⟨ol, hol, hcl, nl, hdl⟩ := hl
        obtain ⟨ocls, odict, odata, oslots⟩ := ol
        simp only at hcl hdl
        subst hcl; subst hdl
        have hol' : (s.heap.push { cls := .type "set", dict := none, data := .set #[] 0 (.fresh 0 0 (!w.params.followText "set-order")) }).get? l = some { cls := .type "list", dict := odict, data := .seq items nl, slots := oslots } := Heap.get?_push_of_some _ hol
        have hsls := F.sub_list_set
        have hslf := F.sub_list_frozenset
        have hne : (Value.type "list" == Value.type "dict") = false := by decide
        have hl1 : (s.heap.push { cls := .type "set", dict := none, data := .set #[] 0 (.fresh 0 0 (!w.params.followText "set-order")) }).IsList l items := ⟨_, hol', rfl, nl, rfl⟩
        unfold Builtin.«set.__init__» noKeywords Builtin.Frozenset.updateFrom
        generalize hPI : pyIter = PI
        wp_walk
        subst hPI

        refine wpAny_pyIter_list hl1 ?_
        refine wpAny_bind (wpAny_runValue ?_)
        have hlS : l < s.heap.objs.size := Heap.lt_size hol
        have hh3 : A.in1.in1.in1.handled = none := by simp [hh]
        have hz1 : (s.heap.push { cls := .type "set", dict := none, data := .set #[] 0 (.fresh 0 0 (!w.params.followText "set-order")) }).objs.size = s.heap.objs.size + 1 := Heap.size_push ..
        have hneI : l ≠ (s.heap.push { cls := .type "set", dict := none, data := .set #[] 0 (.fresh 0 0 (!w.params.followText "set-order")) }).objs.size := by
          rw [Heap.size_push]; exact Nat.ne_of_lt (Nat.lt_succ_of_lt hlS)
        have hSf : s.heap.objs.size ∉ [(s.heap.push { cls := .type "set", dict := none, data := .set #[] 0 (.fresh 0 0 (!w.params.followText "set-order")) }).objs.size, l] := by
          rw [Heap.size_push]; simp only [List.mem_cons, List.mem_singleton, List.not_mem_nil, or_false, not_or]
          exact ⟨Nat.ne_of_lt (Nat.lt_succ_self _), Nat.ne_of_gt hlS⟩
        have hval : ∀ (i : Nat) (v : Value), items[i]? = some v → ∃ k t, ns[i]? = some k ∧ v = .int k t := fun i v hv => by
          have hi : i < ns.length := by rw [← hisz]; exact (Array.getElem?_eq_some_iff.mp hv).1
          obtain ⟨t, e⟩ := PyProof.Rows.IntsAre.int_at hit i v (by rw [Array.getElem?_toList]; exact hv)
          refine ⟨ns[i], t, List.getElem?_eq_getElem hi, ?_⟩
          rw [e, List.getD_eq_getElem?_getD, List.getElem?_eq_getElem hi] <;> rfl
        refine set_update_ints ((Walks.list hh3 _ l hneI items).toS) s.heap.objs.size
          hSf ns hisz hb hval (items.size - 0) 0 _ (by omega) (Nat.zero_le _)
          ⟨⟨_, Heap.get?_push_size _ rfl, rfl, rfl⟩, (hl1.push _)⟩ ?hS0 ?hR
        case hS0 =>
          have hget : ((s.heap.push { cls := .type "set", dict := none, data := .set #[] 0 (.fresh 0 0 (!w.params.followText "set-order")) }).push { cls := .type "list_iterator", data := .fields #[.ref l, .int 0 0] }).get? s.heap.objs.size
              = some { cls := .type "set", dict := none, data := .set #[] 0 (.fresh 0 0 (!w.params.followText "set-order")) } := Heap.get?_push_of_some _ hS
          exact ⟨0, Nat.le_refl 0, setR_new_at hget⟩
        case hR =>
          intro s' c' hm hc' hS'
          obtain ⟨h', g2, d', tk', os'⟩ := s'
          have eg : g2 = s.gens := hm.gens
          have ed : d' = s.drawn := hm.drawn
          have eo : os' = s.os := hm.os
          subst eg; subst ed; subst eo
          show wpAny _ _ _ _ _ _
          refine wpAny_pure ?_
          show wpAny _ _ (ret Value.none) _ _ _
          rw [hisz] at hc'
          refine wpAny_pure ⟨rfl, h', tk', c', rfl, hS', hc', fun b o e => ?_⟩
          have hb0 : b < s.heap.objs.size := Heap.lt_size e
          have hb1 : b ≠ s.heap.objs.size := Nat.ne_of_lt hb0
          have hb2 : b ≠ (s.heap.push { cls := .type "set", dict := none, data := .set #[] 0 (.fresh 0 0 (!w.params.followText "set-order")) }).objs.size := by
            rw [Heap.size_push]; exact Nat.ne_of_lt (Nat.lt_succ_of_lt hb0)
          exact hm.heap b o (by simp only [List.mem_cons, List.mem_singleton, List.not_mem_nil, or_false, not_or]; exact ⟨hb1, hb2⟩) (Heap.get?_push_of_some _ (Heap.get?_push_of_some _ e))

      · cases r₂ with
        | error e => exact hr₂
        | ok fl₂ =>
          cases fl₂ with
          | ret r =>
            obtain ⟨rfl, h', tk, c', rfl, hS', hc', hk'⟩ := hr₂
            repeat (any_goals (first | assumption | wp_step))
            exact h _ _ _ hS' hc' hk'
          | _ => exact hr₂.elim
    | _ => exact hr.elim

end
end DL

/-! ## DMm -/
set_option Elab.async false
set_option linter.all false
set_option maxRecDepth 100000
set_option maxHeartbeats 4000000
namespace DL
open PySem PySem.Spec PyProof.Rows L2
/-! ### sorted(set(x)) of ints -/
def ded : List Int → List Int
  | [] => []
  | x :: xs => if x ∈ xs then ded xs else x :: ded xs
theorem ded_mem : ∀ {xs : List Int} {k : Int}, k ∈ ded xs ↔ k ∈ xs
  | [], k => by simp [ded]
  | x :: xs, k => by
    unfold ded
    have := @ded_mem xs k
    split
    · rename_i h
      rw [this, List.mem_cons]
      exact ⟨.inr, fun z => z.elim (fun e => e ▸ h) id⟩
    · rw [List.mem_cons, List.mem_cons, this]
theorem ded_nodup : ∀ xs : List Int, (ded xs).Nodup
  | [] => List.nodup_nil
  | x :: xs => by
    unfold ded
    split
    · exact ded_nodup xs
    · rename_i h
      exact List.nodup_cons.mpr ⟨fun z => h (ded_mem.mp z), ded_nodup xs⟩
theorem ded_len : ∀ xs : List Int, (ded xs).length ≤ xs.length
  | [] => by simp [ded]
  | x :: xs => by
    unfold ded
    have := ded_len xs
    split <;> simp <;> omega
def suI (ns : List Int) : List Int := isI (ded ns)
theorem su_mem {ns : List Int} {k : Int} : k ∈ suI ns ↔ k ∈ ns := by
  unfold suI
  rw [(isI_perm _).mem_iff, ded_mem]
theorem su_len (ns : List Int) : (suI ns).length ≤ ns.length := by
  unfold suI
  rw [isI_len]
  exact ded_len ns
theorem su_uniq {ns ms : List Int} (h : ms.Pairwise (· < ·)) (hm : ∀ k : Int, k ∈ ms ↔ k ∈ ns) : ms = suI ns := by
  have hn : ms.Nodup := h.imp fun h => by omega
  have hp : ms.Perm (ded ns) := (List.perm_ext_iff_of_nodup hn (ded_nodup ns)).mpr fun k => (hm k).trans ded_mem.symm
  exact isI_uniq hp (h.imp fun h => by omega)
def sqI : D → Option (List Int)
  | .lst xs => asIs xs
  | .tup xs => asIs xs
  | _ => none
def eSortSet (f : Ex) : Ex := fun ρ S => (f ρ S).bind fun d S => match sqI (view S d) with
  | some ns => if ns.length < 4000 ∧ (ded ns).length < 64 then .ok (.lst ((suI ns).map .int)) S else .bad
  | none => .bad
def rSetL (X : Cx) : List V → Hp → VK → Prop := fun xs H Q => ∃ (a : Addr) (ns : List Int), xs = [.ref a] ∧ (SqL X.K H a (ns.map V.int) ∨ SqT X.K H a (ns.map V.int)) ∧ ns.length < 4000 ∧ ∀ p c, H p = none → c = (ded ns).length → Q (.ref p) (upd H p (SetO X.w p (fun j => decide (j ∈ ns)) c))
section
variable {X : Cx} {W : WX} {e : Expr} {fe : Ex} {p p2 q pos : Pos}
theorem setR_count {w : World} {h : Heap} {a : Addr} {ns : List Int} {c : Nat} (R : SetR w h a (fun j => decide (j ∈ ns)) c) : c = (ded ns).length := by
  obtain ⟨o, es, ep, t, ho, hx, hd, g, nd, hm, hb, hf, hn, _⟩ := R
  have hp : (es.toList.map keyOf).Perm (ded ns) := (List.perm_ext_iff_of_nodup nd (ded_nodup ns)).mpr fun k => by
    rw [← hm k, decide_eq_true_eq, ded_mem]
  have := hp.length_eq
  rw [List.length_map, Array.length_toList] at this
  omega
theorem cr_setL (hc : X.calm = true) : CallR X (.type "set") (rSetL X) := by
  intro pins s σ H xs us Q I r ⟨a, ns, ex, h, hl, k⟩
  subst ex
  rw [Vals.ref1 r]
  have hd := I.ok.hd hc
  have fin : ∀ (h' : Heap) (tk c : Nat), SetR X.w h' s.heap.objs.size (fun j => decide (j ∈ ns)) c → c ≤ ns.length → (∀ b o, s.heap.get? b = some o → h'.get? b = some o) → EP X pins σ Q (.ref s.heap.objs.size) { s with heap := h', toks := tk } := fun h' tk c R hcn kp =>
    ⟨.ref _, upd H s.heap.objs.size (SetO X.w s.heap.objs.size (fun j => decide (j ∈ ns)) c), I.laid kp (Nat.le_refl _) (setO_new R), rfl, k _ c (I.hok.fresh (Nat.le_refl _)) (setR_count R)⟩
  rcases h with h | h
  · obtain ⟨its, rv, pl, hz⟩ := I.list h
    exact call_set_listI ns hd (show s.heap.IsList a its.toArray from pl.isList) (ints_of_vals rv) (by unfold scanBound; omega) fin
  · obtain ⟨its, rv, pt, hz⟩ := I.tuple h
    exact call_set_tupI ns hd (show s.heap.IsTuple a its.toArray from pt) (ints_of_vals rv) (by unfold scanBound; omega) fin
theorem ev_sortSet (hc : X.calm = true) (hg : Gl X "sorted") (hm : X.mg "sorted" = none) (hg2 : Gl X "set") (hm2 : X.mg "set" = none) (he : EV X W e fe) (hv : bootBuiltins "sorted" = some (.builtin "sorted") := by decide +kernel) (hv2 : bootBuiltins "set" = some (.type "set") := by decide +kernel)
    (na : starEach [e] X.env = (false, eval e X.env) :: starEach [] X.env := by rfl) (nb : starEach [.Call (.Name "set" p2) [e] [] q] X.env = (false, eval (.Call (.Name "set" p2) [e] [] q) X.env) :: starEach [] X.env := by rfl)
    (h1 : (backTo pos (starEach [] X.env)).any (·.1) = false := by rfl) (h2 : (backTo q (starEach [] X.env)).any (·.1) = false := by rfl) : EV X W (.Call (.Name "sorted" p) [.Call (.Name "set" p2) [e] [] q] [] pos) (eSortSet fe) := by
  refine pe_imp (pe_callB (cr_sortedSet hc) hg hm hv (pa_cons (pe_callTy (cr_setL hc) hg2 hm2 hv2 (pa_cons he pa_nil na) (by decide) (by decide) na h2) pa_nil nb) (by decide) (by decide) nb h1) fun σ H Q h => ?_
  obtain ⟨B, m, ρ, S, r, re, f⟩ := up_one (g := fun d ρ S => match sqI (view S d) with
    | some ns => if ns.length < 4000 ∧ (ded ns).length < 64 then .ok (.lst ((suI ns).map .int)) S else .bad
    | none => .bad) h
  refine ⟨B, m, ρ, S, r, re, f.mono fun x H1 => ?_⟩
  rintro ⟨B, m, ρ, S, d, r, re, rx, f⟩
  cases e0 : sqI (view S d) with
  | none => rw [e0] at f; exact f.elim
  | some ns =>
    rw [e0] at f
    dsimp only at f
    split at f
    · rename_i hl
      have vx := vw r rx
      have main : ∃ a, x = .ref a ∧ (SqL X.K H1 a (ns.map V.int) ∨ SqT X.K H1 a (ns.map V.int)) := by
        generalize view S d = dd at e0 vx
        cases dd with
        | lst xs =>
          obtain ⟨a, vs, rfl, h1, z1, q1⟩ := vx.asL
          have hvs := asIs_vals (show asIs xs = some ns from e0) q1
          subst hvs
          exact ⟨a, rfl, .inl (SqL.of h1)⟩
        | tup xs =>
          obtain ⟨a, vs, rfl, h1, z1, q1⟩ := vx.asT
          have hvs := asIs_vals (show asIs xs = some ns from e0) q1
          subst hvs
          exact ⟨a, rfl, .inr h1⟩
        | _ => cases e0
      obtain ⟨a, rfl, hsq⟩ := main
      refine ⟨a, ns, rfl, hsq, hl.1, fun p0 c hp0 hcn => ⟨p0, _, c, rfl, upd_same, by omega, fun ms p1 hpw hmem hlen hp1 => ?_⟩⟩
      have hms : ms = suI ns := su_uniq hpw fun k => by rw [hmem, decide_eq_true_eq]
      subst hms
      have hne : p1 ≠ p0 := fun z => by rw [z, upd_same] at hp1; cases hp1
      have hp1' : H1 p1 = none := by rw [upd_ne hne] at hp1; exact hp1
      have sm : Same H1 (upd (upd H1 p0 (SetO X.w p0 (fun j => decide (j ∈ ns)) c)) p1 (.lst ((suI ns).map V.int))) := fun b o eb => same_upd hp1 b o (same_upd hp0 b o eb)
      refine f m _ _ (Post.grow r sm) (.lst upd_same (fr_of r p1 hp1') ?_ (repA_ints _))
      have := su_len ns
      rw [List.length_map, sizeLine_eq]
      omega
    · exact f.elim
theorem wp_sortSet {Q : D → Sto → Prop} {E : Px} {ρ : Ev} {S : Sto} {f : Ex} (h : Wp (f ρ S) (fun d S1 => ∃ ns : List Int, (view S1 d = .lst (ns.map .int) ∨ view S1 d = .tup (ns.map .int)) ∧ ns.length < 64 ∧ Q (.lst ((suI ns).map .int)) S1) E) : Wp (eSortSet f ρ S) Q E := wp_bind (h.mono fun d S1 ⟨ns, e, hl, q⟩ => by
  have e0 : sqI (view S1 d) = some ns := by rcases e with e | e <;> rw [e] <;> exact asIs_I ns
  rw [e0]
  dsimp only
  rw [if_pos ⟨by omega, by have := ded_len ns; omega⟩]
  exact ⟨q⟩)
theorem wp_sortSet2 {Q : D → Sto → Prop} {E : Px} {ρ : Ev} {S : Sto} {f : Ex} (h : Wp (f ρ S) (fun d S1 => ∃ ns : List Int, (view S1 d = .lst (ns.map .int) ∨ view S1 d = .tup (ns.map .int)) ∧ ns.length < 4000 ∧ (suI ns).length < 64 ∧ Q (.lst ((suI ns).map .int)) S1) E) : Wp (eSortSet f ρ S) Q E := wp_bind (h.mono fun d S1 ⟨ns, e, hl, hd, q⟩ => by
  have e0 : sqI (view S1 d) = some ns := by rcases e with e | e <;> rw [e] <;> exact asIs_I ns
  rw [e0]
  dsimp only
  rw [if_pos ⟨hl, by unfold suI at hd; rwa [isI_len] at hd⟩]
  exact ⟨q⟩)
theorem lt_len : ∀ (ms : List Int) (lo hi : Int), ms.Pairwise (· < ·) → (∀ x ∈ ms, lo ≤ x ∧ x < hi) → (ms.length : Int) ≤ max 0 (hi - lo)
  | [], lo, hi, _, _ => by simp; omega
  | x :: ms, lo, hi, h, hb => by
    have h' := List.pairwise_cons.mp h
    have hx := hb x (by simp)
    have := lt_len ms (x + 1) hi h'.2 fun y hy => ⟨by have := h'.1 y hy; omega, (hb y (by simp [hy])).2⟩
    simp only [List.length_cons]
    omega
theorem su_lt (ns : List Int) : (suI ns).Pairwise (· < ·) := by
  have h1 := isI_pw (ded ns)
  have h2 : (suI ns).Nodup := (isI_perm _).nodup_iff.mpr (ded_nodup ns)
  exact (h1.and h2).imp fun {a b} h => by have := h.2; omega
theorem su_few {ns : List Int} {lo hi : Int} (h : ∀ x ∈ ns, lo ≤ x ∧ x < hi) : ((suI ns).length : Int) ≤ max 0 (hi - lo) := lt_len _ _ _ (su_lt ns) fun x hx => h x (su_mem.mp hx)
end
end DL

/-! ## DMn -/
set_option Elab.async false
set_option linter.all false
set_option maxRecDepth 100000
set_option maxHeartbeats 4000000
namespace DL
open PySem PySem.Spec PyProof.Rows L2
/-! ### comprehensions with two fors -/
def compL2 (t : Tg) (tt : Tx) (fi1 : Ix) (t1 : Tg) (tt1 : Tx) (e : Ex) (vs vs1 : List Nat) : List D → Ev → Sto → List D → R (List D)
  | [], _, S, acc => .ok acc S
  | d :: ds, ρ, S, acc => match t.put d (wipeD ρ vs) with
    | none => .bad
    | some ρ1 => (tt ρ1 S).nox.bind fun b S => if b = true then (fi1 ρ1 S).nox.bind fun ys S => (compL t1 tt1 e vs1 ys ρ1 S acc).bind fun acc S => compL2 t tt fi1 t1 tt1 e vs vs1 ds ρ S acc else compL2 t tt fi1 t1 tt1 e vs vs1 ds ρ S acc
def eComp2 (it : Ix) (t : Tg) (tt : Tx) (fi1 : Ix) (t1 : Tg) (tt1 : Tx) (e : Ex) (vs vs1 : List Nat) : Ex := fun ρ S => (it ρ S).bind fun xs S => (compL2 t tt fi1 t1 tt1 e vs vs1 xs ρ S []).bind fun acc S => .ok (.lst acc) S
theorem bind_assoc' {α β γ : Type} {r : R α} {f : α → Sto → R β} {g : β → Sto → R γ} : (r.bind f).bind g = r.bind fun a S => (f a S).bind g := by cases r <;> rfl
section
variable {W : WX} {fi fi1 : Ix} {t t1 : Tg} {tt tt1 : Tx} {fe : Ex}
/-- what stands while the new list at D grows; cont what is left to do -/
def Pk (K : PySem.W.Frag) (mg : Str → Option Value) (W : WX) (B : Addr → Prop) (m1 : List Addr) (S1 : Sto) (σ : L2.St) (H1 : Hp) (Q : VK) (D : Addr) (Fin : List DL.D → Sto → R DL.D) (m0 : List Addr) (S0 : Sto) (H0 : Hp) (cont : Sto → List DL.D → R (List DL.D)) (H : Hp) : Prop :=
  ∃ m2 S2 acc ds, Pc m1 S1 H1 m2 S2 H ∧ Kp H1 H (Fo B m1 S1) (Fo (BD B D) m2 S2) m1 m2 ∧ Kp H0 H (Fo (BD B D) m0 S0) (Fo (BD B D) m2 S2) m0 m2 ∧ Rl K mg (BD B D) m2 H S2 ∧ H D = some (.lst acc) ∧ RepA K H (Fo (BD B D) m2 S2) m2 acc ds ∧ acc.length ≤ sizeLine ∧ D ∉ m2 ∧ fin K mg W B m1 S1 σ H1 ((cont S2 ds).bind Fin) Q
theorem lc2_of {K : PySem.W.Frag} {mg : Str → Option Value} {σ : L2.St} {H : Hp} {Q : VK} {vs vs1 : List Nat} {Fin : List D → Sto → R D} (hv : ∀ i ∈ t.sl, i ∈ vs) (hv1 : ∀ i ∈ t1.sl, i ∈ vs1) (h : up K mg W (fun ρ S => (fi ρ S).bind fun xs S => (compL2 t tt fi1 t1 tt1 fe vs vs1 xs ρ S []).bind Fin) σ H Q)
    (hf : ∀ B m1 S1 H1 m2 S2 H2 D acc ds, Rl K mg B m1 H1 S1 → H1 D = none → Pc m1 S1 H1 m2 S2 H2 → Rl K mg (BD B D) m2 H2 S2 → H2 D = some (.lst acc) → RepA K H2 (Fo (BD B D) m2 S2) m2 acc ds → acc.length ≤ sizeLine → D ∉ m2 → fin K mg W B m1 S1 σ H1 (Fin ds S2) Q → Q (.ref D) H2) :
    tLc2 (upI K mg W fi) (Tg.rd K t) (upT K mg W0 tt) (upI K mg W0 fi1) (Tg.rd K t1) (upT K mg W0 tt1) (up K mg W0 fe) vs vs1 σ H Q := by
  obtain ⟨B, m, ρ, S, r, re, f⟩ := h
  refine ⟨B, m, ρ, S, r, re, finI.mono (finI.bind f) fun J H1 => ?_⟩
  rintro ⟨m1, S1, xs, p1, itr, f1⟩ D hD
  have re1 := re.kp (p1.kp r)
  have k0 := kp_aside (B := B) (m := m1) (S := S1) (o := .lst []) hD
  refine ⟨fun i n H => n = xs.length - i ∧ i ≤ xs.length ∧ ∃ m2 S2 acc ds, Pc m1 S1 H1 m2 S2 H ∧ Kp H1 H (Fo B m1 S1) (Fo (BD B D) m2 S2) m1 m2 ∧ Rl K mg (BD B D) m2 H S2 ∧ H D = some (.lst acc) ∧ RepA K H (Fo (BD B D) m2 S2) m2 acc ds ∧ acc.length ≤ sizeLine ∧ D ∉ m2 ∧
      fin K mg W B m1 S1 σ H1 ((compL2 t tt fi1 t1 tt1 fe vs vs1 (xs.drop i) ρ S2 ds).bind Fin) Q,
    ⟨xs.length, by simp, Nat.zero_le _, m1, S1, [], [], (Post.refl p1.rl).pc.over hD, k0, p1.rl.aside hD, upd_same, .nil, by simp, fun z => p1.rl.mt D z hD, by simpa using f1⟩, ?_⟩
  rintro i n H2 ⟨rfl, hi, m2, S2, acc, ds, pc, kp, rl, hacc, qa, za, nD, f2⟩
  obtain ⟨go, stop⟩ := itr H2 _ m2 kp
  by_cases hlt : i < xs.length
  · right
    refine ⟨(go i hlt).1, fun H' => ∃ m3 S3 acc ds, Pc m1 S1 H1 m3 S3 H' ∧ Kp H1 H' (Fo B m1 S1) (Fo (BD B D) m3 S3) m1 m3 ∧ Rl K mg (BD B D) m3 H' S3 ∧ H' D = some (.lst acc) ∧ RepA K H' (Fo (BD B D) m3 S3) m3 acc ds ∧ acc.length ≤ sizeLine ∧ D ∉ m3 ∧
      fin K mg W B m1 S1 σ H1 ((compL2 t tt fi1 t1 tt1 fe vs vs1 (xs.drop (i + 1)) ρ S3 ds).bind Fin) Q, ?_, ?_⟩
    · rintro H' ⟨m3, S3, acc3, ds3, h3⟩
      exact ⟨_, by omega, rfl, hlt, m3, S3, acc3, ds3, h3⟩
    · intro x H3 y
      obtain ⟨d, ed, sm, rx⟩ := (go i hlt).2 x H3 y
      have p3 : Post K mg (BD B D) m2 S2 H2 m2 S2 H3 := Post.grow rl sm
      have kp3 := kp.trans (p3.kp rl)
      have ed' : xs[i] = d := by
        have := List.getElem?_eq_getElem hlt
        rw [this] at ed
        exact Option.some.inj ed
      rw [List.drop_eq_getElem_cons hlt, ed'] at f2
      unfold compL2 at f2
      cases e1 : t.put d (wipeD ρ vs) with
      | none => rw [e1] at f2; exact f2.elim
      | some ρ4 =>
        rw [e1] at f2
        dsimp only at f2
        refine Tg.rd_okP (A := fun σ' => L2.wipe σ' vs = L2.wipe σ vs) t (fun σ i v h1 h2 => by rw [wipe_set (hv i h1)]; exact h2) e1 rx ((re1.kp kp3).wipe vs) ?_ fun σ4 re4 a4 => ⟨a4, BD B D, m2, ρ4, S2, p3.rl, re4, ?_⟩
        · apply List.ext_getElem?
          intro j
          rw [wipe_get, wipe_get, wipe_length]
          by_cases h1 : j ∈ vs ∧ j < σ.length
          · simp [h1]
          · simp [h1]
        · rcases R.nox_ok (r := tt ρ4 S2) (g := fun b S => if b = true then (fi1 ρ4 S).nox.bind fun ys S => (compL t1 tt1 fe vs1 ys ρ4 S ds).bind fun acc S => compL2 t tt fi1 t1 tt1 fe vs vs1 (xs.drop (i + 1)) ρ S acc else compL2 t tt fi1 t1 tt1 fe vs vs1 (xs.drop (i + 1)) ρ S ds) with ⟨b, S5, e5, e6⟩ | e6
          · rw [e6] at f2
            rw [e5]
            intro m5 H5 p5
            have kp5 := kp3.trans (p5.kp p3.rl)
            have pc5 : Pc m1 S1 H1 m5 S5 H5 := (pc.trans p3.pc).trans p5.pc
            have hacc3 := p3.keep _ _ hacc fun z => rl.nb _ z (.inr rfl)
            have hacc5 : H5 D = some (.lst acc) := p5.keep _ _ hacc3 fun z => p3.rl.nb _ z (.inr rfl)
            have qa5 := (qa.kp (p3.kp rl)).kp (p5.kp p3.rl)
            have nD5 : D ∉ m5 := notin_ext nD p5.ext hacc3
            have re5 := re4.kp (p5.kp p3.rl)
            cases b with
            | false =>
              rw [if_neg Bool.false_ne_true] at f2 ⊢
              exact ⟨m5, S5, acc, ds, pc5, kp5, p5.rl, hacc5, qa5, za, nD5, f2⟩
            | true =>
              rw [if_pos rfl] at f2 ⊢
              rcases R.nox_ok (r := fi1 ρ4 S5) (g := fun ys S => (compL t1 tt1 fe vs1 ys ρ4 S ds).bind fun acc S => compL2 t tt fi1 t1 tt1 fe vs vs1 (xs.drop (i + 1)) ρ S acc) with ⟨ys, S6, e7, e8⟩ | e8
              · rw [e8] at f2
                refine ⟨BD B D, m5, ρ4, S5, p5.rl, re5, ?_⟩
                rw [e7]
                intro m6 H6 J1 p6 itr1
                have kp6 := kp5.trans (p6.kp p5.rl)
                have pc6 := pc5.trans p6.pc
                have hacc6 : H6 D = some (.lst acc) := p6.keep _ _ hacc5 fun z => p5.rl.nb _ z (.inr rfl)
                have qa6 := qa5.kp (p6.kp p5.rl)
                have nD6 : D ∉ m6 := notin_ext nD5 p6.ext hacc5
                have re6 := re5.kp (p6.kp p5.rl)
                clear kp5 pc5 hacc5 qa5 nD5 re5 e5 e6 e7 e8
                refine ⟨fun j n H => n = ys.length - j ∧ j ≤ ys.length ∧ Pk K mg W B m1 S1 σ H1 Q D Fin m6 S6 H6 (fun S ds => (compL t1 tt1 fe vs1 (ys.drop j) ρ4 S ds).bind fun acc S => compL2 t tt fi1 t1 tt1 fe vs vs1 (xs.drop (i + 1)) ρ S acc) H,
                  ⟨ys.length, by simp, Nat.zero_le _, m6, S6, acc, ds, pc6, kp6, ⟨fun _ _ h _ => h, fun _ _ h _ => h, fun _ _ _ h => h, fun _ _ _ f => f, fun _ _ h => h⟩, p6.rl, hacc6, qa6, za, nD6, by simpa using f2⟩, ?_⟩
                rintro j n H7 ⟨rfl, hj, m7, S7, acc7, ds7, pc7, kp7, kq7, rl7, hacc7, qa7, za7, nD7, f7⟩
                obtain ⟨go1, stop1⟩ := itr1 H7 _ m7 kq7
                by_cases hlt1 : j < ys.length
                · right
                  refine ⟨(go1 j hlt1).1, fun H' => Pk K mg W B m1 S1 σ H1 Q D Fin m6 S6 H6 (fun S ds => (compL t1 tt1 fe vs1 (ys.drop (j + 1)) ρ4 S ds).bind fun acc S => compL2 t tt fi1 t1 tt1 fe vs vs1 (xs.drop (i + 1)) ρ S acc) H', ?_, ?_⟩
                  · intro H' h'
                    exact ⟨_, by omega, rfl, hlt1, h'⟩
                  · intro x1 H8 y1
                    obtain ⟨d1, ed1, sm1, rx1⟩ := (go1 j hlt1).2 x1 H8 y1
                    have p8 : Post K mg (BD B D) m7 S7 H7 m7 S7 H8 := Post.grow rl7 sm1
                    have kq8 := kq7.trans (p8.kp rl7)
                    have kp8 := kp7.trans (p8.kp rl7)
                    have ed1' : ys[j] = d1 := by
                      have := List.getElem?_eq_getElem hlt1
                      rw [this] at ed1
                      exact Option.some.inj ed1
                    rw [List.drop_eq_getElem_cons hlt1, ed1'] at f7
                    unfold compL at f7
                    cases e9 : t1.put d1 (wipeD ρ4 vs1) with
                    | none => rw [e9] at f7; exact f7.elim
                    | some ρ9 =>
                      rw [e9] at f7
                      dsimp only at f7
                      refine Tg.rd_okP (A := fun σ' => L2.wipe σ' vs1 = L2.wipe σ4 vs1) t1 (fun σ i v h1 h2 => by rw [wipe_set (hv1 i h1)]; exact h2) e9 rx1 ((re6.kp kq8).wipe vs1) ?_ fun σ9 re9 a9 => ⟨a9, BD B D, m7, ρ9, S7, p8.rl, re9, ?_⟩
                      · apply List.ext_getElem?
                        intro j
                        rw [wipe_get, wipe_get, wipe_length]
                        by_cases h1 : j ∈ vs1 ∧ j < σ4.length
                        · simp [h1]
                        · simp [h1]
                      · rcases R.nox_ok (r := tt1 ρ9 S7) (g := fun b S => if b = true then (fe ρ9 S).nox.bind fun y S => if ds7.length < sizeLine then compL t1 tt1 fe vs1 (ys.drop (j + 1)) ρ4 S (ds7 ++ [y]) else .bad else compL t1 tt1 fe vs1 (ys.drop (j + 1)) ρ4 S ds7) with ⟨b, S10, e10, e11⟩ | e11
                        · rw [e11] at f7
                          rw [e10]
                          intro m10 H10 p10
                          have kq10 := kq8.trans (p10.kp p8.rl)
                          have kp10 := kp8.trans (p10.kp p8.rl)
                          have pc10 : Pc m1 S1 H1 m10 S10 H10 := (pc7.trans p8.pc).trans p10.pc
                          have hacc8 := p8.keep _ _ hacc7 fun z => rl7.nb _ z (.inr rfl)
                          have hacc10 : H10 D = some (.lst acc7) := p10.keep _ _ hacc8 fun z => p8.rl.nb _ z (.inr rfl)
                          have qa10 := (qa7.kp (p8.kp rl7)).kp (p10.kp p8.rl)
                          have nD10 : D ∉ m10 := notin_ext nD7 p10.ext hacc8
                          cases b with
                          | false =>
                            rw [if_neg Bool.false_ne_true] at f7 ⊢
                            exact ⟨m10, S10, acc7, ds7, pc10, kp10, kq10, p10.rl, hacc10, qa10, za7, nD10, f7⟩
                          | true =>
                            rw [if_pos rfl] at f7 ⊢
                            rcases R.nox_ok (r := fe ρ9 S10) (g := fun y S => if ds7.length < sizeLine then compL t1 tt1 fe vs1 (ys.drop (j + 1)) ρ4 S (ds7 ++ [y]) else .bad) with ⟨z, S11, e12, e13⟩ | e13
                            · rw [e13] at f7
                              refine ⟨BD B D, m10, ρ9, S10, p10.rl, re9.kp (p10.kp p8.rl), ?_⟩
                              rw [e12]
                              intro m11 H11 v p11 rv
                              have hacc11 : H11 D = some (.lst acc7) := p11.keep _ _ hacc10 fun z => p10.rl.nb _ z (.inr rfl)
                              split at f7
                              · rename_i hz
                                have hl : acc7.length = ds7.length := qa7.length
                                have hF : Fo (BD B D) m11 S11 D := .inl (.inr rfl)
                                refine ⟨acc7, hacc11, by rw [hl]; exact hz, m11, S11, acc7 ++ [v], ds7 ++ [z], (pc10.trans p11.pc).over hD, (kp10.trans (p11.kp p10.rl)).trans (kp_write hacc11 hF), (kq10.trans (p11.kp p10.rl)).trans (kp_write hacc11 hF), p11.rl.write hacc11, upd_same, ?_, by simp; omega, notin_ext nD10 p11.ext hacc10, f7⟩
                                exact ((qa10.kp (p11.kp p10.rl)).append (.cons rv .nil)).kp (kp_write hacc11 hF)
                              · exact f7.elim
                            · rw [e13] at f7; exact f7.elim
                        · rw [e11] at f7; exact f7.elim
                · left
                  have hd1 : ys.drop j = [] := List.drop_eq_nil_of_le (by omega)
                  rw [hd1] at f7
                  exact ⟨stop1 j (by omega), m7, S7, acc7, ds7, pc7, kp7, rl7, hacc7, qa7, za7, nD7, f7⟩
              · rw [e8] at f2; exact f2.elim
          · rw [e6] at f2; exact f2.elim
  · left
    have hd : xs.drop i = [] := List.drop_eq_nil_of_le (by omega)
    rw [hd] at f2
    exact ⟨stop i (by omega), hf B m1 S1 H1 m2 S2 H2 D acc ds p1.rl hD pc rl hacc qa za nD f2⟩
end
section
variable {X : Cx} {W : WX} {tg iter tg1 iter1 elt : Expr} {ifs ifs1 : List Expr} {fi fi1 : Ix} {t t1 : Tg} {tt tt1 : Tx} {fe : Ex} {scope : Scope} {own : List (Str × Nat)} {vs1 : List Nat} {pos : Pos}
theorem comp_fin {K : PySem.W.Frag} {mg : Str → Option Value} {W : WX} {σ : L2.St} {Q : VK} (B : Addr → Prop) (m1 : List Addr) (S1 : Sto) (H1 : Hp) (m2 : List Addr) (S2 : Sto) (H2 : Hp) (D : Addr) (acc : List V) (ds : List DL.D) (r1 : Rl K mg B m1 H1 S1) (hD : H1 D = none) (pc : Pc m1 S1 H1 m2 S2 H2) (rl : Rl K mg (BD B D) m2 H2 S2) (hacc : H2 D = some (.lst acc))
    (qa : RepA K H2 (Fo (BD B D) m2 S2) m2 acc ds) (za : acc.length ≤ sizeLine) (nD : D ∉ m2) (f : fin K mg W B m1 S1 σ H1 (.ok (.lst ds) S2) Q) : Q (.ref D) H2 := by
  have rl2 : Rl K mg B m2 H2 S2 := rl.less fun a z => .inl z
  have nf : ¬ Fo B m2 S2 D := by
    rintro (z | z)
    · exact r1.bt D z hD
    · exact rl.nb D z (.inr rfl)
  exact f m2 H2 _ (post_of_pc pc rl2) (.lst hacc nf za (qa.kp (kp_anti fo_bd)))
theorem ev_comp2 (hc : X.calm = true) (hN : X.N.Nodup) (hi : IV X W tg iter fi) (ok : BlkOk X.N X.env.scope scope own)
    (hg : ∀ (s : Shared) (H : Hp) (C : Addr) (cl : List (Str × Addr)) (fp : List Addr), GV (X.blk s H scope (compEnvC scope cl C X.env) fp) tg t) (ht : ∀ (s : Shared) (H : Hp) (C : Addr) (cl : List (Str × Addr)) (fp : List Addr), TVs (X.blk s H scope (compEnvC scope cl C X.env) fp) W0 ifs tt)
    (hi1 : ∀ (s : Shared) (H : Hp) (C : Addr) (cl : List (Str × Addr)) (fp : List Addr), IV (X.blk s H scope (compEnvC scope cl C X.env) fp) W0 tg1 iter1 fi1)
    (hg1 : ∀ (s : Shared) (H : Hp) (C : Addr) (cl : List (Str × Addr)) (fp : List Addr), GV (X.blk s H scope (compEnvC scope cl C X.env) fp) tg1 t1) (ht1 : ∀ (s : Shared) (H : Hp) (C : Addr) (cl : List (Str × Addr)) (fp : List Addr), TVs (X.blk s H scope (compEnvC scope cl C X.env) fp) W0 ifs1 tt1)
    (he : ∀ (s : Shared) (H : Hp) (C : Addr) (cl : List (Str × Addr)) (fp : List Addr), EV (X.blk s H scope (compEnvC scope cl C X.env) fp) W0 elt fe) (hv : ∀ i ∈ t.sl, i ∈ own.map (·.2) := by decide) (hv1 : ∀ i ∈ t1.sl, i ∈ vs1 := by decide) (hvv : ∀ i ∈ vs1, i ∈ own.map (·.2) := by decide) (hs : ∀ x, foldedSetIterable iter X.env x = pure x := by intro _; rfl) (hs1 : ∀ env x, foldedSetIterable iter1 env x = pure x := by intro _ _; rfl) :
    EV X W (.ListComp elt [⟨tg, iter, ifs, 0⟩, ⟨tg1, iter1, ifs1, 0⟩] scope pos) (eComp2 fi t tt fi1 t1 tt1 fe (own.map (·.2)) vs1) :=
  pe_imp (pe_lc2 (wi1 := upI X.K X.mg W0 fi1) (g := Tg.rd X.K t) (tt := upT X.K X.mg W0 tt) (g1 := Tg.rd X.K t1) (tt1 := upT X.K X.mg W0 tt1) (te := up X.K X.mg W0 fe) hc hN hi ok hvv hg ht hi1 hg1 ht1 he hs hs1) fun σ H Q h => lc2_of hv hv1 h comp_fin
theorem sv_setComp2 {i : Nat} {y : Str} {py spos : Pos} (hc : X.calm = true) (hN : X.N.Nodup) (hy : X.N[i]? = some y) (hyl : X.env.scope.names.lookup y = some .local) (hsw : swapsWith (.ListComp elt [⟨tg, iter, ifs, 0⟩, ⟨tg1, iter1, ifs1, 0⟩] scope pos) (some (.Name y py)) spos.line X.env = pure true) (hi : IV X W tg iter fi) (ok : BlkOk X.N X.env.scope scope own)
    (hg : ∀ (s : Shared) (H : Hp) (C : Addr) (cl : List (Str × Addr)) (fp : List Addr), GV (X.blk s H scope (compEnvC scope cl C X.env) fp) tg t) (ht : ∀ (s : Shared) (H : Hp) (C : Addr) (cl : List (Str × Addr)) (fp : List Addr), TVs (X.blk s H scope (compEnvC scope cl C X.env) fp) W0 ifs tt)
    (hi1 : ∀ (s : Shared) (H : Hp) (C : Addr) (cl : List (Str × Addr)) (fp : List Addr), IV (X.blk s H scope (compEnvC scope cl C X.env) fp) W0 tg1 iter1 fi1)
    (hg1 : ∀ (s : Shared) (H : Hp) (C : Addr) (cl : List (Str × Addr)) (fp : List Addr), GV (X.blk s H scope (compEnvC scope cl C X.env) fp) tg1 t1) (ht1 : ∀ (s : Shared) (H : Hp) (C : Addr) (cl : List (Str × Addr)) (fp : List Addr), TVs (X.blk s H scope (compEnvC scope cl C X.env) fp) W0 ifs1 tt1)
    (he : ∀ (s : Shared) (H : Hp) (C : Addr) (cl : List (Str × Addr)) (fp : List Addr), EV (X.blk s H scope (compEnvC scope cl C X.env) fp) W0 elt fe) (hv : ∀ i ∈ t.sl, i ∈ own.map (·.2) := by decide) (hv1 : ∀ i ∈ t1.sl, i ∈ vs1 := by decide) (hvv : ∀ i ∈ vs1, i ∈ own.map (·.2) := by decide) (hs : ∀ x, foldedSetIterable iter X.env x = pure x := by intro _; rfl) (hs1 : ∀ env x, foldedSetIterable iter1 env x = pure x := by intro _ _; rfl) :
    SV X W (.Assign [.Name y py] (.ListComp elt [⟨tg, iter, ifs, 0⟩, ⟨tg1, iter1, ifs1, 0⟩] scope pos) spos) (sAsg i (eComp2 fi t tt fi1 t1 tt1 fe (own.map (·.2)) vs1)) := by
  refine ps_imp (ps_setLc2 (wi1 := upI X.K X.mg W0 fi1) (g := Tg.rd X.K t) (tt := upT X.K X.mg W0 tt) (g1 := Tg.rd X.K t1) (tt1 := upT X.K X.mg W0 tt1) (te := up X.K X.mg W0 fe) hc hN hy hyl hsw hi ok hvv hg ht hi1 hg1 ht1 he hs hs1) fun E σ H h => ?_
  obtain ⟨B, m, ρ, S, r, re, f⟩ := h
  refine lc2_of (W := W) (Fin := fun acc S => .ok (.lst acc) S) hv hv1 (Q := fun x H1 => gName i x σ H1 E.nx) ⟨B, m, ρ, S, r, re, ?_⟩ comp_fin
  have f' : finS X.K X.mg W B m S H ((eComp2 fi t tt fi1 t1 tt1 fe (own.map (·.2)) vs1 ρ S).bindS ρ fun d S => .fl (.nx (ρ.set i (some d))) S) E := f
  show fin X.K X.mg W B m S σ H (eComp2 fi t tt fi1 t1 tt1 fe (own.map (·.2)) vs1 ρ S) _
  refine fin.mono (fin.bindS re r f') fun v H1 => ?_
  rintro ⟨m1, S1, d, p, q, f1⟩
  exact f1 m1 H1 _ (Post.refl p.rl) ((re.kp (p.kp r)).set q)
end
end DL

/-! ## DMo -/
set_option Elab.async false
set_option linter.all false
set_option maxRecDepth 100000
set_option maxHeartbeats 4000000
namespace DL
open PySem PySem.Spec PyProof.Rows L2
section
variable {E : Px} {ρ : Ev} {t t1 : Tg} {tt tt1 : Tx} {fi1 : Ix} {e : Ex} {vs vs1 : List Nat}
/-- what a comprehension adds: of plain things, the store stays -/
theorem wp_compLM {β : Type} (f : β → D) (p : β → Bool) (g : β → D) (S : Sto) : ∀ (l : List β) (acc : List D) (Q : List D → Sto → Prop), acc.length + l.length ≤ 16777216 →
    (∀ x ∈ l, ∃ ρ1, t.put (f x) (wipeD ρ vs) = some ρ1 ∧ Wp (tt ρ1 S) (fun b S2 => b = p x ∧ S2 = S) noX ∧ (p x = true → Wp (e ρ1 S) (fun y S2 => y = g x ∧ S2 = S) noX)) →
    Q (acc ++ (l.filter p).map g) S → Wp (compL t tt e vs (l.map f) ρ S acc) Q E
  | [], acc, Q, _, _, q => by
    have q' : Q acc S := by simpa using q
    exact ⟨q'⟩
  | x :: l, acc, Q, hl, st, q => by
    obtain ⟨ρ1, e1, h1, h2⟩ := st x (by simp)
    rw [List.map_cons]
    unfold compL
    rw [e1]
    dsimp only
    simp only [List.length_cons] at hl
    refine wp_bind (wp_nox (h1.mono fun b S2 ⟨hb, hS⟩ => ?_))
    subst hb hS
    cases hp : p x with
    | false =>
      rw [if_neg (by decide)]
      exact wp_compLM f p g _ l acc Q (by omega) (fun y hy => st y (by simp [hy])) (by simpa [hp] using q)
    | true =>
      rw [if_pos rfl]
      refine wp_bind (wp_nox ((h2 hp).mono fun y S3 ⟨hy, hS⟩ => ?_))
      subst hy hS
      rw [if_pos (by rw [sizeLine_eq]; omega)]
      exact wp_compLM f p g _ l (acc ++ [g x]) Q (by simp; omega) (fun y hy => st y (by simp [hy])) (by simpa [hp] using q)
theorem wp_compL2M {α β : Type} (f : α → D) (m : α → List β) (f1 : β → D) (p : α → β → Bool) (g : α → β → D) (S : Sto) : ∀ (l : List α) (acc : List D) (Q : List D → Sto → Prop), acc.length + (l.flatMap m).length ≤ 16777216 →
    (∀ x ∈ l, ∃ ρ1, t.put (f x) (wipeD ρ vs) = some ρ1 ∧ Wp (fi1 ρ1 S) (fun ys S2 => ys = (m x).map f1 ∧ S2 = S) noX ∧ ∀ y ∈ m x, ∃ ρ2, t1.put (f1 y) (wipeD ρ1 vs1) = some ρ2 ∧ Wp (tt1 ρ2 S) (fun b S2 => b = p x y ∧ S2 = S) noX ∧ (p x y = true → Wp (e ρ2 S) (fun z S2 => z = g x y ∧ S2 = S) noX)) →
    Q (acc ++ l.flatMap fun x => ((m x).filter (p x)).map (g x)) S → Wp (compL2 t tYesX fi1 t1 tt1 e vs vs1 (l.map f) ρ S acc) Q E
  | [], acc, Q, _, _, q => by
    have q' : Q acc S := by simpa using q
    exact ⟨q'⟩
  | x :: l, acc, Q, hl, st, q => by
    obtain ⟨ρ1, e1, h1, h2⟩ := st x (by simp)
    rw [List.map_cons]
    unfold compL2
    rw [e1]
    dsimp only
    simp only [List.flatMap_cons, List.length_append] at hl
    refine wp_bind (wp_nox (wp_tyes ?_))
    rw [if_pos rfl]
    refine wp_bind (wp_nox (h1.mono fun ys S2 ⟨hy, hS⟩ => ?_))
    subst hy hS
    refine wp_bind (wp_compLM f1 (p x) (g x) _ (m x) acc _ (by omega) h2 ?_)
    have hf := List.length_filter_le (p x) (m x)
    exact wp_compL2M f m f1 p g _ l _ Q (by rw [List.length_append, List.length_map]; omega) (fun y hy => st y (by simp [hy])) (by simpa using q)
theorem wp_comp2 {α β : Type} {it : Ix} {S : Sto} {Q : D → Sto → Prop} (l : List α) (f : α → D) (m : α → List β) (f1 : β → D) (p : α → β → Bool) (g : α → β → D) (hl : (l.flatMap m).length ≤ 16777216) (h : Wp (it ρ S) (fun xs S1 => xs = l.map f ∧
    (∀ x ∈ l, ∃ ρ1, t.put (f x) (wipeD ρ vs) = some ρ1 ∧ Wp (fi1 ρ1 S1) (fun ys S2 => ys = (m x).map f1 ∧ S2 = S1) noX ∧ ∀ y ∈ m x, ∃ ρ2, t1.put (f1 y) (wipeD ρ1 vs1) = some ρ2 ∧ Wp (tt1 ρ2 S1) (fun b S2 => b = p x y ∧ S2 = S1) noX ∧ (p x y = true → Wp (e ρ2 S1) (fun z S2 => z = g x y ∧ S2 = S1) noX)) ∧
    Q (.lst (l.flatMap fun x => ((m x).filter (p x)).map (g x))) S1) E) : Wp (eComp2 it t tYesX fi1 t1 tt1 e vs vs1 ρ S) Q E :=
  wp_bind (h.mono fun xs S1 ⟨h1, st, q⟩ => by
    subst h1
    exact wp_bind (wp_compL2M f m f1 p g S1 l [] _ (by simpa using hl) st (by
      rw [List.nil_append]
      exact ⟨q⟩)))
end
end DL

/-! ## DMp -/
set_option Elab.async false
set_option linter.all false
set_option maxRecDepth 100000
set_option maxHeartbeats 4000000
namespace DL
open PySem PySem.Spec PyProof.Rows L2
/-! ### found.extend(xs), of a plain list or a tuple -/
theorem extend_tup (l : Addr) (items : Array Value) (n : Nat) (b : Addr) (items2 : Array Value) (hs0 : ¬(!items.isEmpty && Builtin.List.listTooLong (items.size + items2.size)) = true) (hs1 : items.size ≤ sizeLine) (hs2 : items.size + items2.size ≤ sizeLine + 1) :
    Meets (Builtin.«list.extend» ⟨[.ref l, .ref b], []⟩) (fun _ R s => s.heap.get? l = some { cls := .type "list", dict := none, data := .seq items n, slots := #[] } ∧ s.heap.IsTuple b items2 ∧ R (.ok (.ret Value.none)) { s with heap := s.heap.update l (Obj.mapSeq fun x => x ++ items2), toks := s.toks }) :=
  .of_wp fun prog w A R s h => by
    obtain ⟨hp, g, d, tk, os⟩ := s; obtain ⟨hl, ⟨o, hb, hbc, n2, hbd⟩, h⟩ := h; have f1 := AutoSeq1.idx_int; have f2 := AutoSeq1.sub_tuple_tuple; have f3 := AutoSeq1.sub_list_list; have f4 := AutoSeq1.sub_tuple_list; have f5 := AutoSeq1.sub_list_tuple;
    obtain ⟨oc, od, oa, osl⟩ := o
    simp only at hbc hbd
    subst hbc hbd
    have hz' : (items ++ items2).size ≤ sizeLine + 1 := by rw [Array.size_append]; exact hs2
    wp_walk using (wpAny_updateSeq hl rfl (hz := hs1) (_hz' := hz')), AutoSeq1.wpAny_loadPart' hl, AutoSeq1.wpAny_loadPart' hb; exact ⟨_, rfl, h⟩
def gExtend : List D → List D → Option (List D × D) := fun xs ds => match ds with
  | [.tup ys] => if xs.length + ys.length ≤ sizeLine then some (xs ++ ys, .non) else none
  | [.lst ys] => if xs.length + ys.length ≤ sizeLine then some (xs ++ ys, .non) else none
  | _ => none
section
variable {X : Cx} {W : WX} {o e : Expr} {fo fe : Ex} {apos cpos : Pos}
theorem mt_extendT : MtM X "list.extend" (fun x vs H Q => ∃ l b xs zs, x = V.ref l ∧ vs = [V.ref b] ∧ H l = some (.lst xs) ∧ SqT X.K H b zs ∧ xs.length + zs.length ≤ sizeLine ∧ Q .non (upd H l (.lst (xs ++ zs)))) := by
  intro pins s σ H x vs v us Q I rx rv h
  obtain ⟨l, b, xs, zs, rfl, rfl, hH, hB, hz, q⟩ := h
  cases rx
  obtain ⟨u, rfl, ru⟩ := rv.one
  cases ru
  obtain ⟨z, its, n, r, hl, e⟩ := I.lstM hH
  obtain ⟨its2, r2, e2, z2⟩ := I.tuple hB
  have hl2 := r2.length
  have hsz : its.toArray.size + its2.toArray.size ≤ sizeLine := by rw [List.size_toArray, List.size_toArray]; omega
  have hlong : ¬ (!its.toArray.isEmpty && Builtin.List.listTooLong (its.toArray.size + its2.toArray.size)) = true := by
    rw [notLongL hsz, Bool.and_false]
    exact Bool.false_ne_true
  refine call_meets F.slot_list_extend ⟨_, e, rfl⟩ F.entry_list_extend (F.args_list_extend_2 _ _)
    (extend_tup l its.toArray n b its2.toArray hlong (by rw [List.size_toArray]; omega) (by omega)) ⟨e, e2, ?_⟩
  refine ⟨.non, _, I.lset (its' := its ++ its2) hH e (by simp) (r.append r2) ?_, rfl, q⟩
  rw [List.length_append]
  omega
theorem mg_extend : MtR X "list.extend" (rMut X.K gExtend) := by
  intro pins s σ H x vs v us Q I rx rs ⟨mg, B, m, S, n, a, ws, xs, ds, ys, z, ex, r, h1, h2, h3, h4, h5, q, e, k⟩
  subst ex
  unfold gExtend at e
  have hl5 := h5.length
  split at e
  · split at e
    · rename_i zs hz
      cases e
      cases q with
      | cons qd qn =>
        cases qn
        cases qd with
        | tup h6 h7 h8 =>
          have hl8 := h8.length
          exact mt_extendT pins s σ H _ _ v us Q I rx rs ⟨a, _, ws, _, rfl, rfl, h3, h6, by omega, k _ _ (by simp; omega) (h5.append h8) .non⟩
    · cases e
  · split at e
    · rename_i zs hz
      cases e
      cases q with
      | cons qd qn =>
        cases qn
        cases qd with
        | lst h6 hf h7 h8 =>
          have hl8 := h8.length
          exact mt_extend pins s σ H _ _ v us Q I rx rs ⟨a, _, ws, _, rfl, rfl, h3, h6, by omega, k _ _ (by simp; omega) (h5.append h8) .non⟩
    · cases e
  · cases e
theorem ev_extend (ho : EV X W o fo) (ha : EVA X W [e] [fe]) (hbase : attributeBase o "extend" X.env (eval o X.env) = eval o X.env := by rfl)
    (hfew : ((backTo cpos (starEach [e] X.env)).all (fun x => !x.1) && (backToKw cpos (keywordEach [] X.env)).all (fun x => x.1.isSome) && decide ([e].length + ([] : List Keyword).length + (if ([] : List Keyword).isEmpty then 0 else 1) < 30)) = true := by rfl)
    (hline : (apos.endLine == cpos.line) = true := by rfl) (hs : starEach [e] X.env = (false, eval e X.env) :: starEach [] X.env := by rfl) (hplain : (backTo cpos (starEach [] X.env)).any (·.1) = false := by rfl) :
    EV X W (.Call (.Attribute o "extend" apos) [e] [] cpos) (eMeth gExtend fo [fe]) := ev_mut PySem.F.plainAttrs_list PySem.F.slot_list_extend PySem.F.type_list_extend mg_extend ho ha (by exact fun h => nomatch h) hbase hfew hline hs hplain
end
theorem gExtT {xs ys : List D} (h : xs.length + ys.length ≤ 16777216) : gExtend xs [.tup ys] = some (xs ++ ys, .non) := if_pos (by rw [sizeLine_eq]; exact h)
theorem gExtL {xs ys : List D} (h : xs.length + ys.length ≤ 16777216) : gExtend xs [.lst ys] = some (xs ++ ys, .non) := if_pos (by rw [sizeLine_eq]; exact h)
end DL

/-! ## DMq -/
set_option Elab.async false
set_option linter.all false
set_option maxRecDepth 100000
set_option maxHeartbeats 4000000
namespace DL
open PySem PySem.Spec PyProof.Rows L2
/-! ### list(zip(a, b, strict=True)) -/
theorem zip_no_len : typeLookup (.type "zip") "__len__" = pure none := am_miss_of_fast (by decide +kernel)
theorem zip_no_hint : typeLookup (.type "zip") "__length_hint__" = pure none := am_miss_of_fast (by decide +kernel)
abbrev IsZipHS (h : Heap) (z TI TO T : Addr) (f : Bool) : Prop :=
  h.get? z = some { cls := .type "zip", dict := none, data := .fields #[rawInt T, .bool f, .bool true, .ref TI, .ref TO], slots := #[] }
section
variable {prog : Program} {w : World} {A : Around} {E : Value → Shared → Prop} {s : Shared}
theorem heldS {z TI TO T : Addr} {f : Bool} {oT : Obj} {Q : Bool → Shared → Prop} (hz : IsZipHS s.heap z TI TO T f) (hT : s.heap.get? T = some oT)
    (h : ∀ h', IsZipHS h' z TI TO T true → Heap.SameBut z s.heap h' → Q false { s with heap := h' }) : wpAny (model prog w) A (Builtin.SmallTypes.ownedTupleIsFree (.ref z)) Q E s := by
  unfold Builtin.SmallTypes.ownedTupleIsFree
  refine wpAny_bind (wpAny_field hz rfl (x := rawInt T) rfl ?_)
  show wpAny _ _ (loadIfAlive ((T : Int).toNat) >>= _) _ _ _
  rw [Int.toNat_natCast]
  refine wpAny_bind (PySem.W.kdx_alive hT ?_)
  simp only [Option.isNone_some, Bool.false_eq_true, if_false]
  refine wpAny_bind (wpAny_field hz rfl (x := .bool f) rfl ?_)
  cases f with
  | true =>
    rw [if_neg (show ¬ ((Value.bool true != Value.bool true) = true) from Bool.false_ne_true)]
    exact wpAny_pure (h s.heap hz (Heap.SameBut.refl _ _))
  | false =>
    rw [if_pos (show (Value.bool false != Value.bool true) = true from rfl)]
    exact wpAny_bind (wpAny_setField_rec hz (by simp) fun h₁ hz₁ hs₁ => wpAny_pure (h h₁ hz₁ hs₁))
theorem zipH_next_item {t1 t2 : Bool} {z TI TO T i1 i2 l1 l2 : Addr} {f : Bool} {oT : Obj} {k1 k2 : Nat} {xs ys : Array Value} {x y : Value} {Q : Value → Shared → Prop} (D : ZipApart z TI TO i1 i2 l1 l2)
    (hz : IsZipHS s.heap z TI TO T f) (hT : s.heap.get? T = some oT) (hTI : IsPair s.heap TI (.ref i1) (.ref i2))
    (h1 : SI t1 s.heap i1 l1 k1) (h2 : SI t2 s.heap i2 l2 k2) (hl1 : SS t1 s.heap l1 xs) (hl2 : SS t2 s.heap l2 ys) (hx : xs[k1]? = some x) (hy : ys[k2]? = some y)
    (hQ : ∀ h', IsZipHS h' z TI TO T true → SI t1 h' i1 l1 (k1 + 1) → SI t2 h' i2 l2 (k2 + 1) → IsPair h' s.heap.objs.size x y → h'.objs.size = s.heap.objs.size + 1 →
      (∀ c o, c ≠ z → c ≠ i1 → c ≠ i2 → s.heap.get? c = some o → h'.get? c = some o) → Q (.ref s.heap.objs.size) { s with heap := h' }) :
    wpAny (model prog w) A (Builtin.«zip.__next__» ⟨[.ref z], []⟩) (fun fin s' => ∃ v, fin = .done (.ret v) ∧ Q v s') E s := by
  show wpAny _ _ (field (.ref z) 2 >>= _) _ _ _
  refine wpAny_bind (wpAny_field hz rfl (x := .bool true) rfl ?_)
  show wpAny _ _ (field (.ref z) 3 >>= _) _ _ _
  refine wpAny_bind (wpAny_field hz rfl (x := .ref TI) rfl ?_)
  refine wpAny_bind (wpAny_seqItems hTI rfl ?_)
  show wpAny _ _ (Builtin.SmallTypes.ownedTupleIsFree (.ref z) >>= _) _ _ _
  refine wpAny_bind (heldS hz hT fun h₁ hz₁ hs₁ => ?_)
  simp only [Bool.false_eq_true, if_false]
  refine wpAny_bind ?_
  rw [← Array.forIn_toList]
  simp only [List.forIn_cons, List.forIn_nil]
  refine wpAny_bind (wpAny_bind (wpAny_holding ?_))
  show wpAny _ _ (Builtin.SmallTypes.nextOrEnd (.ref i1)) _ _ _
  refine srcE_item (s := { s with heap := h₁ }) (h1.extBut hs₁.extBut D.i1z) (hl1.extBut hs₁.extBut D.l1z) hx fun h₂ h1₂ hs₂ => ?_
  refine wpAny_pure ?_
  refine wpAny_bind (wpAny_bind (wpAny_holding ?_))
  show wpAny _ _ (Builtin.SmallTypes.nextOrEnd (.ref i2)) _ _ _
  refine srcE_item (s := { s with heap := h₂ }) ((h2.extBut hs₁.extBut D.i2z).extBut hs₂.extBut D.i12.symm) ((hl2.extBut hs₁.extBut D.l2z).extBut hs₂.extBut D.l2i1) hy fun h₃ h2₃ hs₃ => ?_
  refine wpAny_pure (wpAny_pure ?_)
  show wpAny _ _ (newTuple [x, y] >>= _) _ _ _
  refine wpAny_bind (wpAny_newTuple ?_)
  have hsz : h₃.objs.size = s.heap.objs.size := by rw [hs₃.1, hs₂.1, hs₁.1]
  have hz₃ : IsZipHS h₃ z TI TO T true := hs₃.extBut _ _ D.i2z.symm (hs₂.extBut _ _ D.i1z.symm hz₁)
  have hk : ∀ c o, c ≠ z → c ≠ i1 → c ≠ i2 → s.heap.get? c = some o → h₃.get? c = some o := fun c o c1 c2 c3 e => hs₃.extBut _ _ c3 (hs₂.extBut _ _ c2 (hs₁.extBut _ _ c1 e))
  have h1₃ : SI t1 h₃ i1 l1 (k1 + 1) := h1₂.extBut hs₃.extBut D.i12
  refine wpAny_pure ⟨_, rfl, ?_⟩
  show Q (.ref h₃.objs.size) _
  have hp : IsPair (h₃.push { cls := .type "tuple", data := .seq #[x, y] }) h₃.objs.size x y := Heap.get?_push_size _ rfl
  have hz4 : (h₃.push { cls := .type "tuple", data := .seq #[x, y] }).objs.size = h₃.objs.size + 1 := Heap.size_push ..
  rw [hsz] at hp hz4 ⊢
  exact hQ _ (Heap.get?_push_of_some _ hz₃) (h1₃.at fun o e => Heap.get?_push_of_some _ e) (h2₃.at fun o e => Heap.get?_push_of_some _ e) hp hz4 fun c o c1 c2 c3 e => Heap.get?_push_of_some _ (hk c o c1 c2 c3 e)
theorem zipH_next_end {t1 t2 : Bool} {z TI TO T i1 i2 l1 l2 : Addr} {f : Bool} {oT : Obj} {k1 k2 : Nat} {xs ys : Array Value} {Q : Fin → Shared → Prop} (hh : A.handled = none) (D : ZipApart z TI TO i1 i2 l1 l2)
    (hz : IsZipHS s.heap z TI TO T f) (hT : s.heap.get? T = some oT) (hTI : IsPair s.heap TI (.ref i1) (.ref i2))
    (h1 : SI t1 s.heap i1 l1 k1) (h2 : SI t2 s.heap i2 l2 k2) (hl1 : SS t1 s.heap l1 xs) (hl2 : SS t2 s.heap l2 ys) (hx : xs[k1]? = none) (hy : ys[k2]? = none)
    (hE : ∀ h' e, (∀ c o, c ≠ z → c ≠ i1 → c ≠ i2 → s.heap.get? c = some o → h'.get? c = some o) → (∃ o, h'.get? e = some o ∧ o.cls = .type "StopIteration") → E (.ref e) { s with heap := h' }) :
    wpAny (model prog w) A (Builtin.«zip.__next__» ⟨[.ref z], []⟩) Q E s := by
  show wpAny _ _ (field (.ref z) 2 >>= _) _ _ _
  refine wpAny_bind (wpAny_field hz rfl (x := .bool true) rfl ?_)
  show wpAny _ _ (field (.ref z) 3 >>= _) _ _ _
  refine wpAny_bind (wpAny_field hz rfl (x := .ref TI) rfl ?_)
  refine wpAny_bind (wpAny_seqItems hTI rfl ?_)
  show wpAny _ _ (Builtin.SmallTypes.ownedTupleIsFree (.ref z) >>= _) _ _ _
  refine wpAny_bind (heldS hz hT fun h₁ hz₁ hs₁ => ?_)
  simp only [Bool.false_eq_true, if_false]
  refine wpAny_bind ?_
  rw [← Array.forIn_toList]
  simp only [List.forIn_cons, List.forIn_nil]
  refine wpAny_bind (wpAny_bind (wpAny_holding ?_))
  show wpAny _ _ (Builtin.SmallTypes.nextOrEnd (.ref i1)) _ _ _
  refine srcE_end (s := { s with heap := h₁ }) hh (h1.extBut hs₁.extBut D.i1z) (hl1.extBut hs₁.extBut D.l1z) hx fun h₂ hs₂ => ?_
  refine wpAny_bind ?_
  refine wpAny_bind ?_
  simp only [List.drop_succ_cons, List.drop_zero, List.zipIdx_cons, List.zipIdx_nil, List.forIn_cons, List.forIn_nil]
  refine wpAny_bind ?_
  refine wpAny_bind (srcE_end (s := { s with heap := h₂ }) hh ((h2.extBut hs₁.extBut D.i2z).extBut hs₂ D.i12.symm) ((hl2.extBut hs₁.extBut D.l2z).extBut hs₂ D.l2i1) hy fun h₄ hs₄ => ?_)
  rw [if_neg (show ¬ ((none : Option Value).isSome = true) by decide)]
  refine wpAny_pure (wpAny_pure (wpAny_bind (wpAny_rule ?_)))
  show wpAny _ _ (newExc (.type "StopIteration") [] >>= _) _ _ _
  refine wpAny_bind ?_
  simp only [newExc, newTuple]
  refine wpAny_bind (wpAny_newObj_type ?_ (by size_fits))
  refine wpAny_bind (m := firstArgMember _ _) (wpAny_of_eq (a := Value.none) (by first | rfl | (simp only [firstArgMember]; rfl)) ?_)
  refine wpAny_newObj_type ?_ (by size_fits)
  simp only [raiseNew]
  refine wpAny_bind (wpAny_handled ?_)
  first | rw [show A.in1.handled = none from hh] | rw [hh]
  refine wpAny_bind (wpAny_pure (wpAny_throw ?_))
  refine hE _ _ (fun c o c1 c2 c3 x => Heap.get?_push_of_some _ (Heap.get?_push_of_some _ (hs₄ _ _ c3 (hs₂ _ _ c2 (hs₁.extBut _ _ c1 x))))) ⟨_, Heap.get?_push_size _ rfl, rfl⟩
theorem pyNext_zipH_item {t1 t2 : Bool} {z TI TO T i1 i2 l1 l2 : Addr} {f : Bool} {oT : Obj} {k1 k2 : Nat} {xs ys : Array Value} {x y : Value} {Q : Option Value → Shared → Prop} (D : ZipApart z TI TO i1 i2 l1 l2)
    (hz : IsZipHS s.heap z TI TO T f) (hT : s.heap.get? T = some oT) (hTI : IsPair s.heap TI (.ref i1) (.ref i2))
    (h1 : SI t1 s.heap i1 l1 k1) (h2 : SI t2 s.heap i2 l2 k2) (hl1 : SS t1 s.heap l1 xs) (hl2 : SS t2 s.heap l2 ys) (hx : xs[k1]? = some x) (hy : ys[k2]? = some y)
    (hQ : ∀ h', IsZipHS h' z TI TO T true → SI t1 h' i1 l1 (k1 + 1) → SI t2 h' i2 l2 (k2 + 1) → IsPair h' s.heap.objs.size x y → h'.objs.size = s.heap.objs.size + 1 →
      (∀ c o, c ≠ z → c ≠ i1 → c ≠ i2 → s.heap.get? c = some o → h'.get? c = some o) → Q (some (.ref s.heap.objs.size)) { s with heap := h' }) :
    wpAny (model prog w) A (pyNext (.ref z)) Q E s := by
  have hTy : s.TypeIs (.ref z) "zip" := ⟨_, hz, rfl⟩
  unfold pyNext
  exact wpAny_bind (wpAny_attempt (wpAny_callSpecial?_slot (name := Str.ofString "__next__") hTy F.slot_zip_next
    (wpAny_call_entry F.slot_zip_next hTy F.entry_zip_next
      (zipH_next_item D hz hT hTI h1 h2 hl1 hl2 hx hy fun h' a1 a3 a4 a5 a6 a7 => wpAny_pure (hQ h' a1 a3 a4 a5 a6 a7)) (F.args_zip_next_1 _))))
theorem pyNext_zipH_end {t1 t2 : Bool} {z TI TO T i1 i2 l1 l2 : Addr} {f : Bool} {oT : Obj} {k1 k2 : Nat} {xs ys : Array Value} {Q : Option Value → Shared → Prop} (hh : A.handled = none) (D : ZipApart z TI TO i1 i2 l1 l2)
    (hz : IsZipHS s.heap z TI TO T f) (hT : s.heap.get? T = some oT) (hTI : IsPair s.heap TI (.ref i1) (.ref i2))
    (h1 : SI t1 s.heap i1 l1 k1) (h2 : SI t2 s.heap i2 l2 k2) (hl1 : SS t1 s.heap l1 xs) (hl2 : SS t2 s.heap l2 ys) (hx : xs[k1]? = none) (hy : ys[k2]? = none)
    (hQ : ∀ h', (∀ c o, c ≠ z → c ≠ i1 → c ≠ i2 → s.heap.get? c = some o → h'.get? c = some o) → Q none { s with heap := h' }) : wpAny (model prog w) A (pyNext (.ref z)) Q E s := by
  have hTy : s.TypeIs (.ref z) "zip" := ⟨_, hz, rfl⟩
  unfold pyNext
  refine wpAny_bind (wpAny_attempt (wpAny_callSpecial?_slot (name := Str.ofString "__next__") hTy F.slot_zip_next
    (wpAny_call_entry F.slot_zip_next hTy F.entry_zip_next (zipH_next_end hh D hz hT hTI h1 h2 hl1 hl2 hx hy fun h' e hk he => ?_) (F.args_zip_next_1 _))))
  obtain ⟨o, ho, hc⟩ := he
  refine wpAny_bind (wpAny_isInstance (T := "StopIteration") (b := true) ⟨o, ho, hc⟩ isSubtype_stop ?_)
  exact wpAny_pure (hQ _ hk)
end
end DL

/-! ## DMr -/
set_option Elab.async false
set_option linter.all false
set_option maxRecDepth 100000
set_option maxHeartbeats 4000000
namespace DL
open PySem PySem.Spec PyProof.Rows L2
/-- the tuples so far -/
def ZTs (H : Hp) (xs ys : List V) (Ts : List Addr) : Prop := ∀ (j : Nat) T x y, Ts[j]? = some T → xs[j]? = some x → ys[j]? = some y → H T = some (.tup [x, y])
/-- what has been gathered of a zip, at turn i -/
def ZL (X : Cx) (pins : List (Addr × Obj)) (σ : L2.St) (H0 : Hp) (Sd a b z TI TO i1 i2 : Addr) (t1 t2 : Bool) (xs ys : List V) (i : Nat) (s : Shared) : Prop :=
  ∃ (H : Hp) (Ts : List Addr), Ts.length = i ∧ Inv X pins σ H s ∧ (∀ c ∈ [z, TI, TO, i1, i2], FpOk X pins H c) ∧ H Sd = some (.lst (Ts.map V.ref)) ∧ ZTs H xs ys Ts ∧ (∀ c o, H0 c = some o → H c = some o) ∧
    IsPair s.heap TI (.ref i1) (.ref i2) ∧ (∃ o, s.heap.get? TO = some o) ∧ SI t1 s.heap i1 a i ∧ SI t2 s.heap i2 b i ∧ ((i = 0 ∧ IsZipB true s.heap z TI TO .none ∧ ∃ x y, IsPair s.heap TO x y) ∨ ∃ T f x y, H T = some (.tup [x, y]) ∧ IsZipHS s.heap z TI TO T f)
theorem SqB.up {t : Bool} {K : PySem.W.Frag} {H H' : Hp} {a : Addr} {xs : List V} (h : SqB t K H a xs) (k : ∀ c o, H c = some o → H' c = some o) : SqB t K H' a xs := by
  cases t with
  | true =>
    rcases (show SqT K H a xs from h) with h | h
    · exact Or.inl (h.elim (fun h => .inl (k _ _ h)) fun ⟨o, h⟩ => .inr ⟨o, k _ _ h⟩)
    · exact Or.inr h
  | false =>
    rcases (show SqL K H a xs from h) with h | h
    · exact Or.inl (h.elim (fun h => .inl (k _ _ h)) fun ⟨o, h⟩ => .inr ⟨o, k _ _ h⟩)
    · exact Or.inr h
theorem fpOk_upd {X : Cx} {pins : List (Addr × Obj)} {H : Hp} {c a : Addr} {o : HO} (h : FpOk X pins H c) (hne : c ≠ a) : FpOk X pins (L2.upd H a o) c := ⟨by rw [upd_ne hne]; exact h.1, h.2⟩
section
variable {X : Cx} {pins : List (Addr × Obj)} {σ : L2.St} {H0 : Hp} {Sd a b z TI TO i1 i2 : Addr} {t1 t2 : Bool} {xs ys : List V} {A : Around}
theorem lt_fp {c : Addr} {s : Shared} {u : Obj} (h : s.heap.get? c = some u) : c ≠ s.heap.objs.size := Nat.ne_of_lt (Heap.lt_size h)
/-- the new tuple at the list's end -/
theorem zl_step (D : ZipApart z TI TO i1 i2 a b) {H : Hp} {Ts : List Addr} {i : Nat} {s : Shared} {x y : V} {u u2 : Value} {h' : Heap} (hT : Ts.length = i) (I : Inv X pins σ H s) (hf : ∀ c ∈ [z, TI, TO, i1, i2], FpOk X pins H c) (hS : H Sd = some (.lst (Ts.map V.ref))) (hz : ZTs H xs ys Ts) (hH : ∀ c o, H0 c = some o → H c = some o)
    (hx : xs[i]? = some x) (hy : ys[i]? = some y) (ru : RelV x u) (ru2 : RelV y u2) (hi : i < sizeLine) (ne : ∀ c ∈ [z, TI, TO, i1, i2], c ≠ s.heap.objs.size) (h0S : H0 Sd = none)
    (hk : ∀ c o, c ≠ z → c ≠ TO → c ≠ i1 → c ≠ i2 → s.heap.get? c = some o → h'.get? c = some o) (hnew : IsPair h' s.heap.objs.size u u2) :
    ∃ (its : List Value) (n : Nat), h'.get? Sd = some { cls := .type "list", data := .seq its.toArray n } ∧ its.length = i ∧
      ∃ H', Inv X pins σ H' { s with heap := h'.update Sd (Obj.mapSeq (·.push (.ref s.heap.objs.size))) } ∧ (∀ c ∈ [z, TI, TO, i1, i2], FpOk X pins H' c) ∧ H' Sd = some (.lst ((Ts ++ [s.heap.objs.size]).map V.ref)) ∧ ZTs H' xs ys (Ts ++ [s.heap.objs.size]) ∧ (∀ c o, H0 c = some o → H' c = some o) ∧ (∀ T x y, H T = some (.tup [x, y]) → H' T = some (.tup [x, y])) ∧ H' s.heap.objs.size = some (.tup [x, y]) := by
  have nw : H s.heap.objs.size = none := I.hok.fresh (Nat.le_refl _)
  have nSd : Sd ≠ s.heap.objs.size := fun e => by rw [e, nw] at hS; cases hS
  have new : ObjOk X.prog X.w (L2.upd H s.heap.objs.size (.tup [x, y])) h' s.heap.objs.size (.tup [x, y]) :=
    ⟨by show 2 ≤ sizeLine; decide, [u, u2], .cons ru (.cons ru2 .nil), ⟨_, hnew, rfl, _, rfl⟩⟩
  have I1 : Inv X pins σ (L2.upd H s.heap.objs.size (.tup [x, y])) { s with heap := h' } :=
    I.turnedNew (t' := s.toks) (ch := [z, TI, TO, i1, i2]) (fun c o hb q => hk c o (fun q' => hb (by simp [q'])) (fun q' => hb (by simp [q'])) (fun q' => hb (by simp [q'])) (fun q' => hb (by simp [q'])) q) hf (Nat.le_refl _) new
  have hS1 : L2.upd H s.heap.objs.size (.tup [x, y]) Sd = some (.lst (Ts.map V.ref)) := by rw [upd_ne nSd]; exact hS
  obtain ⟨zz, its, n, r, hl, e⟩ := I1.lstM hS1
  rw [List.length_map] at hl
  refine ⟨its, n, e, by omega, _, I1.lset (its' := its ++ [.ref s.heap.objs.size]) (ys := (Ts ++ [s.heap.objs.size]).map V.ref) hS1 e (by simp) ?_ ?_, ?_, upd_same, ?_, ?_, ?_, ?_⟩
  · rw [List.map_append]
    exact r.append (.cons rfl .nil)
  · rw [List.length_map, List.length_append, List.length_singleton]; omega
  · intro c hc
    refine fpOk_upd (fpOk_upd (hf c hc) (ne c hc)) ?_
    rintro rfl
    have := (hf _ hc).1
    rw [hS] at this; cases this
  · intro j T x' y' e1 e2 e3
    by_cases hj : j < Ts.length
    · rw [List.getElem?_append_left hj] at e1
      have q := hz j T x' y' e1 e2 e3
      have n1 : T ≠ Sd := fun e => by rw [e, hS] at q; cases q
      rw [upd_ne n1, upd_ne (ne_of_none q nw)]
      exact q
    · rw [List.getElem?_append_right (by omega)] at e1
      have h0 : j - Ts.length = 0 := by
        have := (List.getElem?_eq_some_iff.mp e1).1
        simpa using this
      rw [h0] at e1
      simp at e1
      subst e1
      have hj' : j = i := by omega
      subst hj'
      rw [hx] at e2; cases e2
      rw [hy] at e3; cases e3
      rw [upd_ne nSd.symm]
      exact upd_same
  · intro c o e1
    have q := hH c o e1
    have n1 : c ≠ Sd := fun e => by rw [e, h0S] at e1; cases e1
    rw [upd_ne n1, upd_ne (ne_of_none q nw)]
    exact q
  · intro T x' y' q
    have n1 : T ≠ Sd := fun e => by rw [e, hS] at q; cases q
    rw [upd_ne n1, upd_ne (ne_of_none q nw)]
    exact q
  · rw [upd_ne nSd.symm]
    exact upd_same
theorem zl_loop (hA : A.in1.handled = none) (D : ZipApart z TI TO i1 i2 a b) (sa : SqB t1 X.K H0 a xs) (sb : SqB t2 X.K H0 b ys) (hl : xs.length = ys.length) (hn : xs.length ≤ sizeLine) (h0S : H0 Sd = none) (res : Value) {R : Result → Shared → Prop}
    (hR : ∀ s' H Ts, Ts.length = xs.length → Inv X pins σ H s' → H Sd = some (.lst (Ts.map V.ref)) → ZTs H xs ys Ts → (∀ c o, H0 c = some o → H c = some o) → R (.ok (.ret res)) s') :
    ∀ (k i : Nat) (s : Shared), xs.length - i = k → i ≤ xs.length → ZL X pins σ H0 Sd a b z TI TO i1 i2 t1 t2 xs ys i s →
      codeAny (model X.prog X.w) A (.builtin "list.extend.loop" ⟨[.ref Sd, .ref z, res], []⟩) R s := by
  intro k
  induction k with
  | zero =>
    intro i s hk hi h
    have hin : i = xs.length := by omega
    obtain ⟨H, Ts, hT, I, hf, hS, hz, hH, hTI, hTOx, h1, h2, hd⟩ := h
    obtain ⟨its, rv, p⟩ := seqB I (sa.up hH)
    obtain ⟨its2, rv2, p2⟩ := seqB I (sb.up hH)
    have l1 := rv.length
    have l2 := rv2.length
    refine codeAny_builtin F.entry_extend_loop ?_
    rw [Around.under_plainId F.plain_extend_loop _]
    show wpAny _ A.in1 (pyNext (.ref z) >>= _) _ _ s
    have fin : ∀ h', (∀ c o, c ≠ z → c ≠ TO → c ≠ i1 → c ≠ i2 → s.heap.get? c = some o → h'.get? c = some o) → R (.ok (.ret res)) { s with heap := h' } := fun h' hk' => by
      have I2 : Inv X pins σ H { s with heap := h' } := I.turnedL (t' := s.toks) (ch := [z, TI, TO, i1, i2]) (fun c o hb q => hk' c o (fun q' => hb (by simp [q'])) (fun q' => hb (by simp [q'])) (fun q' => hb (by simp [q'])) (fun q' => hb (by simp [q'])) q) hf
      exact hR _ H Ts (by omega) I2 hS hz hH
    rcases hd with ⟨_, hz0, x0, y0, hTO⟩ | ⟨T, f, x0, y0, hHT, hz1⟩
    · refine wpAny_bind (pyNext_zipS_end hA D hz0 hTI hTO h1 h2 p p2 (by simp; omega) (by simp; omega) fun h' hk' => ?_)
      exact wpAny_pure (fin h' hk')
    · obtain ⟨zT, itT, rT, oT, eT, _⟩ := I.hok T _ hHT
      refine wpAny_bind (pyNext_zipH_end hA D hz1 eT hTI h1 h2 p p2 (by simp; omega) (by simp; omega) fun h' hk' => ?_)
      exact wpAny_pure (fin h' fun c o c1 _ c3 c4 e => hk' c o c1 c3 c4 e)
  | succ k ih =>
    intro i s hk hi h
    have hlt : i < xs.length := by omega
    obtain ⟨H, Ts, hT, I, hf, hS, hz, hH, hTI, ⟨oTO, hTOx⟩, h1, h2, hd⟩ := h
    have hx : xs[i]? = some xs[i] := List.getElem?_eq_getElem hlt
    have hy : ys[i]? = some (ys[i]'(by omega)) := List.getElem?_eq_getElem (by omega)
    generalize xs[i] = x at hx
    generalize (ys[i]'(by omega)) = y at hy
    obtain ⟨its, rv, p⟩ := seqB I (sa.up hH)
    obtain ⟨its2, rv2, p2⟩ := seqB I (sb.up hH)
    obtain ⟨u, hu, ru⟩ := rv.get hx
    obtain ⟨u2, hu2, ru2⟩ := rv2.get hy
    have neF : ∀ c ∈ [z, TI, TO, i1, i2], c ≠ s.heap.objs.size := by
      have hzz : ∃ u, s.heap.get? z = some u := by rcases hd with ⟨_, hz0, _⟩ | ⟨T, f, _, _, _, hz1⟩ <;> exact ⟨_, by assumption⟩
      obtain ⟨uz, ez⟩ := hzz
      intro c hc
      have e' : c = z ∨ c = TI ∨ c = TO ∨ c = i1 ∨ c = i2 := by simpa using hc
      rcases e' with q | q | q | q | q
      · rw [q]; exact lt_fp ez
      · rw [q]; exact lt_fp hTI
      · rw [q]; exact lt_fp hTOx
      · rw [q]; exact Nat.ne_of_lt h1.lt
      · rw [q]; exact Nat.ne_of_lt h2.lt
    refine codeAny_builtin F.entry_extend_loop ?_
    rw [Around.under_plainId F.plain_extend_loop _]
    show wpAny _ A.in1 (pyNext (.ref z) >>= _) _ _ s
    -- the list's turn
    have go : ∀ (h' : Heap) (f : Bool) (T : Addr), (∀ c o, c ≠ z → c ≠ TO → c ≠ i1 → c ≠ i2 → s.heap.get? c = some o → h'.get? c = some o) → IsPair h' s.heap.objs.size u u2 → (∃ o, h'.get? TO = some o) → SI t1 h' i1 a (i + 1) → SI t2 h' i2 b (i + 1) → IsZipHS h' z TI TO T f → ((∃ x y, H T = some (.tup [x, y])) ∨ T = s.heap.objs.size) →
        wpAny (model X.prog X.w) A.in1 (updateSeq Sd (·.push (.ref s.heap.objs.size)) >>= fun _ => again (.builtin "list.extend.loop" ⟨[.ref Sd, .ref z, res], []⟩))
          (fun fin s' => match fin with | .done f => R (.ok f) s' | .again c' => c'.quiet = true ∧ codeAny (model X.prog X.w) A c' R s') (fun e s' => R (.error e) s') { s with heap := h' } := by
      intro h' f T hk' hnew hTO' h1' h2' hz' hTT
      obtain ⟨ls, n, eS, lS, H', I2, hf2, hS2, hz2, hH2, hup, hnw⟩ := zl_step D hT I hf hS hz hH hx hy ru ru2 (by omega) neF h0S hk' hnew
      have nS : ∀ c ∈ [z, TI, TO, i1, i2], c ≠ Sd := fun c hc e => by
        have := (hf _ hc).1
        rw [e, hS] at this; cases this
      have oth : ∀ c o, c ≠ Sd → h'.get? c = some o → (h'.update Sd (Obj.mapSeq (·.push (.ref s.heap.objs.size)))).get? c = some o := fun c o hc e => (Heap.get?_update_other _ _ (Ne.symm hc)).trans e
      refine wpAny_bind (wpAny_updateSeq eS rfl (wpAny_pure ⟨plainId_quiet F.plain_extend_loop _, ih (i + 1) _ (by omega) hlt ?_⟩) (by rw [List.size_toArray]; omega) (by show (ls.toArray.push _).size ≤ sizeLine + 1; rw [Array.size_push, List.size_toArray]; omega))
      obtain ⟨oT2, eT2⟩ := hTO'
      refine ⟨H', Ts ++ [s.heap.objs.size], by simp; omega, I2, hf2, hS2, hz2, hH2, oth _ _ (nS TI (by simp)) (hk' _ _ D.TIz D.TITO D.TIi1 D.TIi2 hTI), ⟨_, oth _ _ (nS TO (by simp)) eT2⟩, h1'.at fun o e => oth _ o (nS i1 (by simp)) e, h2'.at fun o e => oth _ o (nS i2 (by simp)) e, .inr ?_⟩
      rcases hTT with ⟨x0, y0, q⟩ | rfl
      · exact ⟨T, f, x0, y0, hup _ _ _ q, oth _ _ (nS z (by simp)) hz'⟩
      · exact ⟨_, f, x, y, hnw, oth _ _ (nS z (by simp)) hz'⟩
    rcases hd with ⟨_, hz0, x0, y0, hTO⟩ | ⟨T, f, x0, y0, hHT, hz1⟩
    · refine wpAny_bind (pyNext_zipS_item D hz0 hTI hTO h1 h2 p p2 (x := u) (y := u2) (by simpa using hu) (by simpa using hu2) fun h' z' TO' h1' h2' hTn hsz hk' => ?_)
      exact go h' false _ hk' hTn ⟨_, TO'⟩ h1' h2' z' (.inr rfl)
    · obtain ⟨zT, itT, rT, oT, eT, _⟩ := I.hok T _ hHT
      refine wpAny_bind (pyNext_zipH_item D hz1 eT hTI h1 h2 p p2 (x := u) (y := u2) (by simpa using hu) (by simpa using hu2) fun h' z' h1' h2' hTn hsz hk' => ?_)
      exact go h' true T (fun c o c1 _ c3 c4 e => hk' c o c1 c3 c4 e) hTn ⟨oTO, hk' _ _ D.TOz D.TOi1 D.TOi2 hTOx⟩ h1' h2' z' (.inl ⟨_, _, hHT⟩)
end
end DL

/-! ## DMs -/
set_option Elab.async false
set_option linter.all false
set_option maxRecDepth 100000
set_option maxHeartbeats 4000000
namespace DL
open PySem PySem.Spec PyProof.Rows L2
section
variable {X : Cx} {pins : List (Addr × Obj)} {σ : L2.St} {H0 : Hp} {Sd a b z TI TO i1 i2 : Addr} {t1 t2 : Bool} {xs ys : List V} {A : Around} {s : Shared}
theorem zl_extend (hA : A.in1.handled = none) (D : ZipApart z TI TO i1 i2 a b) (sa : SqB t1 X.K H0 a xs) (sb : SqB t2 X.K H0 b ys) (hl : xs.length = ys.length) (hn : xs.length ≤ sizeLine) (h0S : H0 Sd = none) (res : Value) {R : Result → Shared → Prop}
    {H : Hp} (I : Inv X pins σ H s) (hS : H Sd = some (.lst [])) (hf : ∀ c ∈ [z, TI, TO, i1, i2], FpOk X pins H c) (hH : ∀ c o, H0 c = some o → H c = some o)
    (hz : IsZipB true s.heap z TI TO .none) (hTI : IsPair s.heap TI (.ref i1) (.ref i2)) (hTO : ∃ x y, IsPair s.heap TO x y) (h1 : SI t1 s.heap i1 a 0) (h2 : SI t2 s.heap i2 b 0)
    (hR : ∀ s' H Ts, Ts.length = xs.length → Inv X pins σ H s' → H Sd = some (.lst (Ts.map V.ref)) → ZTs H xs ys Ts → (∀ c o, H0 c = some o → H c = some o) → R (.ok (.ret res)) s') :
    wpAny (model X.prog X.w) A.in1 (Builtin.List.listExtendWith (.ref Sd) (.ref z) res)
      (fun fin s' => match fin with | .done f => R (.ok f) s' | .again c' => c'.quiet = true ∧ codeAny (model X.prog X.w) A c' R s') (fun e s' => R (.error e) s') s := by
  have hT : s.TypeIs (.ref z) "zip" := ⟨_, hz, rfl⟩
  have nS : ∀ c ∈ [z, TI, TO, i1, i2], c ≠ Sd := fun c hc e => by
    have := (hf _ hc).1
    rw [e, hS] at this; cases this
  obtain ⟨zz, its, n, r, hl0, eS⟩ := I.lstM hS
  have hits : its = [] := List.length_eq_zero_iff.mp (by simpa using hl0.symm)
  subst hits
  have hSz : Sd ≠ z := (nS z (by simp)).symm
  unfold Builtin.List.listExtendWith
  refine wpAny_bind (wpAny_typeOf hT ?_)
  have e1 : Builtin.List.listSameRef (.ref Sd) (.ref z) = false := by simp [Builtin.List.listSameRef, hSz]
  have e2 : (Value.type "zip" == Value.type "list") = false := by decide
  have e3 : (Value.type "zip" == Value.type "tuple") = false := by decide
  simp only [e1, e2, e3, Bool.or_false, Bool.false_eq_true, if_false]
  refine wpAny_bind (pyIter_zipS hz ?_)
  refine wpAny_bind (wpAny_holding ?_)
  unfold Builtin.List.listLengthHint
  refine wpAny_bind (wpAny_specialOf hT zip_no_len ?_)
  show wpAny _ A.in1 (specialOf (Value.ref z) (Str.ofString "__length_hint__") >>= _) _ _ _
  refine wpAny_bind (wpAny_specialOf hT zip_no_hint ?_)
  refine wpAny_pure ?_
  show wpAny _ A.in1 (rule "list.extend.makes-room" >>= fun _ => Builtin.List.listTouch (.ref Sd) >>= fun _ =>
    again (.builtin "list.extend.loop" ⟨[.ref Sd, .ref z, res], []⟩)) _ _ _
  refine wpAny_bind (wpAny_rule ?_)
  refine wpAny_bind ?_
  show wpAny _ A.in1 (updateSeq Sd (·.push .none) >>= fun _ => updateSeq Sd (·.pop)) _ _ _
  refine wpAny_bind (wpAny_updateSeq eS rfl ?_)
  have I1 : Inv X pins σ (L2.upd H Sd (.lst [.non])) { s with heap := s.heap.update Sd (Obj.mapSeq (·.push Value.none)) } := I.lset (its' := [.none]) hS eS (by simp) (.cons rfl .nil) (by show 1 ≤ sizeLine; rw [sizeLine_eq]; decide)
  have eS2 := Heap.get?_update_self (Obj.mapSeq (·.push Value.none)) eS rfl
  refine wpAny_updateSeq (hz := by seq_fits) eS2 rfl ?_
  have I2 : Inv X pins σ (L2.upd (L2.upd H Sd (.lst [.non])) Sd (.lst [])) { s with heap := (s.heap.update Sd (Obj.mapSeq (·.push Value.none))).update Sd (Obj.mapSeq (·.pop)) } := I1.lset (its := [.none]) (its' := []) upd_same eS2 (by simp) .nil (by simp)
  have oth : ∀ b o, b ≠ Sd → s.heap.get? b = some o → ((s.heap.update Sd (Obj.mapSeq (·.push Value.none))).update Sd (Obj.mapSeq (·.pop))).get? b = some o :=
    fun b o hb e => (Heap.get?_update_other _ _ (Ne.symm hb)).trans ((Heap.get?_update_other _ _ (Ne.symm hb)).trans e)
  have hup : ∀ c o, c ≠ Sd → H c = some o → L2.upd (L2.upd H Sd (.lst [.non])) Sd (.lst []) c = some o := fun c o hc e => by rw [upd_ne hc, upd_ne hc]; exact e
  refine wpAny_pure ⟨plainId_quiet F.plain_extend_loop _, zl_loop hA D sa sb hl hn h0S res hR xs.length 0 _ (by omega) (Nat.zero_le _) ?_⟩
  obtain ⟨x0, y0, hTO⟩ := hTO
  refine ⟨_, [], rfl, I2, fun c hc => fpOk_upd (fpOk_upd (hf c hc) (nS c hc)) (nS c hc), upd_same, fun j T x y e => by simp at e, fun c o e => hup c o (fun q => by rw [q, h0S] at e; cases e) (hH c o e), oth _ _ (nS TI (by simp)) hTI, ⟨_, oth _ _ (nS TO (by simp)) hTO⟩, h1.at fun o e => oth _ o (nS i1 (by simp)) e, h2.at fun o e => oth _ o (nS i2 (by simp)) e,
    .inl ⟨rfl, oth _ _ (nS z (by simp)) hz, x0, y0, oth _ _ (nS TO (by simp)) hTO⟩⟩
theorem zl_init (hA : A.in1.handled = none) (D : ZipApart z TI TO i1 i2 a b) (sa : SqB t1 X.K H0 a xs) (sb : SqB t2 X.K H0 b ys) (hl : xs.length = ys.length) (hn : xs.length ≤ sizeLine) (h0S : H0 Sd = none) {R : Result → Shared → Prop}
    {H : Hp} (I : Inv X pins σ H s) (hS : H Sd = some (.lst [])) (hf : ∀ c ∈ [z, TI, TO, i1, i2], FpOk X pins H c) (hH : ∀ c o, H0 c = some o → H c = some o)
    (hz : IsZipB true s.heap z TI TO .none) (hTI : IsPair s.heap TI (.ref i1) (.ref i2)) (hTO : ∃ x y, IsPair s.heap TO x y) (h1 : SI t1 s.heap i1 a 0) (h2 : SI t2 s.heap i2 b 0)
    (hR : ∀ s' H Ts, Ts.length = xs.length → Inv X pins σ H s' → H Sd = some (.lst (Ts.map V.ref)) → ZTs H xs ys Ts → (∀ c o, H0 c = some o → H c = some o) → R (.ok (.ret .none)) s') :
    wpAny (model X.prog X.w) A.in1 (Builtin.«list.__init__» ⟨[.ref Sd, .ref z], []⟩)
      (fun fin s' => match fin with | .done f => R (.ok f) s' | .again c' => c'.quiet = true ∧ codeAny (model X.prog X.w) A c' R s') (fun e s' => R (.error e) s') s := by
  have nS : ∀ c ∈ [z, TI, TO, i1, i2], c ≠ Sd := fun c hc e => by
    have := (hf _ hc).1
    rw [e, hS] at this; cases this
  obtain ⟨zz, its, n, r, hl0, eS⟩ := I.lstM hS
  have hits : its = [] := List.length_eq_zero_iff.mp (by simpa using hl0.symm)
  subst hits
  show wpAny _ A.in1 (do let old ← Builtin.List.listItems (.ref Sd); Builtin.List.listUpdate (.ref Sd) (fun _ => #[]); letGo old.toList.reverse; Builtin.List.listExtendWith (.ref Sd) (.ref z) .none) _ _ s
  refine wpAny_bind ?_
  unfold Builtin.List.listItems
  refine wpAny_bind (wpAny_seqItems eS rfl (wpAny_pure ?_))
  show wpAny _ A.in1 (updateSeq Sd (fun _ => #[]) >>= fun _ => letGo (#[] : Array Value).toList.reverse >>= fun _ => Builtin.List.listExtendWith (.ref Sd) (.ref z) .none) _ _ s
  refine wpAny_bind (wpAny_updateSeq eS rfl ?_)
  have I1 : Inv X pins σ (L2.upd H Sd (.lst [])) { s with heap := s.heap.update Sd (Obj.mapSeq (fun _ => (#[] : Array Value))) } := I.lset (its' := []) hS eS (by simp) .nil (by simp)
  have oth : ∀ b o, b ≠ Sd → s.heap.get? b = some o → (s.heap.update Sd (Obj.mapSeq (fun _ => (#[] : Array Value)))).get? b = some o :=
    fun b o hb e => (Heap.get?_update_other _ _ (Ne.symm hb)).trans e
  refine wpAny_bind (wpAny_letGo ?_)
  obtain ⟨x0, y0, hTO⟩ := hTO
  exact zl_extend hA D sa sb hl hn h0S .none I1 upd_same (fun c hc => fpOk_upd (hf c hc) (nS c hc)) (fun c o e => by
    have : c ≠ Sd := fun q => by rw [q, h0S] at e; cases e
    rw [upd_ne this]; exact hH c o e) (oth _ _ (nS z (by simp)) hz) (oth _ _ (nS TI (by simp)) hTI) ⟨x0, y0, oth _ _ (nS TO (by simp)) hTO⟩ (h1.at fun o e => oth _ o (nS i1 (by simp)) e) (h2.at fun o e => oth _ o (nS i2 (by simp)) e) hR
theorem zl_call {Q : Value → Shared → Prop} {E : Value → Shared → Prop} (hA : A.handled = none) (D : ZipApart z TI TO i1 i2 a b) (I : Inv X pins σ H0 s) (sa : SqB t1 X.K H0 a xs) (sb : SqB t2 X.K H0 b ys) (hl : xs.length = ys.length) (hn : xs.length ≤ sizeLine)
    (hf : ∀ c ∈ [z, TI, TO, i1, i2], FpOk X pins H0 c)
    (hz : IsZipB true s.heap z TI TO .none) (hTI : IsPair s.heap TI (.ref i1) (.ref i2)) (hTO : ∃ x y, IsPair s.heap TO x y) (h1 : SI t1 s.heap i1 a 0) (h2 : SI t2 s.heap i2 b 0)
    (hQ : ∀ s' H Ts, Ts.length = xs.length → Inv X pins σ H s' → H s.heap.objs.size = some (.lst (Ts.map V.ref)) → ZTs H xs ys Ts → (∀ c o, H0 c = some o → H c = some o) → Q (.ref s.heap.objs.size) s') :
    wpAny (model X.prog X.w) A (call (.type "list") [.ref z]) Q E s := by
  refine callType_codes (Q₁ := fun obj s₁ => obj = .ref s.heap.objs.size ∧ s₁ = { s with heap := s.heap.push { cls := .type "list", data := .seq #[] } }) F.called_list (F.typeCall_list_1 _) F.entry_list_init
    (code_list_new _ ⟨rfl, rfl⟩) fun obj s₁ h₁ => ?_
  obtain ⟨rfl, rfl⟩ := h₁
  have hS : (s.heap.push { cls := .type "list", data := .seq #[] }).get? s.heap.objs.size = some { cls := .type "list", data := .seq #[] } := Heap.get?_push_size _ rfl
  have h0S := I.fresh
  have nw : ∀ c ∈ [z, TI, TO, i1, i2], c ≠ s.heap.objs.size := by
    obtain ⟨x0, y0, hTO⟩ := hTO
    intro c hc
    have e' : c = z ∨ c = TI ∨ c = TO ∨ c = i1 ∨ c = i2 := by simpa using hc
    rcases e' with q | q | q | q | q
    · rw [q]; exact lt_fp hz
    · rw [q]; exact lt_fp hTI
    · rw [q]; exact lt_fp hTO
    · rw [q]; exact Nat.ne_of_lt h1.lt
    · rw [q]; exact Nat.ne_of_lt h2.lt
  have I1 : Inv X pins σ (L2.upd H0 s.heap.objs.size (.lst [])) { s with heap := s.heap.push { cls := .type "list", data := .seq #[] } } := I.lnew (its := []) .nil (by simp)
  obtain ⟨x0, y0, hTO⟩ := hTO
  refine ⟨⟨_, hS, rfl⟩, F.args_list_init_2 _ _, zl_init (A := A.in1) (show A.in1.in1.handled = none from hA) D sa sb hl hn h0S I1 upd_same (fun c hc => fpOk_upd (hf c hc) (nw c hc)) (fun c o e => ?_) (Heap.get?_push_of_some _ hz) (Heap.get?_push_of_some _ hTI) ⟨x0, y0, Heap.get?_push_of_some _ hTO⟩ (h1.at fun o e => Heap.get?_push_of_some _ e) (h2.at fun o e => Heap.get?_push_of_some _ e) fun s' H Ts e1 e2 e3 e4 e5 => ?_⟩
  · rw [upd_ne (ne_of_none e h0S)]; exact e
  · exact ⟨rfl, hQ s' H Ts e1 e2 e3 e4 e5⟩
end
def eZipL (a b : Ex) : Ex := fun ρ S => (a ρ S).bind fun x S => (b ρ S).bind fun y S => match asSq x, asSq y with
  | some p, some q => if p.2.length = q.2.length ∧ p.2.length ≤ sizeLine then .ok (.lst (zipDs p.2 q.2)) S else .bad
  | _, _ => .bad
theorem repA_ts {K : PySem.W.Frag} {H : Hp} {Fb : Addr → Prop} {m : List Addr} : ∀ {vs ws : List V} {xs ys : List D} {Ts : List Addr}, Ts.length = vs.length → vs.length = ws.length → ZTs H vs ws Ts → RepA K H Fb m vs xs → RepA K H Fb m ws ys → RepA K H Fb m (Ts.map V.ref) (zipDs xs ys)
  | [], [], xs, ys, Ts, h1, _, _, q1, q2 => by
    cases q1; cases q2
    have := List.length_eq_zero_iff.mp h1
    subst this
    exact .nil
  | v :: vs, w :: ws, xs, ys, Ts, h1, h2, hz, q1, q2 => by
    cases q1 with
    | cons r1 q1 =>
      cases q2 with
      | cons r2 q2 =>
        cases Ts with
        | nil => simp at h1
        | cons T Ts =>
          have h0 := hz 0 T v w rfl rfl rfl
          refine .cons (.tup (.of h0) (by show 2 ≤ sizeLine; decide) (.cons r1 (.cons r2 .nil))) ?_
          exact repA_ts (by simpa using h1) (by simpa using h2) (fun j T x y e1 e2 e3 => hz (j + 1) T x y (by simpa using e1) (by simpa using e2) (by simpa using e3)) q1 q2
  | [], w :: ws, _, _, _, _, h2, _, _, _ => by simp at h2
  | v :: vs, [], _, _, _, _, h2, _, _, _ => by simp at h2
section
variable {X : Cx} {W : WX} {e e2 : Expr} {fa fb : Ex} {p p0 pos pos0 p3 kp : Pos} {j : Nat}
theorem ev_zipL (hc : X.calm = true) (hgl : Gl X "list") (hml : X.mg "list" = none) (hg : Gl X "zip") (hm : X.mg "zip" = none) (ha : EV X W e fa) (hb : EV X W e2 fb) (hs2 : starEach [e2] X.env = [(false, eval e2 X.env)] := by rfl)
    (he1 : starEach [e, e2] X.env = (false, eval e X.env) :: starEach [e2] X.env := by rfl)
    (he : backTo pos (starEach [e, e2] X.env) = (false, eval e X.env) :: backTo pos (starEach [e2] X.env) := by rfl) (hpl : (backTo pos (starEach [e, e2] X.env)).any (·.1) = false := by rfl)
    (hall : (backToKw pos (keywordEach [⟨some "strict", .Constant (.bool true) j p3, kp⟩] X.env)).all (·.1.isSome) = true := by rfl) (hnone : (backToKw pos (keywordEach [⟨some "strict", .Constant (.bool true) j p3, kp⟩] X.env)).any (·.1.isNone) = false := by rfl)
    (hks : (backToKw pos (keywordEach [⟨some "strict", .Constant (.bool true) j p3, kp⟩] X.env)).filterMap (·.1) = [Str.ofString "strict"] := by rfl)
    (na : starEach [.Call (.Name "zip" p) [e, e2] [⟨some "strict", .Constant (.bool true) j p3, kp⟩] pos] X.env = (false, eval (.Call (.Name "zip" p) [e, e2] [⟨some "strict", .Constant (.bool true) j p3, kp⟩] pos) X.env) :: starEach [] X.env := by rfl) :
    EV X W (.Call (.Name "list" p0) [.Call (.Name "zip" p) [e, e2] [⟨some "strict", .Constant (.bool true) j p3, kp⟩] pos] [] pos0) (eZipL fa fb) := by
  refine ⟨fun pins s σ H Q I h => ?_⟩
  obtain ⟨B, m, ρ, S, r, re, f⟩ := h
  refine Call_ (ld_blt I hgl hml boot_list (PyProof.Rows.callWith_type1 (args_cons ?_ na) na))
  -- the two sources
  have hA : upA X.K X.mg W (evL [fa, fb]) σ H fun vs H1 => ∃ B m S ρ dx dy v1 v2, vs = [v1, v2] ∧ Rl X.K X.mg B m H1 S ∧ RepE X.K H1 (Fo B m S) m σ ρ ∧ Rep X.K H1 (Fo B m S) m v1 dx ∧ Rep X.K H1 (Fo B m S) m v2 dy ∧
      fin X.K X.mg W B m S σ H1 (match asSq dx, asSq dy with | some p, some q => if p.2.length = q.2.length ∧ p.2.length ≤ sizeLine then .ok (.lst (zipDs p.2 q.2)) S else .bad | _, _ => .bad) Q := by
    refine ⟨B, m, ρ, S, r, re, ?_⟩
    have f' : fin X.K X.mg W B m S σ H ((fa ρ S).bind fun x S => (fb ρ S).bind fun y S => match asSq x, asSq y with | some p, some q => if p.2.length = q.2.length ∧ p.2.length ≤ sizeLine then .ok (.lst (zipDs p.2 q.2)) S else .bad | _, _ => .bad) Q := f
    unfold evL evL evL
    cases e1 : fa ρ S with
    | bad => rw [e1] at f'; exact f'.elim
    | exc c p S1 => rw [e1] at f'; exact f'
    | ok dx S1 =>
      rw [e1] at f'
      simp only [DL.R.bind] at f' ⊢
      cases e2 : fb ρ S1 with
      | bad => rw [e2] at f'; exact f'.elim
      | exc c p S1 => rw [e2] at f'; exact f'
      | ok dy S2 =>
        rw [e2] at f'
        simp only [DL.R.bind] at f' ⊢
        intro m' H' vs po q
        cases q with
        | cons q1 qt =>
          cases qt with
          | cons q2 qn =>
            cases qn
            exact ⟨B, m', S2, ρ, dx, dy, _, _, rfl, po.rl, re.kp (po.kp r), q1, q2, fin.later po f'⟩
  have hpa : PA X [e, e2] (upA X.K X.mg W (evL [fa, fb])) := ea_cons ha (ea_cons hb ea_nil hs2) he1
  refine wpAny_Call_Name_kw (ld_blt I hg hm PyProof.Rows.boot_zip ?_)
  refine callWith_typeK hpl hnone ?_
  rw [he]
  refine evalArgs_kwB hall ?_
  rw [← he]
  refine thn (hpa.run pos pins s σ H _ I hA) fun us s1 ⟨vs, H1, I1, r1, q1⟩ => ?_
  refine kws_cons (Constant_bool (kws_nil ?_))
  rw [hks]
  obtain ⟨B, m, S, ρ, dx, dy, v1, v2, rfl, rl, re, rx, ry, fI⟩ := q1
  obtain ⟨u1, u2, rfl, ru1, ru2⟩ := vals2 r1
  cases e1 : asSq dx with
  | none => rw [e1] at fI; exact fI.elim
  | some p =>
    cases e2 : asSq dy with
    | none => rw [e1, e2] at fI; exact fI.elim
    | some q =>
      rw [e1, e2] at fI
      dsimp only at fI
      split at fI
      · rename_i hl
        obtain ⟨a, vs, rfl, qa, sa, ka⟩ := asSq_rep rx e1
        obtain ⟨b, ws, rfl, qb, sb, kb⟩ := asSq_rep ry e2
        cases ru1
        cases ru2
        obtain ⟨its, rv, p1⟩ := seqB I1 sa
        obtain ⟨its2, rv2, p2⟩ := seqB I1 sb
        refine call_zipS p1 p2 fun h' hz hTI hTO h1 h2 hsz hk => ?_
        have I2 : Inv X pins σ H1 { s1 with heap := h' } := I1.kept (t' := s1.toks) hk
        have la := qa.length
        have lb := qb.length
        refine args_nil ?_
        refine zl_call (I2.ok.hd hc) (PySem.W.ktu_apart s1.heap.objs.size a b p1.lt p2.lt) I2 sa sb (by omega) (by omega) (fresh5 I1) hz hTI ⟨_, _, hTO⟩ h1 h2 fun s' H' Ts e1 e2 e3 e4 e5 => ?_
        refine ⟨.ref _, H', e2, rfl, ?_⟩
        have sm : Same H1 H' := fun c o e => e5 c o e
        have n1 := I2.fresh
        refine fin.ok rl fI sm (.lst e3 (fr_of rl _ n1) (by rw [List.length_map]; omega) ?_)
        exact repA_ts (by omega) (by omega) e4 (qa.kp (kp_same sm)) (qb.kp (kp_same sm))
      · exact fI.elim
end
section
variable {Q : D → Sto → Prop} {E : Px} {ρ : Ev} {S : Sto} {a b : Ex}
theorem wp_zipL (h : Wp (a ρ S) (fun x S1 => Wp (b ρ S1) (fun y S2 => ∃ xs ys, (x = .lst xs ∨ x = .tup xs) ∧ (y = .lst ys ∨ y = .tup ys) ∧ xs.length = ys.length ∧ xs.length ≤ 16777216 ∧ Q (.lst (zipDs xs ys)) S2) E) E) : Wp (eZipL a b ρ S) Q E :=
  wp_bind (h.mono fun d S1 h => wp_bind (h.mono fun d2 S2 ⟨xs, ys, e1, e2, hl, hs, q⟩ => by
    have hs' : xs.length ≤ sizeLine := by rw [sizeLine_eq]; exact hs
    rcases e1 with rfl | rfl <;> rcases e2 with rfl | rfl <;> simp only [asSq] <;> rw [if_pos ⟨hl, hs'⟩] <;> exact ⟨q⟩))
end
end DL

/-! ## LSd -/
set_option Elab.async false
set_option linter.all false
set_option maxRecDepth 100000
set_option maxHeartbeats 4000000
namespace LS
open PySem PySem.Spec PyProof.Rows L2 DL
def tab_TURNED : List Int := [0, 1, 16, 21, 8, 25, 26, 9, 4, 7, 28, 17, 13, 12, 20, 29, 2, 11, 19, 18, 14, 3, 24, 27, 22, 5, 6, 23, 10, 15, 30]
def lb_worth_at_1 : Sx := (sSeq (sAug 2 igMul (eVar 1))
    (sSeq (sAug 2 igAdd (eVar 3))
    (sAug 2 modD (eC (.int 31)))))
def l_worth_at_1 : Sx := sFor (iSeq (eOp1 revD (eVar 0))) (.nm 3) lb_worth_at_1
/-- worth_at: 0:row 1:x 2:worth 3:sign -/
def b_worth_at : Sx :=
  (sSeq (sAsg 2 (eC (.int 0)))
    (sSeq l_worth_at_1
    (sRet (eVar 2))))
def d_worth_at : Fn := fnP (fnB 4 b_worth_at)
def ce_added_1 : Ex := (eOp2 modD (eOp2 addD (eVar 4) (eVar 5)) (eC (.int 31)))
def c_added_1 : Ex := eComp (iZipS (eVar 3) (eOp2 addD (eVar 1) (eOp2 mulD (eTup [(eC (.int 0))]) (eOp2 subD (eVar 2) (eCall lenD [(eVar 1)]))))) (.tp [(.nm 4), (.nm 5)]) tYesX ce_added_1 [4, 5]
/-- added: 0:one 1:other 2:size 3:longer 4:a 5:b -/
def b_added : Sx :=
  (sSeq (sAsg 2 (eCall max2D [(eCall lenD [(eVar 0)]), (eCall lenD [(eVar 1)])]))
    (sSeq (sAsg 3 (eOp2 addD (eVar 0) (eOp2 mulD (eTup [(eC (.int 0))]) (eOp2 subD (eVar 2) (eCall lenD [(eVar 0)])))))
    (sRet (eCall tupleD [c_added_1]))))
def d_added : Fn := fnP (fnB 6 b_added)
def ce_times_1 : Ex := (eOp2 modD (eOp2 mulD (eVar 2) (eVar 1)) (eC (.int 31)))
def c_times_1 : Ex := eComp (iSeq (eVar 0)) (.nm 2) tYesX ce_times_1 [2]
/-- times: 0:row 1:number 2:sign -/
def b_times : Sx :=
  (sRet (eCall tupleD [c_times_1]))
def d_times : Fn := fnP (fnB 3 b_times)
/-- lifted: 0:row 1:x -/
def b_lifted : Sx :=
  (sRet (eFn d_added [(eOp2 addD (eTup [(eC (.int 0))]) (eVar 0)), (eFn d_times [(eVar 0), (eOp2 modD (eOp1 negD (eVar 1)) (eC (.int 31)))])]))
def d_lifted : Fn := fnP (fnB 2 b_lifted)
/-- turned_about: 0:number -/
def b_turned_about : Sx :=
  (sRet (eOp2 ixD (eC (.tup (tab_TURNED.map .int))) (eVar 0)))
def d_turned_about : Fn := fnP (fnB 1 b_turned_about)
def i_through_1 : Sx := sIf (tVal (eOp2 neD (eVar 6) (eVar 2))) (sSeq (sAsg 4 (eFn d_lifted [(eVar 4), (eVar 6)]))
    (sSeq (sAug 5 igMul (eOp2 subD (eVar 2) (eVar 6)))
    (sAug 5 modD (eC (.int 31))))) sSkip
def lb_through_1 : Sx := i_through_1
def l_through_1 : Sx := sFor (iSeq (eVar 0)) (.tp [(.nm 6), (.nm 7)]) lb_through_1
def lb_through_2 : Sx := (sSeq (sAsg 4 (eTup [(eC (.int 1))]))
    (sSeq (sAsg 5 (eC (.int 1)))
    (sSeq l_through_1
    (sAsg 1 (eFn d_added [(eVar 1), (eFn d_times [(eVar 4), (eOp2 modD (eOp2 mulD (eVar 3) (eFn d_turned_about [(eVar 5)])) (eC (.int 31)))])])))))
def l_through_2 : Sx := sFor (iSeq (eVar 0)) (.tp [(.nm 2), (.nm 3)]) lb_through_2
/-- through: 0:pairs 1:found 2:x 3:y 4:base 5:below 6:other 7:worth -/
def b_through : Sx :=
  (sSeq (sAsg 1 (eOp2 mulD (eTup [(eC (.int 0))]) (eCall lenD [(eVar 0)])))
    (sSeq l_through_2
    (sRet (eVar 1))))
def d_through : Fn := fnP (fnB 8 b_through)
def ce_noughts_1 : Ex := (eVar 1)
def ct_noughts_1 : Tx := (tVal (eOp2 eqD (eFn d_worth_at [(eVar 0), (eVar 1)]) (eC (.int 0))))
def c_noughts_1 : Ex := eCompM (iRng1X (eC (.int 31))) (.nm 1) ct_noughts_1 ce_noughts_1 [1]
/-- noughts: 0:row 1:x -/
def b_noughts : Sx :=
  (sRet c_noughts_1)
def d_noughts : Fn := fnB 2 b_noughts
/-- is_whole: 0:thing -/
def b_is_whole : Sx :=
  (sRet (eAndX (eIsi .int (eVar 0)) (eNotX (eIsi .bool (eVar 0)))))
def d_is_whole : Fn := fnB 1 b_is_whole
/-- is_sign: 0:thing -/
def b_is_sign : Sx :=
  (sRet (eAndX (eFn d_is_whole [(eVar 0)]) (eChain leD ltD (eC (.int 0)) (eVar 0) (eC (.int 31)))))
def d_is_sign : Fn := fnB 1 b_is_sign
def ce_is_row_1 : Ex := (eFn d_is_sign [(eVar 2)])
def c_is_row_1 : Ex := eComp (iSeq (eVar 0)) (.nm 2) tYesX ce_is_row_1 [2]
/-- is_row: 0:thing 1:most 2:one -/
def b_is_row : Sx :=
  (sRet (eAndX (eIsi .tuple (eVar 0)) (eAndX (eOp2 leD (eCall lenD [(eVar 0)]) (eVar 1)) (eCall allD [c_is_row_1]))))
def d_is_row : Fn := fnB 3 b_is_row
end LS

/-! ## LEd -/
set_option Elab.async false
set_option linter.all false
set_option maxRecDepth 100000
set_option maxHeartbeats 4000000
namespace LE
open PySem PySem.Spec PyProof.Rows L2 DL
/-- _law_e_pen: 0:_law_script -/
def b_e_pen : Sx :=
  (sRet (eLstM [(eCall listD [(eSl (eVar 0) none (some (eC (.int 60))))]), (eC (.int 0)), (eC (.int 0))]))
def d_e_pen : Fn := fnB 1 b_e_pen
def i_e_fresh_1 : Sx := sIf (tVal (eOp2 neD (eOp2 ixD (eVar 0) (eC (.int 0))) (eLst []))) (sAsg 2 (eOp2 divD (eOp2 ixD (eOp2 ixD (eVar 0) (eC (.int 0))) (eOp2 modD (eOp2 mulD (eVar 1) (eC (.int 7))) (eCall lenD [(eOp2 ixD (eVar 0) (eC (.int 0)))]))) (eOp2 addD (eC (.int 1)) (eOp2 divD (eVar 1) (eCall lenD [(eOp2 ixD (eVar 0) (eC (.int 0)))]))))) sSkip
def i_e_fresh_2 : Sx := sIf (tVal (eOp2 ltD (eVar 1) (eCall lenD [(eOp2 ixD (eVar 0) (eC (.int 0)))]))) (sAsg 2 (eOp2 ixD (eOp2 ixD (eVar 0) (eC (.int 0))) (eVar 1))) sSkip
def i_e_fresh_3 : Sx := sIf (tVal (eOp2 geD (eVar 2) (eOp2 powD (eC (.int 10)) (eC (.int 18))))) (sRet (eVar 2)) sSkip
/-- _law_e_fresh: 0:_law_pen 1:_law_at 2:_law_cell 3:_law_one 4:_law_two 5:_law_mixed 6:_law_other -/
def b_e_fresh : Sx :=
  (sSeq (sAsg 1 (eOp2 ixD (eVar 0) (eC (.int 1))))
    (sSeq (sSetIx (eVar 0) (eC (.int 1)) (eOp2 addD (eVar 1) (eC (.int 1))))
    (sSeq (sAsg 2 (eC (.int 0)))
    (sSeq i_e_fresh_1
    (sSeq i_e_fresh_2
    (sSeq i_e_fresh_3
    (sSeq (sAsg 3 (eOp2 ixD (eLst [(eC (.int 2147483647)), (eC (.int 2147483629)), (eC (.int 2147483587)), (eC (.int 2147483579)), (eC (.int 2147483563)), (eC (.int 2147483549)), (eC (.int 2147483543))]) (eOp2 modD (eVar 1) (eC (.int 7)))))
    (sSeq (sAsg 4 (eOp2 ixD (eLst [(eC (.int 2147483497)), (eC (.int 2147483489)), (eC (.int 2147483477)), (eC (.int 2147483423)), (eC (.int 2147483399))]) (eOp2 modD (eVar 1) (eC (.int 5)))))
    (sSeq (sAsg 5 (eOp2 modD (eOp2 powD (eOp2 addD (eOp2 addD (eOp2 modD (eVar 2) (eVar 3)) (eOp2 mulD (eC (.int 31)) (eVar 1))) (eC (.int 5))) (eC (.int 5))) (eVar 3)))
    (sSeq (sAsg 6 (eOp2 modD (eOp2 powD (eOp2 addD (eOp2 addD (eVar 5) (eOp2 modD (eVar 2) (eVar 4))) (eOp2 mulD (eVar 1) (eVar 1))) (eC (.int 3))) (eVar 4)))
    (sRet (eOp2 addD (eOp2 mulD (eOp2 addD (eVar 5) (eC (.int 3))) (eVar 4)) (eVar 6)))))))))))))
def d_e_fresh : Fn := fnB 7 b_e_fresh
def i_e_take_1 : Sx := sIf (tVal (eOp2 ltD (eOp2 ixD (eVar 0) (eC (.int 2))) (eVar 1))) (sSetIx (eVar 0) (eC (.int 2)) (eFn d_e_fresh [(eVar 0)])) sSkip
/-- _law_e_take: 0:_law_pen 1:_law_many 2:_law_found -/
def b_e_take : Sx :=
  (sSeq i_e_take_1
    (sSeq (sAsg 2 (eOp2 modD (eOp2 ixD (eVar 0) (eC (.int 2))) (eVar 1)))
    (sSeq (sSetIx (eVar 0) (eC (.int 2)) (eOp2 divD (eOp2 ixD (eVar 0) (eC (.int 2))) (eVar 1)))
    (sRet (eVar 2)))))
def d_e_take : Fn := fnB 3 b_e_take
def lb_e_worth_1 : Sx := (sAsg 2 (eOp2 modD (eOp2 addD (eOp2 mulD (eVar 2) (eVar 1)) (eVar 3)) (eC (.int 31))))
def l_e_worth_1 : Sx := sFor (iSeq (eOp1 revD (eVar 0))) (.nm 3) lb_e_worth_1
/-- _law_e_worth: 0:_law_row 1:_law_x 2:_law_found 3:_law_sign -/
def b_e_worth : Sx :=
  (sSeq (sAsg 2 (eC (.int 0)))
    (sSeq l_e_worth_1
    (sRet (eVar 2))))
def d_e_worth : Fn := fnP (fnB 4 b_e_worth)
def ce_e_row_1 : Ex := (eFn d_e_take [(eVar 0), (eC (.int 31))])
def c_e_row_1 : Ex := eComp (iRng1X (eVar 1)) (.nm 4) tYesX ce_e_row_1 [4]
def ce_e_row_2 : Ex := (eOp2 mulD (eFn d_e_take [(eVar 0), (eC (.int 2))]) (eC (.int 30)))
def c_e_row_2 : Ex := eComp (iRng1X (eVar 1)) (.nm 4) tYesX ce_e_row_2 [4]
def i_e_row_1 : Sx := sIf (tVal (eOp2 eqD (eVar 2) (eC (.int 0)))) (sAsg 3 c_e_row_2) sSkip
def i_e_row_2 : Sx := sIf (tVal (eOp2 eqD (eVar 2) (eC (.int 1)))) (sAsg 3 (eOp2 addD (eSl (eVar 3) none (some (eOp2 divD (eVar 1) (eC (.int 2))))) (eOp2 mulD (eLst [(eC (.int 0))]) (eOp2 subD (eVar 1) (eOp2 divD (eVar 1) (eC (.int 2))))))) sSkip
/-- _law_e_row: 0:_law_pen 1:_law_size 2:_law_way 3:_law_found 4:_law_k -/
def b_e_row : Sx :=
  (sSeq (sAsg 2 (eFn d_e_take [(eVar 0), (eC (.int 6))]))
    (sSeq (sAsg 3 c_e_row_1)
    (sSeq i_e_row_1
    (sSeq i_e_row_2
    (sRet (eCall tupleD [(eVar 3)]))))))
def d_e_row : Fn := fnB 5 b_e_row
/-- _law_e_code: 0:_law_pen 1:_law_n -/
def b_e_code : Sx :=
  (sSeq (sAsg 1 (eOp2 addD (eC (.int 1)) (eFn d_e_take [(eVar 0), (eC (.int 8))])))
    (sRet (eTup [(eVar 1), (eOp2 addD (eC (.int 1)) (eFn d_e_take [(eVar 0), (eVar 1)]))])))
def d_e_code : Fn := fnB 2 b_e_code
/-- _law_e_size: 0:_law_pen 1:_law_code 2:_law_k 3:_law_some -/
def b_e_size : Sx :=
  (sSeq (sAsg 2 (eOp2 ixD (eVar 1) (eC (.int 1))))
    (sSeq (sAsg 3 (eLst [(eC (.int 0)), (eFn d_e_take [(eVar 0), (eOp2 addD (eVar 2) (eC (.int 1)))]), (eVar 2), (eOp2 mulD (eVar 2) (eC (.int 3))), (eOp2 addD (eOp2 mulD (eVar 2) (eC (.int 2))) (eC (.int 1))), (eCall max2D [(eC (.int 0)), (eOp2 subD (eOp2 mulD (eVar 2) (eC (.int 4))) (eC (.int 1)))]), (eFn d_e_take [(eVar 0), (eC (.int 41))])]))
    (sRet (eOp2 ixD (eVar 3) (eFn d_e_take [(eVar 0), (eC (.int 7))])))))
def d_e_size : Fn := fnB 4 b_e_size
def ce_e_shards_1 : Ex := (eFn d_e_worth [(eSl (eVar 1) (some (eVar 6)) (some (eOp2 addD (eVar 6) (eVar 3)))), (eVar 5)])
def c_e_shards_1 : Ex := eComp (iRng3X (eC (.int 0)) (eCall lenD [(eVar 1)]) (eVar 3)) (.nm 6) tYesX ce_e_shards_1 [6]
def lb_e_shards_1 : Sx := (sExpr (eMeth gAppend (eVar 4) [(eCall tupleD [c_e_shards_1])]))
def l_e_shards_1 : Sx := sFor (iRng2X (eC (.int 1)) (eOp2 addD (eVar 2) (eC (.int 1)))) (.nm 5) lb_e_shards_1
/-- _law_e_shards: 0:_law_code 1:_law_row 2:_law_n 3:_law_k 4:_law_found 5:_law_j 6:_law_at -/
def b_e_shards : Sx :=
  (sSeq (sAsgT (.tp [(.nm 2), (.nm 3)]) (eVar 0))
    (sSeq (sAsg 4 (eLstM []))
    (sSeq l_e_shards_1
    (sRet (eVar 4)))))
def d_e_shards : Fn := fnB 7 b_e_shards
end LE

/-! ## LEm -/
set_option Elab.async false
set_option linter.all false
set_option maxRecDepth 100000
set_option maxHeartbeats 4000000
namespace LE
open DL
local macro_rules | `(tactic| walk_at "w1") => `(tactic| with_reducible first
  | (refine ws_then ?_; try with_reducible dsimp only [List.set_cons_zero, List.set_cons_succ]) | refine ws_seq ?_ | refine ws_asg ?_ | refine ws_expr ?_ | refine ws_ret ?_ | refine ws_if ?_ | refine ws_asgT ?_ | refine ws_setIx ?_ | refine ws_skip ?_ | refine ws_retN ?_ | refine ws_brk ?_ | refine ws_cont ?_ | refine ws_thenR ?_ | refine ws_thenB ?_ | refine ws_thenC ?_ | refine fq_rt ?_ | refine fq_nx ?_ | refine un_nx ?_ | refine un_ct ?_ | refine un_bk ?_ | refine un_rt ?_ | refine ws_loopN ?_
  | (refine ws_loopC (ρ1 := ?r) ?h ?q; (case h => with_unfolding_all rfl); try with_reducible dsimp only [List.set_cons_zero, List.set_cons_succ])
  | refine wp_c ?_ | refine wp_op2 ?_ | refine wp_fn ?_ | refine wp_cons ?_ | refine wp_nil ?_ | refine wp_call ?_ | refine wp_op1 ?_
  | (refine wp_var (d := ?d) ?h ?q; (case h => with_unfolding_all rfl))
  | (refine ws_aug (d := ?d) ?h ?q; (case h => with_unfolding_all rfl))
  | refine wp_tup ?_ | refine wp_lst ?_ | refine wp_lstM ?_ | refine wp_listM ?_
  | refine wp_sl0 ?_ | refine wp_sl1 ?_ | refine wp_sl2 ?_ | refine wp_sl3 ?_
  | refine wp_tval ?_ | refine wp_tnot ?_ | refine wp_tand ?_ | refine wp_tor ?_ | refine wp_tyes ?_ | refine wp_and ?_ | refine wp_or ?_ | refine wp_not ?_ | refine wp_ifx ?_ | refine wp_chain ?_ | refine wp_meth ?_ | refine wp_meth0 ?_
  | refine wp_isi ?_ | refine wp_isis ?_ | refine wp_repr ?_ | refine wp_maxD ?_ | refine wi_rng3 ?_
  | refine wi_seq ?_ | refine wi_rng1 ?_ | refine wi_rng2 ?_ | refine wi_zip2 ?_ | refine wi_zipS ?_
  | (refine wp_fnB (ρ := ?ρ) ?he ?_; (case he => (simp only [List.map_cons, List.map_nil, List.length_cons, List.length_nil, List.replicate, List.cons_append, List.nil_append, Nat.reduceAdd, Nat.reduceSub]; rfl))))
local macro_rules | `(tactic| walk_at "w2") => `(tactic| ((with_reducible refine wo_id ?_); with_reducible first
  | refine vo_sub ?_ | refine vo_add ?_ | refine vo_lt ?_ | refine vo_le ?_ | refine vo_gt ?_ | refine vo_ge ?_ | refine vo_eq ?_ | refine vo_ne ?_ | refine vo_eqS ?_ | refine vo_neS ?_ | refine vo_eqB ?_ | refine vo_neB ?_ | refine vo_neg ?_ | refine vo_slT ?_ | refine vo_slL ?_ | refine vo_slS ?_ | refine vo_lenT ?_ | refine vo_lenL ?_ | refine vo_lenS ?_ | refine vo_revT ?_ | refine vo_revL ?_ | refine vo_min ?_ | refine vo_max ?_ | refine vo_tupL ?_ | refine vo_tupT ?_ | refine vo_lisL ?_ | refine vo_lisT ?_
  | refine vo_igAdd ?_ | refine vo_igMulR (by omega) ?_ | refine vo_igMulL (by omega) ?_ | refine vo_mod (by omega) ?_ | refine vo_div (by omega) ?_ | refine vo_mulR (by omega) ?_ | refine vo_mulL (by omega) ?_
  | refine vo_ixL0 ?_ | refine vo_ixL1 ?_ | refine vo_ixL2 ?_ | refine vo_ixL3 ?_ | refine vo_ixL4 ?_ | refine vo_ixL5 ?_ | refine vo_ixL6 ?_ | refine vo_ixT0 ?_ | refine vo_ixT1 ?_ | refine vo_ixT2 ?_ | refine vo_ixT3 ?_ | refine vo_ixT4 ?_ | refine vo_ixT5 ?_ | refine vo_ixT6 ?_
  | refine wo_vw1 (by assumption) ?_ | refine wo_vw2 (by assumption) ?_ | refine vo_vwc (by assumption) ?_
  | (refine vo_isi (c := ?c) ?h ?q; (case h => with_unfolding_all rfl)) | (refine vo_isis (c := ?c) ?h ?q; (case h => with_unfolding_all rfl))))
local macro_rules | `(tactic| walk_at "w3") => `(tactic| first
  | with_reducible refine ite_f ?_ | with_reducible refine ite_nt ?_ | with_reducible refine ite_nf ?_ | with_reducible refine ite_t ?_
  | ((with_reducible refine ex_id ?_); refine ⟨_, rfl, ?_⟩) | ((with_reducible refine and_id ?_); refine ⟨Nat.le_of_ble_eq_true rfl, ?_⟩))
local macro_rules | `(tactic| walk_at "w") => `(tactic| repeat (first | walk_at "w1" | walk_at "w2" | walk_at "w3"))

theorem pick_lt {zs : List Int} {i : Int} (h : 0 ≤ i ∧ i < zs.length) : ∃ z ∈ zs, L2.atI (zs.map D.int) i = some (.int z) := ⟨zs[i.toNat]'(by omega), List.getElem_mem _, by rw [atI_in h.1 (by rw [List.length_map]; omega), List.getElem_map]⟩
theorem wp_fresh {S : Sto} {n : Nat} {cells : List Int} {t r : Int} {Q : D → Sto → Prop} {E : Px} (h : S[n]? = some (some (.lst [.lst (cells.map .int), .int t, .int r]))) (t0 : 0 ≤ t) (t1 : t ≤ 1000000000) (hc : cells.length ≤ 1000)
    (q : ∀ v S', S'[n]? = some (some (.lst [.lst (cells.map .int), .int (t + 1), .int r])) → Only n S S' → Q (.int v) S') : Wp (d_e_fresh [.ref n] S) Q E := by
  unfold d_e_fresh b_e_fresh
  walk_at "w"
  refine ⟨n, _, 1, 1, rfl, rfl, h, rfl, ?_⟩
  refine set_gen h fun S1 h1 o1 => ?_
  have h1 : S1[n]? = some (some (.lst [.lst (cells.map .int), .int (t + 1), .int r])) := h1
  have hll : (cells.map D.int).length = cells.length := List.length_map ..
  walk_at "w"
  refine ws_midT (fun f S' => ∃ cell : Int, f = .nx [some (.ref n), some (.int t), some (.int cell), none, none, none, none] ∧ S1 = S') ?_ ?_
  · unfold i_e_fresh_1
    walk_at "w"
    refine .of (neD_of (eqD_lstI cells [])) ?_
    walk_at "w"
    refine ite_nd (fun hne => ?_) (fun _ => ?_)
    · have hl : 0 < (cells.map D.int).length := by rw [hll]; exact List.length_pos_iff.mpr hne
      have d0 : 0 ≤ t / ((cells.map D.int).length : Int) := Int.ediv_nonneg t0 (by omega)
      have d1 : t / ((cells.map D.int).length : Int) ≤ t := Int.ediv_le_self _ t0
      walk_at "w"
      obtain ⟨z, _, hz⟩ := pick_lt (zs := cells) (i := t * 7 % ((cells.map D.int).length : Int)) ⟨Int.emod_nonneg _ (by omega), by rw [← hll]; exact Int.emod_lt_of_pos _ (by omega)⟩
      refine wo_ixL hz ?_
      walk_at "w"
      rfl
    · walk_at "w"
      rfl
  rintro f S' ⟨cell, rfl, rfl⟩
  walk_at "w"
  refine ws_midT (fun f S' => ∃ cell : Int, f = .nx [some (.ref n), some (.int t), some (.int cell), none, none, none, none] ∧ S1 = S') ?_ ?_
  · unfold i_e_fresh_2
    walk_at "w"
    refine ite_d (fun hlt => ?_) (fun _ => ?_)
    · walk_at "w"
      rw [hll] at hlt
      obtain ⟨z, _, hz⟩ := pick_lt (zs := cells) (i := t) ⟨t0, hlt⟩
      refine wo_ixL hz ?_
      walk_at "w"
      rfl
    · walk_at "w"
      rfl
  rintro f S' ⟨cell, rfl, rfl⟩
  walk_at "w"
  unfold i_e_fresh_3
  walk_at "w"
  refine .of pow1018 ?_
  walk_at "w"
  refine ite_d (fun _ => ?_) (fun _ => ?_)
  · walk_at "w"
    exact q _ _ h1 o1
  · walk_at "w"
    have m7 : 0 ≤ t % 7 ∧ t % 7 < 7 := by omega
    have m5 : 0 ≤ t % 5 ∧ t % 5 < 5 := by omega
    refine wo_pick (zs := [2147483647, 2147483629, 2147483587, 2147483579, 2147483563, 2147483549, 2147483543]) rfl ⟨m7.1, by simp; omega⟩ fun p hp => ?_
    have hp' : 2147483399 ≤ p ∧ p ≤ 2147483647 := by simp at hp; omega
    walk_at "w"
    refine wo_pick (zs := [2147483497, 2147483489, 2147483477, 2147483423, 2147483399]) rfl ⟨m5.1, by simp; omega⟩ fun p2 hp2 => ?_
    have hp2' : 2147483399 ≤ p2 ∧ p2 ≤ 2147483647 := by simp at hp2; omega
    have b1 := Int.emod_nonneg cell (show p ≠ 0 by omega)
    have b2 := Int.emod_lt_of_pos cell (show 0 < p by omega)
    have b3 := Int.emod_nonneg cell (show p2 ≠ 0 by omega)
    have b4 := Int.emod_lt_of_pos cell (show 0 < p2 by omega)
    walk_at "w"
    refine .of (powD_k (by decide) (by decide) (by omega)) ?_
    walk_at "w"
    generalize hm : (cell % p + 31 * t + 5) ^ (5 : Int).toNat % p = mixed
    have b5 : 0 ≤ mixed ∧ mixed < p := by rw [← hm]; exact ⟨Int.emod_nonneg _ (by omega), Int.emod_lt_of_pos _ (by omega)⟩
    have b6 := mulB t0 t1 t0 t1
    refine .of (powD_k (by decide) (by decide) (by omega)) ?_
    walk_at "w"
    exact q _ _ h1 o1
/-- the pen: its count at most k -/
def PenS (S : Sto) (n : Nat) (k : Int) : Prop := ∃ (cells : List Int) (t r : Int), S[n]? = some (some (.lst [.lst (cells.map .int), .int t, .int r])) ∧ 0 ≤ t ∧ t ≤ k ∧ cells.length ≤ 1000
theorem PenS.mono {S : Sto} {n : Nat} {k k' : Int} (h : PenS S n k) (hk : k ≤ k') : PenS S n k' := by
  obtain ⟨c, t, r, h1, h2, h3, h4⟩ := h
  exact ⟨c, t, r, h1, h2, by omega, h4⟩
theorem PenS.lt {S : Sto} {n : Nat} {k : Int} (h : PenS S n k) : n < S.length := by
  obtain ⟨_, _, _, h, _⟩ := h
  exact (List.getElem?_eq_some_iff.mp h).1
theorem PenS.ext {S S' : Sto} {n : Nat} {k : Int} (h : PenS S n k) (e : Ext S S') : PenS S' n k := by
  obtain ⟨c, t, r, h1, h2⟩ := h
  exact ⟨c, t, r, e.at_ h1, h2⟩
theorem PenS.only {S S' : Sto} {n m : Nat} {k : Int} (h : PenS S n k) (e : Only m S S') (hm : n ≠ m) : PenS S' n k := by
  obtain ⟨c, t, r, h1, h2⟩ := h
  exact ⟨c, t, r, (e.2 n hm).trans h1, h2⟩
theorem wp_take {S : Sto} {n : Nat} {k many : Int} {Q : D → Sto → Prop} {E : Px} (h : PenS S n k) (hk : k ≤ 1000000000) (hm : 0 < many ∧ many < 1073741824)
    (q : ∀ v S', 0 ≤ v → v < many → PenS S' n (k + 1) → Only n S S' → Q (.int v) S') : Wp (d_e_take [.ref n, .int many] S) Q E := by
  obtain ⟨cells, t, r, h0, t0, t1, hc⟩ := h
  unfold d_e_take b_e_take
  walk_at "w1"
  refine ws_mid (fun f S1 => f = .nx [some (.ref n), some (.int many), none] ∧ ∃ t' r' : Int, S1[n]? = some (some (.lst [.lst (cells.map .int), .int t', .int r'])) ∧ 0 ≤ t' ∧ t' ≤ k + 1 ∧ Only n S S1) ?_ ?_
  · unfold i_e_take_1
    walk_at "w"
    refine ite_d (fun _ => ?_) (fun _ => ?_)
    · walk_at "w"
      refine wp_fresh h0 t0 (by omega) hc fun v S1 h1 o1 => ?_
      walk_at "w"
      refine ⟨n, _, 2, 2, rfl, rfl, h1, rfl, ?_⟩
      exact ⟨rfl, t + 1, v, set_at h1, by omega, by omega, o1.trans .set⟩
    · walk_at "w"
      exact ⟨rfl, t, r, h0, t0, by omega, .refl⟩
  rintro f S1 ⟨rfl, t', r', h1, t0', t1', o1⟩
  walk_at "w"
  refine ⟨n, _, 2, 2, rfl, rfl, h1, rfl, ?_⟩
  refine set_gen h1 fun S2 h2 o2 => ?_
  walk_at "w"
  exact q _ S2 (Int.emod_nonneg _ (by omega)) (Int.emod_lt_of_pos _ hm.1) ⟨cells, t', _, h2, t0', t1', hc⟩ (o1.trans o2)
theorem wp_pen {ns : List Int} (h : ns.length ≤ 63) {Q : D → Sto → Prop} {E : Px} (q : ∀ S, PenS S 0 0 → Q (.ref 0) S) : Wp (d_e_pen [.scr ns] []) Q E := by
  have e : cutD (ns.map .int) none (some 60) = (ns.take 60).map .int := by
    simp only [cutD, HT.sIx]
    rw [if_neg (by decide), List.length_map, Nat.sub_zero, List.drop_zero, ← List.map_take]
    congr 1
    rw [Nat.min_def]
    split
    · rfl
    · rw [List.take_of_length_le (by omega), List.take_of_length_le (by rw [show (60 : Int).toNat = 60 from rfl] at *; omega)]
  unfold d_e_pen b_e_pen
  walk_at "w"
  rw [e]
  exact q _ ⟨ns.take 60, 0, 0, rfl, by omega, by omega, by rw [List.length_take]; omega⟩
theorem wp_eworth {S : Sto} {xs : List Int} {x : Int} (hx : -1000 ≤ x ∧ x ≤ 1000) {Q : D → Sto → Prop} {E : Px} (q : Q (.int (wz xs x)) S) : Wp (d_e_worth [.tup (xs.map .int), .int x] S) Q E := by
  refine wp_fnP (by simp [noRefs, noRef, noRefs_int]) ?_
  unfold b_e_worth
  walk_at "w"
  unfold l_e_worth_1
  refine ws_for [2, 3] ?_
  walk_at "w"
  refine ⟨_, Or.inl rfl, ?_⟩
  refine ⟨fun j vs S => S = [] ∧ ∃ w d, vs = [some (.int w), d] ∧ w = (xs.reverse.take j).foldl (fun w s => (w * x + s) % 31) 0, [some (.int 0), none], rfl, rfl, ⟨rfl, 0, none, rfl, by simp⟩, ?_, ?_⟩
  · rintro j d vs S hj hv ⟨rfl, w, d3, rfl, hw⟩
    rw [← List.map_reverse, List.getElem?_map] at hj
    obtain ⟨s, hs, rfl⟩ := Option.map_eq_some_iff.mp hj
    refine ⟨_, rfl, ?_⟩
    unfold lb_e_worth_1
    walk_at "w"
    exact ⟨[some (.int ((w * x + s) % 31)), some (.int s)], rfl, rfl, rfl, _, _, rfl, by rw [foldl_take hs, ← hw]⟩
  · rintro vs S1 hv ⟨rfl, w, d, rfl, hw⟩
    rw [List.length_reverse, List.length_map, List.take_of_length_le (by simp)] at hw
    walk_at "w"
    refine ⟨rfl, ?_⟩
    show Q (.int w) S
    rw [hw]
    exact q
/-- a comprehension of drawn signs -/
theorem wp_erow {S : Sto} {n : Nat} {k : Int} {size : Nat} {Q : D → Sto → Prop} {E : Px} (h : PenS S n k) (hk : k ≤ 900000000) (hs : size ≤ 10000)
    (q : ∀ (xs : List Int) S', Row xs → xs.length = size → PenS S' n (k + 30000) → Only n S S' → Q (.tup (xs.map .int)) S') : Wp (d_e_row [.ref n, .int size] S) Q E := by
  unfold d_e_row b_e_row
  walk_at "w"
  refine wp_take h (by omega) (by omega) fun way S1 w0 w1 p1 o1 => ?_
  walk_at "w"
  unfold c_e_row_1
  refine wp_compG D.int ?_
  walk_at "w"
  refine ⟨by omega, ?_⟩
  refine ⟨fun j as S' => Row as ∧ PenS S' n (k + 1 + j) ∧ Only n S1 S', by rw [iRng_len]; omega, ⟨fun x hx => by simp at hx, p1.mono (by simp), .refl⟩, ?_, ?_⟩
  · rintro j d as S2 hj hal ⟨hr, p2, o2⟩
    obtain ⟨rfl, hlt⟩ := iRng_at hj
    refine ⟨_, rfl, ?_⟩
    unfold ce_e_row_1
    walk_at "w"
    refine wp_take p2 (by omega) (by omega) fun v S3 v0 v1 p3 o3 => ?_
    exact ⟨v, rfl, hr.app (fun x hx => by simp at hx; omega), p3.mono (by omega), o2.trans o3⟩
  rintro as S2 hal ⟨hr, p2, o2⟩
  rw [iRng_len] at hal p2
  walk_at "w"
  refine ws_midT (fun f S' => ∃ as : List Int, f = .nx [some (.ref n), some (.int size), some (.int way), some (.lst (as.map .int)), none] ∧ Row as ∧ as.length = size ∧ PenS S' n (k + 20002) ∧ Only n S S') ?_ ?_
  · unfold i_e_row_1
    walk_at "w"
    refine ite_d (fun _ => ?_) (fun _ => ?_)
    · walk_at "w"
      unfold c_e_row_2
      refine wp_compG D.int ?_
      walk_at "w"
      refine ⟨by omega, ?_⟩
      refine ⟨fun j as S' => Row as ∧ PenS S' n (k + 10001 + j) ∧ Only n S S', by rw [iRng_len]; omega, ⟨fun x hx => by simp at hx, p2.mono (by omega), o1.trans o2⟩, ?_, ?_⟩
      · rintro j d as S2 hj hal ⟨hr, p2, o2⟩
        obtain ⟨rfl, hlt⟩ := iRng_at hj
        refine ⟨_, rfl, ?_⟩
        unfold ce_e_row_2
        walk_at "w"
        refine wp_take p2 (by omega) (by omega) fun v S3 v0 v1 p3 o3 => ?_
        walk_at "w"
        exact ⟨hr.app (fun x hx => by simp at hx; omega), p3.mono (by omega), o2.trans o3⟩
      rintro as S2 hal ⟨hr, p2, o2⟩
      rw [iRng_len] at hal p2
      exact ⟨as, rfl, hr, by omega, p2.mono (by omega), o2⟩
    · walk_at "w"
      exact ⟨hr, by omega, p2.mono (by omega), o1.trans o2⟩
  rintro f S3 ⟨as, rfl, hr, hl, p3, o3⟩
  walk_at "w"
  refine ws_midT (fun f S' => ∃ as : List Int, f = .nx [some (.ref n), some (.int size), some (.int way), some (.lst (as.map .int)), none] ∧ Row as ∧ as.length = size ∧ S3 = S') ?_ ?_
  · unfold i_e_row_2
    walk_at "w"
    refine ite_d (fun _ => ?_) (fun _ => ?_)
    · walk_at "w"
      refine wo_mulLs (by omega) (by simp; omega) ?_
      rw [rep_one, cut_map]
      have hd : cutL as none (some ((size : Int) / 2)) = as.take ((size : Int) / 2).toNat := cutL_take as _ (by omega)
      have hz : (size : Int) / 2 ≤ size := by omega
      have hz0 : 0 ≤ (size : Int) / 2 := by omega
      rw [hd]
      refine wo_addL (by simp; omega) ?_
      rw [← List.map_append]
      walk_at "w"
      refine ⟨Row.app (fun x hx => hr x (List.mem_of_mem_take hx)) (Row.rep0 _), ?_, rfl⟩
      simp
      omega
    · walk_at "w"
      exact ⟨hr, hl, rfl⟩
  rintro f S4 ⟨as, rfl, hr, hl, rfl⟩
  walk_at "w"
  exact q as S3 hr hl (p3.mono (by omega)) o3
end LE

/-! ## LSm -/
set_option Elab.async false
set_option linter.all false
set_option maxRecDepth 100000
set_option maxHeartbeats 4000000
namespace LS
open DL
local macro_rules | `(tactic| walk_at "w1") => `(tactic| with_reducible first
  | (refine ws_then ?_; try with_reducible dsimp only [List.set_cons_zero, List.set_cons_succ]) | refine ws_seq ?_ | refine ws_asg ?_ | refine ws_expr ?_ | refine ws_ret ?_ | refine ws_if ?_ | refine ws_asgT ?_ | refine ws_setIx ?_ | refine ws_skip ?_ | refine ws_retN ?_ | refine ws_brk ?_ | refine ws_cont ?_ | refine ws_thenR ?_ | refine ws_thenB ?_ | refine ws_thenC ?_ | refine fq_rt ?_ | refine fq_nx ?_ | refine un_nx ?_ | refine un_ct ?_ | refine un_bk ?_ | refine un_rt ?_ | refine ws_loopN ?_
  | (refine ws_loopC (ρ1 := ?r) ?h ?q; (case h => with_unfolding_all rfl); try with_reducible dsimp only [List.set_cons_zero, List.set_cons_succ])
  | refine wp_c ?_ | refine wp_op2 ?_ | refine wp_fn ?_ | refine wp_cons ?_ | refine wp_nil ?_ | refine wp_call ?_ | refine wp_op1 ?_
  | (refine wp_var (d := ?d) ?h ?q; (case h => with_unfolding_all rfl))
  | (refine ws_aug (d := ?d) ?h ?q; (case h => with_unfolding_all rfl))
  | refine wp_tup ?_ | refine wp_lst ?_ | refine wp_lstM ?_ | refine wp_listM ?_
  | refine wp_sl0 ?_ | refine wp_sl1 ?_ | refine wp_sl2 ?_ | refine wp_sl3 ?_
  | refine wp_tval ?_ | refine wp_tnot ?_ | refine wp_tand ?_ | refine wp_tor ?_ | refine wp_tyes ?_ | refine wp_and ?_ | refine wp_or ?_ | refine wp_not ?_ | refine wp_ifx ?_ | refine wp_chain ?_ | refine wp_meth ?_ | refine wp_meth0 ?_
  | refine wp_isi ?_ | refine wp_isis ?_ | refine wp_repr ?_ | refine wp_maxD ?_ | refine wi_rng3 ?_
  | refine wi_seq ?_ | refine wi_rng1 ?_ | refine wi_rng2 ?_ | refine wi_zip2 ?_ | refine wi_zipS ?_
  | (refine wp_fnB (ρ := ?ρ) ?he ?_; (case he => (simp only [List.map_cons, List.map_nil, List.length_cons, List.length_nil, List.replicate, List.cons_append, List.nil_append, Nat.reduceAdd, Nat.reduceSub]; rfl))))
local macro_rules | `(tactic| walk_at "w2") => `(tactic| ((with_reducible refine wo_id ?_); with_reducible first
  | refine vo_sub ?_ | refine vo_add ?_ | refine vo_lt ?_ | refine vo_le ?_ | refine vo_gt ?_ | refine vo_ge ?_ | refine vo_eq ?_ | refine vo_ne ?_ | refine vo_eqS ?_ | refine vo_neS ?_ | refine vo_eqB ?_ | refine vo_neB ?_ | refine vo_neg ?_ | refine vo_slT ?_ | refine vo_slL ?_ | refine vo_slS ?_ | refine vo_lenT ?_ | refine vo_lenL ?_ | refine vo_lenS ?_ | refine vo_revT ?_ | refine vo_revL ?_ | refine vo_min ?_ | refine vo_max ?_ | refine vo_tupL ?_ | refine vo_tupT ?_ | refine vo_lisL ?_ | refine vo_lisT ?_
  | refine vo_igAdd ?_ | refine vo_igMulR (by omega) ?_ | refine vo_igMulL (by omega) ?_ | refine vo_mod (by omega) ?_ | refine vo_div (by omega) ?_ | refine vo_mulR (by omega) ?_ | refine vo_mulL (by omega) ?_
  | refine vo_ixL0 ?_ | refine vo_ixL1 ?_ | refine vo_ixL2 ?_ | refine vo_ixL3 ?_ | refine vo_ixL4 ?_ | refine vo_ixL5 ?_ | refine vo_ixL6 ?_ | refine vo_ixT0 ?_ | refine vo_ixT1 ?_ | refine vo_ixT2 ?_ | refine vo_ixT3 ?_ | refine vo_ixT4 ?_ | refine vo_ixT5 ?_ | refine vo_ixT6 ?_
  | refine wo_vw1 (by assumption) ?_ | refine wo_vw2 (by assumption) ?_ | refine vo_vwc (by assumption) ?_
  | (refine vo_isi (c := ?c) ?h ?q; (case h => with_unfolding_all rfl)) | (refine vo_isis (c := ?c) ?h ?q; (case h => with_unfolding_all rfl))))
local macro_rules | `(tactic| walk_at "w3") => `(tactic| first
  | with_reducible refine ite_f ?_ | with_reducible refine ite_nt ?_ | with_reducible refine ite_nf ?_ | with_reducible refine ite_t ?_
  | ((with_reducible refine ex_id ?_); refine ⟨_, rfl, ?_⟩) | ((with_reducible refine and_id ?_); refine ⟨Nat.le_of_ble_eq_true rfl, ?_⟩))
local macro_rules | `(tactic| walk_at "w") => `(tactic| repeat (first | walk_at "w1" | walk_at "w2" | walk_at "w3"))

/-- a loop over a fixed list of ints that carries one value -/
theorem wp_worth {S : Sto} {xs : List Int} {x : Int} (hx : -1000 ≤ x ∧ x ≤ 1000) {Q : D → Sto → Prop} {E : Px} (q : Q (.int (wz xs x)) S) : Wp (d_worth_at [.tup (xs.map .int), .int x] S) Q E := by
  refine wp_fnP (by simp [noRefs, noRef, noRefs_int]) ?_
  unfold b_worth_at
  walk_at "w"
  unfold l_worth_at_1
  refine ws_for [2, 3] ?_
  walk_at "w"
  refine ⟨_, Or.inl rfl, ?_⟩
  refine ⟨fun j vs S => S = [] ∧ ∃ w d, vs = [some (.int w), d] ∧ w = (xs.reverse.take j).foldl (fun w s => (w * x + s) % 31) 0, [some (.int 0), none], rfl, rfl, ⟨rfl, 0, none, rfl, by simp⟩, ?_, ?_⟩
  · rintro j d vs S hj hv ⟨rfl, w, d3, rfl, hw⟩
    rw [← List.map_reverse, List.getElem?_map] at hj
    obtain ⟨s, hs, rfl⟩ := Option.map_eq_some_iff.mp hj
    refine ⟨_, rfl, ?_⟩
    unfold lb_worth_at_1
    walk_at "w"
    exact ⟨[some (.int ((w * x + s) % 31)), some (.int s)], rfl, rfl, rfl, _, _, rfl, by rw [foldl_take hs, ← hw]⟩
  · rintro vs S1 hv ⟨rfl, w, d, rfl, hw⟩
    rw [List.length_reverse, List.length_map, List.take_of_length_le (by simp)] at hw
    walk_at "w"
    refine ⟨rfl, ?_⟩
    show Q (.int w) S
    rw [hw]
    exact q
end LS

/-! ## LHd -/
set_option Elab.async false
set_option linter.all false
set_option maxRecDepth 100000
set_option maxHeartbeats 4000000
namespace LH
open PySem PySem.Spec PyProof.Rows L2 DL
/-- need_of: 0:code 1:size -/
def b_need_of : Sx :=
  (sRet (eCall min2D [(eOp2 ixD (eVar 0) (eC (.int 1))), (eVar 1)]))
def d_need_of : Fn := fnB 2 b_need_of
def ce_columns_of_1 : Ex := (eSl (eVar 1) (some (eVar 2)) (some (eOp2 addD (eVar 2) (eOp2 ixD (eVar 0) (eC (.int 1))))))
def c_columns_of_1 : Ex := eComp (iRng3X (eC (.int 0)) (eCall lenD [(eVar 1)]) (eOp2 ixD (eVar 0) (eC (.int 1)))) (.nm 2) tYesX ce_columns_of_1 [2]
/-- columns_of: 0:code 1:row 2:at -/
def b_columns_of : Sx :=
  (sRet c_columns_of_1)
def d_columns_of : Fn := fnB 3 b_columns_of
def ce_shards_1 : Ex := (eFn LS.d_worth_at [(eVar 3), (eOp2 addD (eVar 4) (eC (.int 1)))])
def c_shards_1 : Ex := eComp (iSeq (eVar 2)) (.nm 3) tYesX ce_shards_1 [3]
def ce_shards_2 : Ex := (eCall tupleD [c_shards_1])
def c_shards_2 : Ex := eCompM (iRng1X (eOp2 ixD (eVar 0) (eC (.int 0)))) (.nm 4) tYesX ce_shards_2 [4]
/-- shards: 0:code 1:row 2:columns 3:column 4:j -/
def b_shards : Sx :=
  (sSeq (sAsg 2 (eFn d_columns_of [(eVar 0), (eVar 1)]))
    (sRet c_shards_2))
def d_shards : Fn := fnB 5 b_shards
end LH

/-! ## LEn -/
set_option Elab.async false
set_option linter.all false
set_option maxRecDepth 100000
set_option maxHeartbeats 4000000
namespace LE
open DL
local macro_rules | `(tactic| walk_at "w1") => `(tactic| with_reducible first
  | (refine ws_then ?_; try with_reducible dsimp only [List.set_cons_zero, List.set_cons_succ]) | refine ws_seq ?_ | refine ws_asg ?_ | refine ws_expr ?_ | refine ws_ret ?_ | refine ws_if ?_ | refine ws_asgT ?_ | refine ws_setIx ?_ | refine ws_skip ?_ | refine ws_retN ?_ | refine ws_brk ?_ | refine ws_cont ?_ | refine ws_thenR ?_ | refine ws_thenB ?_ | refine ws_thenC ?_ | refine fq_rt ?_ | refine fq_nx ?_ | refine un_nx ?_ | refine un_ct ?_ | refine un_bk ?_ | refine un_rt ?_ | refine ws_loopN ?_
  | (refine ws_loopC (ρ1 := ?r) ?h ?q; (case h => with_unfolding_all rfl); try with_reducible dsimp only [List.set_cons_zero, List.set_cons_succ])
  | refine wp_c ?_ | refine wp_op2 ?_ | refine wp_fn ?_ | refine wp_cons ?_ | refine wp_nil ?_ | refine wp_call ?_ | refine wp_op1 ?_
  | (refine wp_var (d := ?d) ?h ?q; (case h => with_unfolding_all rfl))
  | (refine ws_aug (d := ?d) ?h ?q; (case h => with_unfolding_all rfl))
  | refine wp_tup ?_ | refine wp_lst ?_ | refine wp_lstM ?_ | refine wp_listM ?_
  | refine wp_sl0 ?_ | refine wp_sl1 ?_ | refine wp_sl2 ?_ | refine wp_sl3 ?_
  | refine wp_tval ?_ | refine wp_tnot ?_ | refine wp_tand ?_ | refine wp_tor ?_ | refine wp_tyes ?_ | refine wp_and ?_ | refine wp_or ?_ | refine wp_not ?_ | refine wp_ifx ?_ | refine wp_chain ?_ | refine wp_meth ?_ | refine wp_meth0 ?_
  | refine wp_isi ?_ | refine wp_isis ?_ | refine wp_repr ?_ | refine wp_maxD ?_ | refine wi_rng3 ?_
  | refine wi_seq ?_ | refine wi_rng1 ?_ | refine wi_rng2 ?_ | refine wi_zip2 ?_ | refine wi_zipS ?_
  | (refine wp_fnB (ρ := ?ρ) ?he ?_; (case he => (simp only [List.map_cons, List.map_nil, List.length_cons, List.length_nil, List.replicate, List.cons_append, List.nil_append, Nat.reduceAdd, Nat.reduceSub]; rfl))))
local macro_rules | `(tactic| walk_at "w2") => `(tactic| ((with_reducible refine wo_id ?_); with_reducible first
  | refine vo_sub ?_ | refine vo_add ?_ | refine vo_lt ?_ | refine vo_le ?_ | refine vo_gt ?_ | refine vo_ge ?_ | refine vo_eq ?_ | refine vo_ne ?_ | refine vo_eqS ?_ | refine vo_neS ?_ | refine vo_eqB ?_ | refine vo_neB ?_ | refine vo_neg ?_ | refine vo_slT ?_ | refine vo_slL ?_ | refine vo_slS ?_ | refine vo_lenT ?_ | refine vo_lenL ?_ | refine vo_lenS ?_ | refine vo_revT ?_ | refine vo_revL ?_ | refine vo_min ?_ | refine vo_max ?_ | refine vo_tupL ?_ | refine vo_tupT ?_ | refine vo_lisL ?_ | refine vo_lisT ?_
  | refine vo_igAdd ?_ | refine vo_igMulR (by omega) ?_ | refine vo_igMulL (by omega) ?_ | refine vo_mod (by omega) ?_ | refine vo_div (by omega) ?_ | refine vo_mulR (by omega) ?_ | refine vo_mulL (by omega) ?_
  | refine vo_ixL0 ?_ | refine vo_ixL1 ?_ | refine vo_ixL2 ?_ | refine vo_ixL3 ?_ | refine vo_ixL4 ?_ | refine vo_ixL5 ?_ | refine vo_ixL6 ?_ | refine vo_ixT0 ?_ | refine vo_ixT1 ?_ | refine vo_ixT2 ?_ | refine vo_ixT3 ?_ | refine vo_ixT4 ?_ | refine vo_ixT5 ?_ | refine vo_ixT6 ?_
  | refine wo_vw1 (by assumption) ?_ | refine wo_vw2 (by assumption) ?_ | refine vo_vwc (by assumption) ?_
  | (refine vo_isi (c := ?c) ?h ?q; (case h => with_unfolding_all rfl)) | (refine vo_isis (c := ?c) ?h ?q; (case h => with_unfolding_all rfl))))
local macro_rules | `(tactic| walk_at "w3") => `(tactic| first
  | with_reducible refine ite_f ?_ | with_reducible refine ite_nt ?_ | with_reducible refine ite_nf ?_ | with_reducible refine ite_t ?_
  | ((with_reducible refine ex_id ?_); refine ⟨_, rfl, ?_⟩) | ((with_reducible refine and_id ?_); refine ⟨Nat.le_of_ble_eq_true rfl, ?_⟩))
local macro_rules | `(tactic| walk_at "w") => `(tactic| repeat (first | walk_at "w1" | walk_at "w2" | walk_at "w3"))

theorem wp_ecode {S : Sto} {n : Nat} {k : Int} {Q : D → Sto → Prop} {E : Px} (h : PenS S n k) (hk : k ≤ 900000000)
    (q : ∀ (a b : Nat) S', 1 ≤ b → b ≤ a → a ≤ 8 → PenS S' n (k + 2) → Only n S S' → Q (.tup [.int a, .int b]) S') : Wp (d_e_code [.ref n] S) Q E := by
  unfold d_e_code b_e_code
  walk_at "w"
  refine wp_take h (by omega) (by omega) fun v1 S1 a1 b1 p1 o1 => ?_
  walk_at "w"
  refine wp_take p1 (by omega) (by omega) fun v2 S2 a2 b2 p2 o2 => ?_
  walk_at "w"
  have := q (1 + v1).toNat (1 + v2).toNat S2 (by omega) (by omega) (by omega) (p2.mono (by omega)) (o1.trans o2)
  rw [Int.toNat_of_nonneg (by omega), Int.toNat_of_nonneg (by omega)] at this
  exact this
theorem wp_esize {S : Sto} {n : Nat} {k : Int} {a b : Nat} (hb : 1 ≤ b) (hb8 : b ≤ 8) {Q : D → Sto → Prop} {E : Px} (h : PenS S n k) (hk : k ≤ 900000000)
    (q : ∀ (s : Nat) S', s ≤ 41 → PenS S' n (k + 3) → Only n S S' → Q (.int s) S') : Wp (d_e_size [.ref n, .tup [.int a, .int b]] S) Q E := by
  unfold d_e_size b_e_size
  walk_at "w"
  refine wp_take h (by omega) (by omega) fun v1 S1 a1 b1 p1 o1 => ?_
  walk_at "w"
  refine wp_take p1 (by omega) (by omega) fun v2 S2 a2 b2 p2 o2 => ?_
  walk_at "w"
  refine wp_take p2 (by omega) (by omega) fun v3 S3 a3 b3 p3 o3 => ?_
  refine wo_pick (zs := [0, v1, b, b * 3, b * 2 + 1, (if b * 4 - 1 > (0 : Int) then b * 4 - 1 else 0), v2]) rfl ⟨by omega, by simp; omega⟩ fun z hz => ?_
  have hz' : 0 ≤ z ∧ z ≤ 41 := by
    simp only [List.mem_cons, List.not_mem_nil, or_false] at hz
    split at hz <;> omega
  walk_at "w"
  have := q z.toNat S3 (by omega) (p3.mono (by omega)) ((o1.trans o2).trans o3)
  rw [Int.toNat_of_nonneg (by omega)] at this
  exact this
end LE
namespace DL
/-! ### shards -/
def cols (k : Nat) (xs : List Int) : List (List Int) := (List.range (rgN 0 xs.length k)).map fun i => cutL xs (some (0 + (i : Nat) * (k : Int))) (some (0 + (i : Nat) * (k : Int) + k))
def shs (n k : Nat) (xs : List Int) : List (List Int) := (List.range n).map fun j => (cols k xs).map fun c => wz c ((j : Nat) + 1)
theorem cols_len (k : Nat) (xs : List Int) : (cols k xs).length ≤ xs.length := by
  have h := PyProof.Rows.rangeSize_toNat_le 0 xs.length k
  unfold cols
  rw [List.length_map, List.length_range]
  unfold rgN
  omega
def rowD (xs : List Int) : D := .tup (xs.map .int)
theorem small_up {l k : Nat} (h : l ≤ 1000000) (h2 : k ≤ 1000000) : PySem.Builtin.Range.small 0 l k = true := by
  have e := PyProof.Rows.rangeSize_toNat 0 (l : Int) (k : Int)
  have h3 := PyProof.Rows.rangeSize_toNat_le 0 (l : Int) (k : Int)
  unfold PySem.Builtin.Range.small
  rw [e]
  generalize (PySem.Builtin.Range.rangeSize 0 (l : Int) (k : Int)).toNat = m at *
  simp only [PySem.Builtin.Range.rangeFitsLong, Bool.and_eq_true, Bool.or_eq_true, decide_eq_true_eq, beq_iff_eq]
  refine ⟨by omega, Or.inr ?_⟩
  split <;> simp only [Bool.and_eq_true, decide_eq_true_eq] <;> omega
theorem shs_row {n k : Nat} {xs : List Int} {r : List Int} (h : r ∈ shs n k xs) : Row r ∧ r.length ≤ xs.length := by
  unfold shs at h
  obtain ⟨j, _, rfl⟩ := List.mem_map.mp h
  refine ⟨fun x hx => ?_, by rw [List.length_map]; exact cols_len k xs⟩
  obtain ⟨c, _, rfl⟩ := List.mem_map.mp hx
  exact wz_rng _ _
theorem shs_rep (n k : Nat) (xs : List Int) (hn : n ≤ 100) (hx : xs.length ≤ 1300) : ∃ z, reprD (.lst ((shs n k xs).map rowD)) = some (.str z) := by
  refine rep_small ?_ ?_ ?_
  · exact smDs_map rowD _ fun r hr => sm_row (shs_row hr).1
  · have h := wtDs_map rowD 1301 (shs n k xs) fun r hr => by
      have := wt_row r
      have := (shs_row hr).2
      unfold rowD
      omega
    have hl : (shs n k xs).length = n := by simp [shs]
    simp only [wtD]
    rw [hl] at h
    have := Nat.mul_le_mul_left 1301 hn
    omega
  · have h := dpDs_map rowD 1 (shs n k xs) fun r _ => dp_row r
    simp only [dpD]
    omega
end DL
namespace LE
open DL
local macro_rules | `(tactic| walk_at "w1") => `(tactic| with_reducible first
  | (refine ws_then ?_; try with_reducible dsimp only [List.set_cons_zero, List.set_cons_succ]) | refine ws_seq ?_ | refine ws_asg ?_ | refine ws_expr ?_ | refine ws_ret ?_ | refine ws_if ?_ | refine ws_asgT ?_ | refine ws_setIx ?_ | refine ws_skip ?_ | refine ws_retN ?_ | refine ws_brk ?_ | refine ws_cont ?_ | refine ws_thenR ?_ | refine ws_thenB ?_ | refine ws_thenC ?_ | refine fq_rt ?_ | refine fq_nx ?_ | refine un_nx ?_ | refine un_ct ?_ | refine un_bk ?_ | refine un_rt ?_ | refine ws_loopN ?_
  | (refine ws_loopC (ρ1 := ?r) ?h ?q; (case h => with_unfolding_all rfl); try with_reducible dsimp only [List.set_cons_zero, List.set_cons_succ])
  | refine wp_c ?_ | refine wp_op2 ?_ | refine wp_fn ?_ | refine wp_cons ?_ | refine wp_nil ?_ | refine wp_call ?_ | refine wp_op1 ?_
  | (refine wp_var (d := ?d) ?h ?q; (case h => with_unfolding_all rfl))
  | (refine ws_aug (d := ?d) ?h ?q; (case h => with_unfolding_all rfl))
  | refine wp_tup ?_ | refine wp_lst ?_ | refine wp_lstM ?_ | refine wp_listM ?_
  | refine wp_sl0 ?_ | refine wp_sl1 ?_ | refine wp_sl2 ?_ | refine wp_sl3 ?_
  | refine wp_tval ?_ | refine wp_tnot ?_ | refine wp_tand ?_ | refine wp_tor ?_ | refine wp_tyes ?_ | refine wp_and ?_ | refine wp_or ?_ | refine wp_not ?_ | refine wp_ifx ?_ | refine wp_chain ?_ | refine wp_meth ?_ | refine wp_meth0 ?_
  | refine wp_isi ?_ | refine wp_isis ?_ | refine wp_repr ?_ | refine wp_maxD ?_ | refine wi_rng3 ?_
  | refine wi_seq ?_ | refine wi_rng1 ?_ | refine wi_rng2 ?_ | refine wi_zip2 ?_ | refine wi_zipS ?_
  | (refine wp_fnB (ρ := ?ρ) ?he ?_; (case he => (simp only [List.map_cons, List.map_nil, List.length_cons, List.length_nil, List.replicate, List.cons_append, List.nil_append, Nat.reduceAdd, Nat.reduceSub]; rfl))))
local macro_rules | `(tactic| walk_at "w2") => `(tactic| ((with_reducible refine wo_id ?_); with_reducible first
  | refine vo_sub ?_ | refine vo_add ?_ | refine vo_lt ?_ | refine vo_le ?_ | refine vo_gt ?_ | refine vo_ge ?_ | refine vo_eq ?_ | refine vo_ne ?_ | refine vo_eqS ?_ | refine vo_neS ?_ | refine vo_eqB ?_ | refine vo_neB ?_ | refine vo_neg ?_ | refine vo_slT ?_ | refine vo_slL ?_ | refine vo_slS ?_ | refine vo_lenT ?_ | refine vo_lenL ?_ | refine vo_lenS ?_ | refine vo_revT ?_ | refine vo_revL ?_ | refine vo_min ?_ | refine vo_max ?_ | refine vo_tupL ?_ | refine vo_tupT ?_ | refine vo_lisL ?_ | refine vo_lisT ?_
  | refine vo_igAdd ?_ | refine vo_igMulR (by omega) ?_ | refine vo_igMulL (by omega) ?_ | refine vo_mod (by omega) ?_ | refine vo_div (by omega) ?_ | refine vo_mulR (by omega) ?_ | refine vo_mulL (by omega) ?_
  | refine vo_ixL0 ?_ | refine vo_ixL1 ?_ | refine vo_ixL2 ?_ | refine vo_ixL3 ?_ | refine vo_ixL4 ?_ | refine vo_ixL5 ?_ | refine vo_ixL6 ?_ | refine vo_ixT0 ?_ | refine vo_ixT1 ?_ | refine vo_ixT2 ?_ | refine vo_ixT3 ?_ | refine vo_ixT4 ?_ | refine vo_ixT5 ?_ | refine vo_ixT6 ?_
  | refine wo_vw1 (by assumption) ?_ | refine wo_vw2 (by assumption) ?_ | refine vo_vwc (by assumption) ?_
  | (refine vo_isi (c := ?c) ?h ?q; (case h => with_unfolding_all rfl)) | (refine vo_isis (c := ?c) ?h ?q; (case h => with_unfolding_all rfl))))
local macro_rules | `(tactic| walk_at "w3") => `(tactic| first
  | with_reducible refine ite_f ?_ | with_reducible refine ite_nt ?_ | with_reducible refine ite_nf ?_ | with_reducible refine ite_t ?_
  | ((with_reducible refine ex_id ?_); refine ⟨_, rfl, ?_⟩) | ((with_reducible refine and_id ?_); refine ⟨Nat.le_of_ble_eq_true rfl, ?_⟩))
local macro_rules | `(tactic| walk_at "w") => `(tactic| repeat (first | walk_at "w1" | walk_at "w2" | walk_at "w3"))

theorem wp_eshards {S : Sto} {n k : Nat} {xs : List Int} (hk : 1 ≤ k ∧ k ≤ 1000) (hn : n ≤ 1000) (hx : xs.length ≤ 10000) {Q : D → Sto → Prop} {E : Px}
    (q : Q (.ref S.length) (S ++ [some (.lst ((shs n k xs).map rowD))])) : Wp (d_e_shards [.tup [.int n, .int k], .tup (xs.map .int)] S) Q E := by
  unfold d_e_shards b_e_shards
  walk_at "w"
  unfold l_e_shards_1
  refine ws_for [5, 6] ?_
  walk_at "w"
  refine ⟨1, (n : Int) + 1, rfl, rfl, by omega, by omega, ?_⟩
  have hlen : (iRng 1 ((n : Int) + 1)).length = n := by rw [iRng_len]; omega
  refine ⟨fun j vs S' => S' = S ++ [some (.lst (((shs n k xs).take j).map rowD))], [none, none], rfl, rfl, rfl, ?_, ?_⟩
  · rintro j d vs S' hj hv rfl
    obtain ⟨v5, v6, rfl⟩ : ∃ a b, vs = [a, b] := by
      match vs, hv with
      | [a, b], _ => exact ⟨a, b, rfl⟩
    have hjn : j < n := by rw [← hlen]; exact (List.getElem?_eq_some_iff.mp hj).1
    obtain ⟨rfl, _⟩ := iRng_at hj
    refine ⟨_, rfl, ?_⟩
    unfold lb_e_shards_1
    walk_at "w"
    refine ⟨by rw [lst_app]; rfl, ?_⟩
    walk_at "w"
    unfold c_e_shards_1
    refine wp_compM1 (List.range (rgN 0 xs.length k)) (fun i => .int (0 + (i : Nat) * (k : Int))) (fun i => .int (wz (cutL xs (some (0 + (i : Nat) * (k : Int))) (some (0 + (i : Nat) * (k : Int) + k))) (1 + j))) ?_ ?_
    · have := cols_len k xs
      unfold cols at this
      rw [List.length_map] at this
      omega
    · walk_at "w"
      rw [List.length_map]
      refine ⟨0, _, k, rfl, ⟨by omega, by omega, small_up (by omega) (by omega)⟩, rfl, fun i _ => ⟨_, rfl, ?_⟩, ?_⟩
      · unfold ce_e_shards_1
        walk_at "w"
        rw [cut_map]
        refine wp_eworth (by omega) ⟨rfl, rfl⟩
      walk_at "w"
      refine ⟨_, _, _, app_at, gApp (by rw [List.length_map, List.length_take]; have : (shs n k xs).length = n := by simp [shs]
                                        omega), ?_⟩
      rw [set_last]
      refine ⟨[_, v6], rfl, rfl, ?_⟩
      have hs : (shs n k xs)[j]? = some ((cols k xs).map fun c => wz c ((j : Nat) + 1)) := by
        unfold shs
        rw [List.getElem?_map, List.getElem?_range hjn]
        rfl
      have e1 : (shs n k xs).take (j + 1) = (shs n k xs).take j ++ [(cols k xs).map fun c => wz c ((j : Nat) + 1)] := by rw [List.take_succ, hs]; rfl
      show S ++ _ = S ++ _
      rw [e1, List.map_append, List.map_singleton]
      unfold rowD cols
      rw [List.map_map, List.map_map]
      simp only [Int.add_comm 1 (j : Int)]
      rfl
  · rintro vs S' hv rfl
    obtain ⟨v5, v6, rfl⟩ := len2 hv
    rw [hlen]
    walk_at "w"
    rw [List.take_of_length_le (by simp [shs])]
    exact q
end LE
namespace LH
open DL
local macro_rules | `(tactic| walk_at "w1") => `(tactic| with_reducible first
  | (refine ws_then ?_; try with_reducible dsimp only [List.set_cons_zero, List.set_cons_succ]) | refine ws_seq ?_ | refine ws_asg ?_ | refine ws_expr ?_ | refine ws_ret ?_ | refine ws_if ?_ | refine ws_asgT ?_ | refine ws_setIx ?_ | refine ws_skip ?_ | refine ws_retN ?_ | refine ws_brk ?_ | refine ws_cont ?_ | refine ws_thenR ?_ | refine ws_thenB ?_ | refine ws_thenC ?_ | refine fq_rt ?_ | refine fq_nx ?_ | refine un_nx ?_ | refine un_ct ?_ | refine un_bk ?_ | refine un_rt ?_ | refine ws_loopN ?_
  | (refine ws_loopC (ρ1 := ?r) ?h ?q; (case h => with_unfolding_all rfl); try with_reducible dsimp only [List.set_cons_zero, List.set_cons_succ])
  | refine wp_c ?_ | refine wp_op2 ?_ | refine wp_fn ?_ | refine wp_cons ?_ | refine wp_nil ?_ | refine wp_call ?_ | refine wp_op1 ?_
  | (refine wp_var (d := ?d) ?h ?q; (case h => with_unfolding_all rfl))
  | (refine ws_aug (d := ?d) ?h ?q; (case h => with_unfolding_all rfl))
  | refine wp_tup ?_ | refine wp_lst ?_ | refine wp_lstM ?_ | refine wp_listM ?_
  | refine wp_sl0 ?_ | refine wp_sl1 ?_ | refine wp_sl2 ?_ | refine wp_sl3 ?_
  | refine wp_tval ?_ | refine wp_tnot ?_ | refine wp_tand ?_ | refine wp_tor ?_ | refine wp_tyes ?_ | refine wp_and ?_ | refine wp_or ?_ | refine wp_not ?_ | refine wp_ifx ?_ | refine wp_chain ?_ | refine wp_meth ?_ | refine wp_meth0 ?_
  | refine wp_isi ?_ | refine wp_isis ?_ | refine wp_repr ?_ | refine wp_maxD ?_ | refine wi_rng3 ?_
  | refine wi_seq ?_ | refine wi_rng1 ?_ | refine wi_rng2 ?_ | refine wi_zip2 ?_ | refine wi_zipS ?_
  | (refine wp_fnB (ρ := ?ρ) ?he ?_; (case he => (simp only [List.map_cons, List.map_nil, List.length_cons, List.length_nil, List.replicate, List.cons_append, List.nil_append, Nat.reduceAdd, Nat.reduceSub]; rfl))))
local macro_rules | `(tactic| walk_at "w2") => `(tactic| ((with_reducible refine wo_id ?_); with_reducible first
  | refine vo_sub ?_ | refine vo_add ?_ | refine vo_lt ?_ | refine vo_le ?_ | refine vo_gt ?_ | refine vo_ge ?_ | refine vo_eq ?_ | refine vo_ne ?_ | refine vo_eqS ?_ | refine vo_neS ?_ | refine vo_eqB ?_ | refine vo_neB ?_ | refine vo_neg ?_ | refine vo_slT ?_ | refine vo_slL ?_ | refine vo_slS ?_ | refine vo_lenT ?_ | refine vo_lenL ?_ | refine vo_lenS ?_ | refine vo_revT ?_ | refine vo_revL ?_ | refine vo_min ?_ | refine vo_max ?_ | refine vo_tupL ?_ | refine vo_tupT ?_ | refine vo_lisL ?_ | refine vo_lisT ?_
  | refine vo_igAdd ?_ | refine vo_igMulR (by omega) ?_ | refine vo_igMulL (by omega) ?_ | refine vo_mod (by omega) ?_ | refine vo_div (by omega) ?_ | refine vo_mulR (by omega) ?_ | refine vo_mulL (by omega) ?_
  | refine vo_ixL0 ?_ | refine vo_ixL1 ?_ | refine vo_ixL2 ?_ | refine vo_ixL3 ?_ | refine vo_ixL4 ?_ | refine vo_ixL5 ?_ | refine vo_ixL6 ?_ | refine vo_ixT0 ?_ | refine vo_ixT1 ?_ | refine vo_ixT2 ?_ | refine vo_ixT3 ?_ | refine vo_ixT4 ?_ | refine vo_ixT5 ?_ | refine vo_ixT6 ?_
  | refine wo_vw1 (by assumption) ?_ | refine wo_vw2 (by assumption) ?_ | refine vo_vwc (by assumption) ?_
  | (refine vo_isi (c := ?c) ?h ?q; (case h => with_unfolding_all rfl)) | (refine vo_isis (c := ?c) ?h ?q; (case h => with_unfolding_all rfl))))
local macro_rules | `(tactic| walk_at "w3") => `(tactic| first
  | with_reducible refine ite_f ?_ | with_reducible refine ite_nt ?_ | with_reducible refine ite_nf ?_ | with_reducible refine ite_t ?_
  | ((with_reducible refine ex_id ?_); refine ⟨_, rfl, ?_⟩) | ((with_reducible refine and_id ?_); refine ⟨Nat.le_of_ble_eq_true rfl, ?_⟩))
local macro_rules | `(tactic| walk_at "w") => `(tactic| repeat (first | walk_at "w1" | walk_at "w2" | walk_at "w3"))

theorem wp_need {S : Sto} {n k : Nat} {s : Int} {Q : D → Sto → Prop} {E : Px} (q : Q (.int (if s < k then s else k)) S) : Wp (d_need_of [.tup [.int n, .int k], .int s] S) Q E := by
  unfold d_need_of b_need_of
  walk_at "w"
  exact q
theorem wp_columns {S : Sto} {n k : Nat} {xs : List Int} (hk : 1 ≤ k ∧ k ≤ 1000) (hx : xs.length ≤ 10000) {Q : D → Sto → Prop} {E : Px}
    (q : Q (.lst ((cols k xs).map rowD)) S) : Wp (d_columns_of [.tup [.int n, .int k], .tup (xs.map .int)] S) Q E := by
  unfold d_columns_of b_columns_of
  walk_at "w"
  unfold c_columns_of_1
  refine wp_compM1 (List.range (rgN 0 xs.length k)) (fun i => .int (0 + (i : Nat) * (k : Int))) (fun i => rowD (cutL xs (some (0 + (i : Nat) * (k : Int))) (some (0 + (i : Nat) * (k : Int) + k)))) ?_ ?_
  · have := cols_len k xs
    unfold cols at this
    rw [List.length_map] at this
    omega
  walk_at "w"
  rw [List.length_map]
  refine ⟨0, _, k, rfl, ⟨by omega, by omega, small_up (by omega) (by omega)⟩, rfl, fun i _ => ⟨_, rfl, ?_⟩, ?_⟩
  · unfold ce_columns_of_1
    walk_at "w"
    rw [cut_map]
    exact ⟨rfl, rfl⟩
  unfold cols at q
  rw [List.map_map] at q
  exact q
theorem wp_shards {S : Sto} {n k : Nat} {xs : List Int} (hk : 1 ≤ k ∧ k ≤ 1000) (hn : n ≤ 900) (hx : xs.length ≤ 10000) {Q : D → Sto → Prop} {E : Px}
    (q : Q (.ref S.length) (S ++ [some (.lst ((shs n k xs).map rowD))])) : Wp (d_shards [.tup [.int n, .int k], .tup (xs.map .int)] S) Q E := by
  unfold d_shards b_shards
  walk_at "w"
  refine wp_columns hk hx ?_
  walk_at "w"
  unfold c_shards_2
  refine wp_compM1M (List.range n) (fun (j : Nat) => .int j) (fun j => rowD ((cols k xs).map fun c => wz c ((j : Nat) + 1))) (by rw [List.length_range]; omega) ?_
  walk_at "w"
  refine ⟨by omega, iRng0 n, fun j hj => ⟨_, rfl, ?_⟩, ?_⟩
  · have hj' := List.mem_range.mp hj
    unfold ce_shards_2
    walk_at "w"
    unfold c_shards_1
    refine wp_compM1 (cols k xs) rowD (fun c => .int (wz c ((j : Nat) + 1))) (by have := cols_len k xs; omega) ?_
    walk_at "w"
    refine ⟨_, Or.inr rfl, rfl, fun c _ => ⟨_, rfl, ?_⟩, ?_⟩
    · unfold ce_shards_1
      walk_at "w"
      exact LS.wp_worth (by omega) ⟨rfl, rfl⟩
    walk_at "w"
    unfold rowD
    rw [List.map_map]
    exact ⟨rfl, rfl⟩
  unfold shs at q
  rw [List.map_map] at q
  exact q
end LH

/-! ## DMt -/
set_option Elab.async false
set_option linter.all false
set_option maxRecDepth 100000
set_option maxHeartbeats 4000000
namespace DL
open PySem
/-! ### what is shown of data: its kind, its weight, its depth -/
structure QD (r : Nat → Option PyData) (d : D) (p : PyData) (w h : Nat) : Prop where
  e : toQr r d = some p
  s : smP p = true
  w : wtP p ≤ w
  h : p.depth ≤ h
structure QDs (r : Nat → Option PyData) (ds : List D) (ps : List PyData) (w h : Nat) : Prop where
  e : toQrs r ds = some ps
  s : smPs ps = true
  w : wtPs ps ≤ w
  h : PyData.depthAll ps ≤ h
structure QDk (r : Nat → Option PyData) (kvs : List (D × D)) (ps : List (PyData × PyData)) (w h : Nat) : Prop where
  e : toQrk r kvs = some ps
  s : smPk ps = true
  w : wtPk ps ≤ w
  h : PyData.depthKv ps ≤ h
section
variable {r : Nat → Option PyData}
theorem QD.mono {d : D} {p : PyData} {w h w' h' : Nat} (q : QD r d p w h) (hw : w ≤ w') (hh : h ≤ h') : QD r d p w' h' := ⟨q.e, q.s, Nat.le_trans q.w hw, Nat.le_trans q.h hh⟩
theorem QDs.mono {d : List D} {p : List PyData} {w h w' h' : Nat} (q : QDs r d p w h) (hw : w ≤ w') (hh : h ≤ h') : QDs r d p w' h' := ⟨q.e, q.s, Nat.le_trans q.w hw, Nat.le_trans q.h hh⟩
theorem QD.non : QD r .non .none 1 0 := ⟨by simp only [toQr], rfl, by simp [wtP], by simp [PyData.depth]⟩
theorem QD.bl (b : Bool) : QD r (.bl b) (.bool b) 1 0 := ⟨by simp only [toQr], rfl, by simp [wtP], by simp [PyData.depth]⟩
theorem QD.int {i : Int} (h : -1000000000000000000000000000000000000000000 ≤ i ∧ i ≤ 1000000000000000000000000000000000000000000) : QD r (.int i) (.int i) 1 0 := ⟨by simp only [toQr], by simp only [smP]; exact decide_eq_true (by omega), by simp [wtP], by simp [PyData.depth]⟩
theorem QD.str {x : Str} (h : (reprText x).length ≤ 14) : QD r (.str x) (.str x) 1 0 := ⟨by simp only [toQr], by simp only [smP]; exact decide_eq_true h, by simp [wtP], by simp [PyData.depth]⟩
theorem QD.tup {ds : List D} {ps : List PyData} {w h : Nat} (q : QDs r ds ps w h) : QD r (.tup ds) (.tuple ps) (1 + w) (h + 1) := ⟨by simp only [toQr, q.e, Option.map_some], by simp only [smP]; exact q.s, by have := q.w; simp only [wtP]; omega, by have := q.h; simp only [PyData.depth]; omega⟩
theorem QD.lst {ds : List D} {ps : List PyData} {w h : Nat} (q : QDs r ds ps w h) : QD r (.lst ds) (.list ps) (1 + w) (h + 1) := ⟨by simp only [toQr, q.e, Option.map_some], by simp only [smP]; exact q.s, by have := q.w; simp only [wtP]; omega, by have := q.h; simp only [PyData.depth]; omega⟩
theorem QD.dic {ds : List (D × D)} {ps : List (PyData × PyData)} {w h : Nat} (q : QDk r ds ps w h) : QD r (.dic false ds) (.dict ps) (1 + w) (h + 1) := ⟨by simp only [toQr, q.e, Option.map_some], by simp only [smP]; exact q.s, by have := q.w; simp only [wtP]; omega, by have := q.h; simp only [PyData.depth]; omega⟩
theorem QDs.nil {h : Nat} : QDs r [] [] 0 h := ⟨by simp only [toQrs], rfl, by simp [wtPs], by simp [PyData.depthAll]⟩
theorem QDs.cons {d : D} {p : PyData} {ds : List D} {ps : List PyData} {w w' h : Nat} (q : QD r d p w h) (q' : QDs r ds ps w' h) : QDs r (d :: ds) (p :: ps) (w + w') h :=
  ⟨by simp only [toQrs, q.e, q'.e], by simp only [smPs, q.s, q'.s, Bool.and_self], by have := q.w; have := q'.w; simp only [wtPs]; omega, by have := q.h; have := q'.h; simp only [PyData.depthAll]; omega⟩
theorem QDk.nil {h : Nat} : QDk r [] [] 0 h := ⟨by simp only [toQrk], rfl, by simp [wtPk], by simp [PyData.depthKv]⟩
theorem QDk.cons {k d : D} {kp p : PyData} {ds : List (D × D)} {ps : List (PyData × PyData)} {w w' h : Nat} (hk : keyP k = some kp) (hks : smP kp = true) (hkw : wtP kp ≤ 1) (hkd : kp.depth ≤ h) (q : QD r d p w h) (q' : QDk r ds ps w' h) : QDk r ((k, d) :: ds) ((kp, p) :: ps) (1 + w + w') h :=
  ⟨by simp only [toQrk, hk, q.e, q'.e], by simp only [smPk, hks, q.s, q'.s, Bool.and_self], by have := q.w; have := q'.w; simp only [wtPk]; omega, by have := q.h; have := q'.h; simp only [PyData.depthKv]; omega⟩
/-- things alike -/
theorem QDs.map {α : Type} (f : α → D) (g : α → PyData) (w h : Nat) : ∀ l : List α, (∀ x ∈ l, QD r (f x) (g x) w h) → QDs r (l.map f) (l.map g) (w * l.length) h
  | [], _ => QDs.nil.mono (by simp) (Nat.le_refl _)
  | x :: l, q => (QDs.cons (q x (by simp)) (QDs.map f g w h l fun y hy => q y (by simp [hy]))).mono (by simp only [List.length_cons, Nat.mul_succ]; omega) (Nat.le_refl _)
theorem QDk.mapI {α : Type} (fk : α → Int) (f : α → D) (g : α → PyData) (w h : Nat) : ∀ l : List α, (∀ x ∈ l, (-1000000000000000000000000000000000000000000 ≤ fk x ∧ fk x ≤ 1000000000000000000000000000000000000000000) ∧ QD r (f x) (g x) w h) → QDk r (l.map fun x => (.int (fk x), f x)) (l.map fun x => (.int (fk x), g x)) ((w + 1) * l.length) h
  | [], _ => ⟨by simp [toQrk], by simp [smPk], by simp [wtPk], by simp [PyData.depthKv]⟩
  | x :: l, q => by
    obtain ⟨h1, h2⟩ := q x (by simp)
    have ih := QDk.mapI fk f g w h l fun y hy => q y (by simp [hy])
    have := QDk.cons (k := .int (fk x)) (kp := .int (fk x)) (h := h) (by simp only [keyP]) (by simp only [smP]; exact decide_eq_true (by omega)) (by simp [wtP]) (by simp [PyData.depth]) h2 ih
    refine ⟨this.e, this.s, Nat.le_trans this.w (by simp only [List.length_cons, Nat.mul_succ]; omega), this.h⟩
theorem QDs.ints {xs : List Int} (h : ∀ x ∈ xs, -1000000000000000000000000000000000000000000 ≤ x ∧ x ≤ 1000000000000000000000000000000000000000000) : QDs r (xs.map .int) (xs.map .int) xs.length 0 := (QDs.map D.int PyData.int 1 0 xs fun x hx => QD.int (h x hx)).mono (by omega) (Nat.le_refl _)
theorem QDs.row {xs : List Int} (h : Row xs) : QDs r (xs.map .int) (xs.map .int) xs.length 0 := QDs.ints fun x hx => by have := h x hx; omega
theorem QD.row {xs : List Int} (h : Row xs) : QD r (rowD xs) (.tuple (xs.map .int)) (1 + xs.length) 1 := QD.tup (QDs.row h)
/-- a table of things by ints -/
theorem QD.tab {α : Type} {f : α → D} {g : α → PyData} {w h : Nat} {l : List (Int × α)} (q : ∀ p ∈ l, (-1000000000000000000000000000000000000000000 ≤ p.1 ∧ p.1 ≤ 1000000000000000000000000000000000000000000) ∧ QD r (f p.2) (g p.2) w h) : QD r (dA f l) (.dict (l.map fun p => (.int p.1, g p.2))) (1 + (w + 1) * l.length) (h + 1) :=
  QD.dic (QDk.mapI (fun p : Int × α => p.1) (fun p => f p.2) (fun p => g p.2) w h l q)
end
/-- a live list, a live dict -/
theorem QD.refL {S : Sto} {n : Nat} {xs : List D} {ps : List PyData} {w h : Nat} (e : S[n]? = some (some (.lst xs))) (q : QDs (fun _ => none) xs ps w h) : QD (rdQ S) (.ref n) (.list ps) (1 + w) (h + 1) :=
  ⟨by simp only [toQr, rdQ, e, q.e, Option.map_some], by simp only [smP]; exact q.s, by have := q.w; simp only [wtP]; omega, by have := q.h; simp only [PyData.depth]; omega⟩
theorem QD.refD {S : Sto} {n : Nat} {kvs : List (D × D)} {ps : List (PyData × PyData)} {w h : Nat} (e : S[n]? = some (some (.dic false kvs))) (q : QDk (fun _ => none) kvs ps w h) : QD (rdQ S) (.ref n) (.dict ps) (1 + w) (h + 1) :=
  ⟨by simp only [toQr, rdQ, e, q.e, Option.map_some], by simp only [smP]; exact q.s, by have := q.w; simp only [wtP]; omega, by have := q.h; simp only [PyData.depth]; omega⟩
theorem ex_q {S : Sto} {d : D} {p : PyData} {w k : Nat} {P : PyData → Prop} (q : QD (rdQ S) d p w k) (h : P p) (hw : w ≤ 200000 := by omega) (hk : k ≤ 40 := by omega) : ∃ p, toQ S d = some p ∧ smP p = true ∧ wtP p ≤ 200000 ∧ p.depth ≤ 40 ∧ P p :=
  ⟨p, q.e, q.s, Nat.le_trans q.w hw, Nat.le_trans q.h hk, h⟩
/-- repr of data -/
theorem wp_repQ {E : Px} {ρ : Ev} {S : Sto} {Q : D → Sto → Prop} {f : Ex} (h : Wp (f ρ S) (fun d S1 => ∃ p w k, QD (rdQ S1) d p w k ∧ w ≤ 200000 ∧ k ≤ 40 ∧ Q (.str p.shown) S1) E) : Wp (eReprQ f ρ S) Q E :=
  wp_reprQ (h.mono fun d S1 ⟨p, w, k, q, hw, hk, q2⟩ => ⟨p, q.e, q.s, Nat.le_trans q.w hw, Nat.le_trans q.h hk, q2⟩)
end DL

/-! ## DMu -/
set_option Elab.async false
set_option linter.all false
set_option maxRecDepth 100000
set_option maxHeartbeats 4000000
namespace DL
open PySem PySem.Spec PyProof.Rows L2
/-! ### what has been reckoned is locked: nobody of ours writes it any more -/
def eFrz (f : Ex) : Ex := fun ρ S => (f ρ S).bind fun d S => match d with
  | .ref n => match S[n]? with
    | some (some (.lst xs)) => .ok (.lst xs) (S.set n none)
    | some (some (.dic false kvs)) => .ok (.dic false kvs) (S.set n none)
    | _ => .bad
  | _ => .bad
section
variable {X : Cx} {W : WX} {e : Expr} {fe : Ex}
theorem ev_frzE (h : EV X W e fe) : EV X W e (eFrz fe) := by
  refine ⟨fun pins s σ H Q I q => ?_⟩
  obtain ⟨B, m, ρ, S, r, re, f⟩ := q
  refine thn (h.run pins s σ H _ I ⟨B, m, ρ, S, r, re, fin.bind f⟩) fun u s1 ⟨v, H1, I1, rv, q1⟩ => ?_
  obtain ⟨m1, S1, d, p, rd, f1⟩ := q1
  have r1 := p.rl
  split at f1
  · rename_i n
    split at f1
    · rename_i xs ex
      cases rd with
      | ref ha =>
        rename_i a
        cases r1.obj _ _ _ ha ex with
        | lst h z q =>
          have kp : Kp H1 H1 (Fo B m1 S1) (Fo B m1 (S1.set n none)) m1 m1 := kp_anti fun a z => z.imp id liv_kill'
          have nf : ¬ Fo B m1 (S1.set n none) a := by
            rintro (b | l)
            · exact r1.nb a ⟨n, _, ha, ex⟩ b
            · rcases liv_kill l with ⟨_, z⟩ | ⟨_, k, hk, hk2⟩
              · exact z ha
              · obtain ⟨l1, g1⟩ := List.getElem?_eq_some_iff.mp hk2
                obtain ⟨l2, g2⟩ := List.getElem?_eq_some_iff.mp ha
                exact hk ((List.getElem_inj r1.nod).mp (g1.trans g2.symm))
          exact ⟨_, H1, I1, rv, f1 m1 H1 _ (Post.unkill (Post.refl r1.kill)) (.lst h nf z (q.kp kp))⟩
    · rename_i kvs ex
      cases rd with
      | ref ha =>
        rename_i a
        cases r1.obj _ _ _ ha ex with
        | @dK kv _ h z e q =>
          obtain ⟨od, I2⟩ := I1.lock h trivial
          obtain ⟨r', kp, un⟩ := r1.lockD (u := .frz od (.dK kv)) ha ex
          exact ⟨_, _, I2, rv, f1 m1 _ _ (un _ _ _ (Post.refl r')) (.dK ⟨od, upd_same⟩ z e (q.kp kp))⟩
    · exact f1.elim
  · exact f1.elim
end
section
variable {E : Px} {ρ : Ev} {S : Sto} {Q : D → Sto → Prop} {f : Ex}
theorem wp_frzD (h : Wp (f ρ S) (fun d S1 => ∃ n kvs, d = .ref n ∧ S1[n]? = some (some (.dic false kvs)) ∧ Q (.dic false kvs) (S1.set n none)) E) : Wp (eFrz f ρ S) Q E :=
  wp_bind (h.mono fun d S1 ⟨n, kvs, e, h, q⟩ => by
    subst e
    simp only [h]
    exact ⟨q⟩)
theorem wp_frzL (h : Wp (f ρ S) (fun d S1 => ∃ n xs, d = .ref n ∧ S1[n]? = some (some (.lst xs)) ∧ Q (.lst xs) (S1.set n none)) E) : Wp (eFrz f ρ S) Q E :=
  wp_bind (h.mono fun d S1 ⟨n, xs, e, h, q⟩ => by
    subst e
    simp only [h]
    exact ⟨q⟩)
end
end DL

/-! ## DMv -/
set_option Elab.async false
set_option linter.all false
set_option maxRecDepth 100000
set_option maxHeartbeats 4000000
namespace DL
open PySem PySem.Spec PyProof.Rows L2 PpSet
/-! ### a set comprehension of ints: the road of HandS.SetBool turned to ints -/
section
variable {X : Cx}
theorem addI_ok {pins : List (Addr × Obj)} {σ : L2.St} {H : Hp} {s : Shared} {E : Value → Shared → Prop} {D : Addr} {S : Int → Bool} {n : Nat} {y : Int} {tk : Tok} {Q : Value → Shared → Prop} (I : Inv X pins σ H s) (hD : H D = some (SetO X.w D S n)) (room : n + 1 < scanBound)
    (h : ∀ s', Inv X pins σ (upd H D (SetO X.w D (fun j => S j || decide (j = y)) (if S y = true then n else n + 1))) s' → Q .none s') : wpAny (model X.prog X.w) X.A (call (.builtin "set.add") [.ref D, .int y tk]) Q E s := by
  have R := setO_get I hD
  refine setR_add R room fun h' sb new => ?_
  have he : ∃ u, h'.get? D = some u := by
    have ⟨o, _, _, _, ho, _⟩ := new
    exact ⟨o, ho⟩
  exact h _ (I.write (e := D) (t' := s.toks + 1) (by rw [hD]; trivial) (.inl rfl) (fun b u hb hu => (sb.2 b hb).trans hu) he (setO_new new))
def tScI (w : World) (wi : TI) (g : TG) (tt : TT) (te : TE) (vs : List Nat) : TE := fun σ H Q => wi σ H fun J H1 => ∀ D, H1 D = none → ∃ W : Nat → Nat → Hp → Prop, (∃ m, W 0 m (upd H1 D (SetO w D (fun _ => false) 0))) ∧ ∀ i m H, W i m H →
  (J.stop i H ∧ Q (.ref D) H) ∨ (J.go i H ∧ ∃ Nx : Hp → Prop, (∀ H', Nx H' → ∃ m', m' < m ∧ W (i + 1) m' H') ∧ ∀ x H', J.yld i H x H' → g x (wipe σ vs) H' fun σ2 H2 => wipe σ2 vs = wipe σ vs ∧ tt σ2 H2 fun b H3 =>
    if b = true then te σ2 H3 fun y H4 => ∃ (c : Int) (S : Int → Bool) (n : Nat), y = V.int c ∧ H4 D = some (SetO w D S n) ∧ n + 1 < scanBound ∧ Nx (upd H4 D (SetO w D (fun j => S j || decide (j = c)) (if S c = true then n else n + 1))) else Nx H3)
theorem sc_coreI {pins : List (Addr × Obj)} {s : Shared} {σ : L2.St} {H : Hp} {Q : VK} {elt tg iter : Expr} {ifs : List Expr} {scope : Scope} {own : List (PySem.Str × Nat)} {pos pos' : Pos} {wi : TI} {g : TG} {tt : TT} {te : TE} {use : Option (Value → Sem Unit)} {Qf : Value → Shared → Prop}
    (hc : X.calm = true) (hN : X.N.Nodup) (I : Inv X pins σ H s) (hi : PI X tg iter wi) (ok : BlkOk X.N X.env.scope scope own)
    (hg : ∀ (s : Shared) (H : Hp) (C : Addr) (cl : List (PySem.Str × Addr)) (fp : List Addr), PG (X.blk s H scope (compEnvC scope cl C X.env) fp) tg g) (ht : ∀ (s : Shared) (H : Hp) (C : Addr) (cl : List (PySem.Str × Addr)) (fp : List Addr), PTs (X.blk s H scope (compEnvC scope cl C X.env) fp) ifs tt)
    (he : ∀ (s : Shared) (H : Hp) (C : Addr) (cl : List (PySem.Str × Addr)) (fp : List Addr), PE (X.blk s H scope (compEnvC scope cl C X.env) fp) elt te) (hs : ∀ x, foldedSetIterable iter X.env x = pure x)
    (h : tScI X.w wi g tt te (own.map (·.2)) σ H Q)
    (hRR : ∀ D C s' m H', Inv X pins σ H' s' → Q (.ref D) H' → s'.heap.Ns C m → FpOk X pins H' C → compPost (model X.prog X.w) X.A X.xe use Qf (.ref D) C (.ok .next) s') :
    wpAny (model X.prog X.w) X.A (comprehension (.SetComp elt [⟨tg, iter, ifs, 0⟩] scope pos) scope X.env pos' (newSet (.type "set")) false (eval iter X.env) use) Qf X.xe s := by
  have hfree : ∀ y ∈ scope.names, y.2 = .free → ∃ c, X.env.cells.lookup y.1 = some c := fun y hy e => by
    rcases ok.free y hy e with k | k
    · exact I.ok.has _ (.inl k)
    · exact I.ok.has _ (.inr k)
  refine wpAny_comprehension_free (use := use) rfl hs (closure_ok hfree) ok.kind (fun y hy e => by rw [ok.uniq y hy, e])
    (thn (hi.run pins s σ H _ I h) fun xv s1 hx => thn hx fun itv s2 h2 => ?_)
  obtain ⟨it, fp, tn, J, H2, e, I2, T, st2, f2, q⟩ := h2
  subst e
  refine newSet_ok (newEnv_comp ?_)
  generalize hD : s2.heap.objs.size = D
  have hDn : H2 D = none := I2.hok.fresh (Nat.le_of_eq hD)
  obtain ⟨W, ⟨m0, w0⟩, turn⟩ := q D hDn
  -- the new list
  generalize hs3 : ({ s2 with heap := s2.heap.push { cls := .type "set", dict := none, data := .set #[] 0 (.fresh 0 0 (!X.w.params.followText "set-order")) } } : Shared) = s3
  have I3 : Inv X pins σ (upd H2 D (SetO X.w D (fun _ => false) 0)) s3 := by
    rw [← hs3]
    refine I2.laid (t' := s2.toks) (fun b o e => Heap.get?_push_of_some _ e) (Nat.le_of_eq hD) ?_
    rw [← hD]
    exact setO_new (setR_fresh X.w)
  have h3 : s3.heap = s2.heap.push { cls := .type "set", dict := none, data := .set #[] 0 (.fresh 0 0 (!X.w.params.followText "set-order")) } := by rw [← hs3]
  have sz : ∀ b ∈ fp, b < s2.heap.objs.size := fun b hb => by
    obtain ⟨o, e, _⟩ := T.obj _ _ st2 b hb
    exact Heap.lt_size e
  have f3 : ∀ b ∈ fp, FpOk X pins (upd H2 D (SetO X.w D (fun _ => false) 0)) b ∧ b < s3.heap.objs.size := fun b hb => by
    have hlt := sz b hb
    refine ⟨⟨?_, (f2 b hb).2⟩, by rw [h3, Heap.size_push]; exact Nat.lt_succ_of_lt hlt⟩
    rw [upd_ne (by rw [← hD]; exact Nat.ne_of_lt hlt)]
    exact (f2 b hb).1
  have st3 : tn 0 s3.heap := T.keep _ _ _ st2 fun b _ o e => by rw [h3]; exact Heap.get?_push_of_some _ e
  have I4 := block_start I3 ok hN f3
  have pg := hg s3 (upd H2 D (SetO X.w D (fun _ => false) 0)) s3.heap.objs.size (cellsFrom (s3.heap.objs.size + 1) scope.names (cloFrom X.env.cells scope.names [])) fp
  have pt := ht s3 (upd H2 D (SetO X.w D (fun _ => false) 0)) s3.heap.objs.size (cellsFrom (s3.heap.objs.size + 1) scope.names (cloFrom X.env.cells scope.names [])) fp
  have pe := he s3 (upd H2 D (SetO X.w D (fun _ => false) 0)) s3.heap.objs.size (cellsFrom (s3.heap.objs.size + 1) scope.names (cloFrom X.env.cells scope.names [])) fp
  show codeAny _ _ (.compStart (.SetComp elt [⟨tg, iter, ifs, 0⟩] scope pos) 0 (.ref it) (.ref D) (compEnvC scope (cellsFrom (s3.heap.objs.size + 1) scope.names (cloFrom X.env.cells scope.names [])) s3.heap.objs.size X.env)) (compPost (model X.prog X.w) X.A X.xe use Qf (.ref D) s3.heap.objs.size) { s3 with heap := pushCells (s3.heap.push { cls := .type "dict", data := .dict #[] }) scope.names }
  have nfp : ∀ b ∈ fp, (upd H2 D (SetO X.w D (fun _ => false) 0)) b = none := fun b hb => (f3 b hb).1.1
  generalize hce : compEnvC scope (cellsFrom (s3.heap.objs.size + 1) scope.names (cloFrom X.env.cells scope.names [])) s3.heap.objs.size X.env = ce at I4 pg pt pe ⊢
  have cL : ce.locals = s3.heap.objs.size := by subst hce; rfl
  generalize hH3 : upd H2 D (SetO X.w D (fun _ => false) 0) = H3 at I3 I4 pg pt pe w0 nfp f3
  generalize hs4 : ({ s3 with heap := pushCells (s3.heap.push { cls := .type "dict", data := .dict #[] }) scope.names } : Shared) = s4 at I4 ⊢
  have st4 : tn 0 s4.heap := T.keep _ _ _ st3 fun b _ o e => by rw [← hs4]; exact pushCells_keeps _ _ _ _ (Heap.get?_push_of_some _ e)
  have stat : ∀ {σ' : L2.St} {H' : Hp} {s' : Shared}, Inv (X.blk s3 H3 scope ce fp) [] σ' H' s' → (∀ b ∈ fp, H' b = none) → ∀ b ∈ fp, FpOk (X.blk s3 H3 scope ce fp) [] H' b := fun {σ' H' s'} I' hn b hb =>
    ⟨hn b hb, (I'.ok.exf b hb).1, I'.ok.exfs b hb, .inl hb, fun x c e => (I'.ok.exf b hb).2 x c e, fun p hp => absurd (show p ∈ ([] : List (Addr × Obj)) ++ [] from hp) (by simp)⟩
  have loop : codeAny (model X.prog X.w) X.A (.compLoop (.SetComp elt [⟨tg, iter, ifs, 0⟩] scope pos) 0 (.ref it) (.ref D) ce) (compPost (model X.prog X.w) X.A X.xe use Qf (.ref D) s3.heap.objs.size) s4 := by
    refine compLoopS_any (fun n s' => ∃ i H', Inv (X.blk s3 H3 scope ce fp) [] (wipe σ (own.map (·.2))) H' s' ∧ tn i s'.heap ∧ (∀ b ∈ fp, H' b = none) ∧ W i n H') ?_ m0 ⟨0, H3, I4, st4, nfp, w0⟩
    rintro n s5 ⟨i, H5, I5, st5, n5, w5⟩
    rcases turn i n H5 w5 with ⟨stop, qq⟩ | ⟨go, Nx, hNx, step⟩
    · have td := T.done (X.blk s3 H3 scope ce fp) rfl rfl rfl hc i [] s5 _ H5 (fun _ _ => False) I5 (stat I5 n5) st5 stop
      refine thnF td fun r s6 ⟨hr, I6⟩ => ?_
      subst hr
      -- back in the def's context
      have I7 : Inv X pins σ H5 s6 := I3.call' (ch := fp) I6.os I6.base I6.hok I6.bare fun b hb => ⟨(f3 b hb).1.2.2.2.1, (f3 b hb).1.2.1, (f3 b hb).1.2.2.2.2.1, (f3 b hb).1.2.2.2.2.2⟩
      have nC : H5 s3.heap.objs.size = none := by
        have z : H5 ce.locals = none := I6.free
        rw [cL] at z
        exact z
      obtain ⟨m, hn, _⟩ := I6.loc
      have hn : s6.heap.Ns ce.locals m := hn
      rw [cL] at hn
      exact hRR D s3.heap.objs.size s6 m H5 I7 qq hn (I3.fpOk (Nat.le_refl _) nC)
    · have ti := T.item (X.blk s3 H3 scope ce fp) rfl rfl rfl hc i [] s5 _ H5 (fun _ _ => False) I5 (stat I5 n5) st5 go
      refine thnF ti fun r s6 ⟨u, hr, h6⟩ => ?_
      subst hr
      refine thnF h6 fun _ s7 ⟨x, H7, I7, r7, y7, st7, n7⟩ => ?_
      have I7' := I7.pinned (stat I7 n7) (T.obj _ _ st7)
      refine thnF (pg.run _ s7 _ H7 x u _ I7' r7 (step x H7 y7)) fun _ s8 ⟨σ8, H8, I8, hw8, q8⟩ => ?_
      refine thnF (pt.run _ s8 σ8 H8 _ I8 q8) fun b s9 ⟨H9, I9, q9⟩ => ?_
      -- the turn's end
      have fin : ∀ {s' : Shared} {H' : Hp}, Inv (X.blk s3 H3 scope ce fp) ([] ++ pinsAt fp s7.heap) σ8 H' s' → Nx H' → ∃ m, m < n ∧ ∃ i H', Inv (X.blk s3 H3 scope ce fp) [] (wipe σ (own.map (·.2))) H' s' ∧ tn i s'.heap ∧ (∀ b ∈ fp, H' b = none) ∧ W i m H' := fun {s' H'} I' nx => by
        obtain ⟨m', hm, w'⟩ := hNx H' nx
        have pin' : ∀ b ∈ fp, ∀ o, s7.heap.get? b = some o → s'.heap.get? b = some o ∧ H' b = none := fun b hb o e =>
          let z := I'.pin (b, o) (List.mem_append_right _ (List.mem_append_right _ (mem_pinsAt hb e)))
          ⟨z.1, z.2.1⟩
        have hl : (wipe σ (own.map (·.2))).length = σ8.length := by rw [← hw8, wipe_length]
        refine ⟨m', hm, i + 1, H', (I'.unpinned (pins := [])).weak hl (fun j v e => ?_), T.keep _ _ _ st7 fun b hb o e => (pin' b hb o e).1, fun b hb => ?_, w'⟩
        · rw [← hw8] at e
          exact (wipe_some e).1
        · obtain ⟨o, e, _⟩ := T.obj _ _ st7 b hb
          exact (pin' b hb o e).2
      cases b with
      | false =>
        simp only [Bool.false_eq_true, if_false] at q9 ⊢
        exact fin I9 q9
      | true =>
        simp only [if_true] at q9 ⊢
        refine thnF (pe.run _ s9 σ8 H9 _ I9 q9) fun z s10 ⟨yv, H10, I10, r10, cb, S0, n0, ey, hD10, hz10, nx⟩ => ?_
        subst ey
        obtain ⟨tk, rfl⟩ := (show ∃ t, z = Value.int cb t from r10)
        exact addI_ok (X := X.blk s3 H3 scope ce fp) I10 hD10 hz10 fun s11 I11 => fin I11 nx
  exact codeAny_compStart_set loop (T.self X.A 0 _ _ _ st4 loop)
theorem pe_scI {elt tg iter : Expr} {ifs : List Expr} {scope : Scope} {own : List (PySem.Str × Nat)} {pos : Pos} {wi : TI} {g : TG} {tt : TT} {te : TE} (hc : X.calm = true) (hN : X.N.Nodup) (hi : PI X tg iter wi) (ok : BlkOk X.N X.env.scope scope own)
    (hg : ∀ (s : Shared) (H : Hp) (C : Addr) (cl : List (PySem.Str × Addr)) (fp : List Addr), PG (X.blk s H scope (compEnvC scope cl C X.env) fp) tg g) (ht : ∀ (s : Shared) (H : Hp) (C : Addr) (cl : List (PySem.Str × Addr)) (fp : List Addr), PTs (X.blk s H scope (compEnvC scope cl C X.env) fp) ifs tt)
    (he : ∀ (s : Shared) (H : Hp) (C : Addr) (cl : List (PySem.Str × Addr)) (fp : List Addr), PE (X.blk s H scope (compEnvC scope cl C X.env) fp) elt te) (hs : ∀ x, foldedSetIterable iter X.env x = pure x := by intro _; rfl) :
    PE X (.SetComp elt [⟨tg, iter, ifs, 0⟩] scope pos) (tScI X.w wi g tt te (own.map (·.2))) := by
  refine ⟨fun pins s σ H Q I h => ?_⟩
  rw [eval_SetComp]
  refine sc_coreI hc hN I hi ok hg ht he hs h fun D C s' m H' I' q hn f => ⟨m, hn, fun h'' sb => ?_⟩
  obtain ⟨f0, f1, f2, f3, f4, f5⟩ := f
  exact ⟨.ref D, H', I'.turned (t' := s'.toks) (fun b o hb e => (sb.2 b hb).trans e) f0 f1 f3 f4 f5, rfl, q⟩
end
/-! ### as plain data: sorted of it -/
def compS (t : Tg) (tt : Tx) (e : Ex) (vs : List Nat) : List D → Ev → Sto → List Int → R (List Int)
  | [], _, S, acc => .ok acc S
  | d :: ds, ρ, S, acc => match t.put d (wipeD ρ vs) with
    | none => .bad
    | some ρ1 => (tt ρ1 S).nox.bind fun b S => if b = true then (e ρ1 S).nox.bind fun y S => match y with
      | .int i => if acc.length < 3000 then compS t tt e vs ds ρ S (acc ++ [i]) else .bad
      | _ => .bad
      else compS t tt e vs ds ρ S acc
def eSortSc (it : Ix) (t : Tg) (tt : Tx) (e : Ex) (vs : List Nat) : Ex := fun ρ S => (it ρ S).bind fun xs S => (compS t tt e vs xs ρ S []).bind fun acc S => if (ded acc).length < 64 then .ok (.lst ((suI acc).map .int)) S else .bad
theorem ded_snoc (ns : List Int) (i : Int) : (ded (ns ++ [i])).length = if decide (i ∈ ns) = true then (ded ns).length else (ded ns).length + 1 := by
  have key : (ded (ns ++ [i])).Perm (if i ∈ ns then ded ns else i :: ded ns) := by
    refine (List.perm_ext_iff_of_nodup (ded_nodup _) ?_).mpr fun k => ?_
    · split
      · exact ded_nodup ns
      · rename_i h
        exact List.nodup_cons.mpr ⟨fun z => h (ded_mem.mp z), ded_nodup ns⟩
    · rw [ded_mem, List.mem_append, List.mem_singleton]
      split
      · rename_i h
        rw [ded_mem]
        exact ⟨fun z => z.elim id fun e => e ▸ h, .inl⟩
      · rw [List.mem_cons, ded_mem]
        exact Or.comm
  rw [key.length_eq]
  by_cases h : i ∈ ns
  · simp [h]
  · simp [h]
section
variable {X : Cx} {W : WX} {tg iter elt : Expr} {ifs : List Expr} {fi : Ix} {t : Tg} {tt : Tx} {fe : Ex} {scope : Scope} {own : List (Str × Nat)} {p pos p2 : Pos}
theorem sc_of {K : PySem.W.Frag} {mg : Str → Option Value} {w : World} {σ : L2.St} {H : Hp} {Q Q0 : VK} {vs : List Nat} {Fin : List Int → Sto → R D} (hv : ∀ i ∈ t.sl, i ∈ vs) (h : up K mg W (fun ρ S => (fi ρ S).bind fun xs S => (compS t tt fe vs xs ρ S []).bind Fin) σ H Q0)
    (hf : ∀ B m1 S1 H1 m2 S2 H2 D ds, Rl K mg B m1 H1 S1 → H1 D = none → Pc m1 S1 H1 m2 S2 H2 → Rl K mg (BD B D) m2 H2 S2 → H2 D = some (SetO w D (fun j => decide (j ∈ ds)) (ded ds).length) → D ∉ m2 → fin K mg W B m1 S1 σ H1 (Fin ds S2) Q0 → Q (.ref D) H2) :
    tScI w (upI K mg W fi) (Tg.rd K t) (upT K mg W0 tt) (up K mg W0 fe) vs σ H Q := by
  obtain ⟨B, m, ρ, S, r, re, f⟩ := h
  refine ⟨B, m, ρ, S, r, re, finI.mono (finI.bind f) fun J H1 => ?_⟩
  rintro ⟨m1, S1, xs, p1, itr, f1⟩ D hD
  have re1 := re.kp (p1.kp r)
  have k0 := kp_aside (B := B) (m := m1) (S := S1) (o := SetO w D (fun _ => false) 0) hD
  refine ⟨fun i n H => n = xs.length - i ∧ i ≤ xs.length ∧ ∃ m2 S2 ds, Pc m1 S1 H1 m2 S2 H ∧ Kp H1 H (Fo B m1 S1) (Fo (BD B D) m2 S2) m1 m2 ∧ Rl K mg (BD B D) m2 H S2 ∧ H D = some (SetO w D (fun j => decide (j ∈ ds)) (ded ds).length) ∧ D ∉ m2 ∧
      fin K mg W B m1 S1 σ H1 ((compS t tt fe vs (xs.drop i) ρ S2 ds).bind Fin) Q0,
    ⟨xs.length, by simp, Nat.zero_le _, m1, S1, [], (Post.refl p1.rl).pc.over hD, k0, p1.rl.aside hD, ?_, fun z => p1.rl.mt D z hD, by simpa using f1⟩, ?_⟩
  · rw [upd_same]
    have : (fun j : Int => decide (j ∈ ([] : List Int))) = fun _ => false := by funext j; simp
    rw [this]
    rfl
  rintro i n H2 ⟨rfl, hi, m2, S2, ds, pc, kp, rl, hacc, nD, f2⟩
  obtain ⟨go, stop⟩ := itr H2 _ m2 kp
  by_cases hlt : i < xs.length
  · right
    refine ⟨(go i hlt).1, fun H' => ∃ m3 S3 ds, Pc m1 S1 H1 m3 S3 H' ∧ Kp H1 H' (Fo B m1 S1) (Fo (BD B D) m3 S3) m1 m3 ∧ Rl K mg (BD B D) m3 H' S3 ∧ H' D = some (SetO w D (fun j => decide (j ∈ ds)) (ded ds).length) ∧ D ∉ m3 ∧
      fin K mg W B m1 S1 σ H1 ((compS t tt fe vs (xs.drop (i + 1)) ρ S3 ds).bind Fin) Q0, ?_, ?_⟩
    · rintro H' ⟨m3, S3, ds3, h3⟩
      exact ⟨_, by omega, rfl, hlt, m3, S3, ds3, h3⟩
    · intro x H3 y
      obtain ⟨d, ed, sm, rx⟩ := (go i hlt).2 x H3 y
      have p3 : Post K mg (BD B D) m2 S2 H2 m2 S2 H3 := Post.grow rl sm
      have kp3 := kp.trans (p3.kp rl)
      have ed' : xs[i] = d := by
        have := List.getElem?_eq_getElem hlt
        rw [this] at ed
        exact Option.some.inj ed
      rw [List.drop_eq_getElem_cons hlt, ed'] at f2
      unfold compS at f2
      cases e1 : t.put d (wipeD ρ vs) with
      | none => rw [e1] at f2; exact f2.elim
      | some ρ4 =>
        rw [e1] at f2
        dsimp only at f2
        refine Tg.rd_okP (A := fun σ' => L2.wipe σ' vs = L2.wipe σ vs) t (fun σ i v h1 h2 => by rw [wipe_set (hv i h1)]; exact h2) e1 rx ((re1.kp kp3).wipe vs) ?_ fun σ4 re4 a4 => ⟨a4, BD B D, m2, ρ4, S2, p3.rl, re4, ?_⟩
        · apply List.ext_getElem?
          intro j
          rw [wipe_get, wipe_get, wipe_length]
          by_cases h1 : j ∈ vs ∧ j < σ.length
          · simp [h1]
          · simp [h1]
        · -- the test
          rcases R.nox_ok (r := tt ρ4 S2) (g := fun b S => if b = true then (fe ρ4 S).nox.bind fun y S => match y with
            | .int i' => if ds.length < 3000 then compS t tt fe vs (xs.drop (i + 1)) ρ S (ds ++ [i']) else .bad
            | _ => .bad
            else compS t tt fe vs (xs.drop (i + 1)) ρ S ds) with ⟨b, S5, e5, e6⟩ | e6
          · rw [e6] at f2
            rw [e5]
            intro m5 H5 p5
            have kp5 := kp3.trans (p5.kp p3.rl)
            have pc5 : Pc m1 S1 H1 m5 S5 H5 := (pc.trans p3.pc).trans p5.pc
            have hacc3 := p3.keep _ _ hacc fun z => rl.nb _ z (.inr rfl)
            have hacc5 := p5.keep _ _ hacc3 fun z => p3.rl.nb _ z (.inr rfl)
            have nD5 : D ∉ m5 := notin_ext nD p5.ext hacc3
            cases b with
            | false =>
              rw [if_neg Bool.false_ne_true] at f2 ⊢
              exact ⟨m5, S5, ds, pc5, kp5, p5.rl, hacc5, nD5, f2⟩
            | true =>
              rw [if_pos rfl] at f2 ⊢
              rcases R.nox_ok (r := fe ρ4 S5) (g := fun y S => match y with
                | .int i' => if ds.length < 3000 then compS t tt fe vs (xs.drop (i + 1)) ρ S (ds ++ [i']) else .bad
                | _ => .bad) with ⟨y, S6, e7, e8⟩ | e8
              · rw [e8] at f2
                refine ⟨BD B D, m5, ρ4, S5, p5.rl, re4.kp (p5.kp p3.rl), ?_⟩
                rw [e7]
                intro m6 H6 v p6 rv
                have hacc6 := p6.keep _ _ hacc5 fun z => p5.rl.nb _ z (.inr rfl)
                cases y with
                | int c =>
                  dsimp only at f2
                  cases rv
                  split at f2
                  · rename_i hz
                    have hl := ded_len ds
                    have nw : ¬ Fixd (SetO w D (fun j => decide (j ∈ ds)) (ded ds).length) := fun z => z
                    have hF : Fo (BD B D) m6 S6 D := .inl (.inr rfl)
                    refine ⟨c, _, _, rfl, hacc6, by unfold scanBound; omega, m6, S6, ds ++ [c], (pc5.trans p6.pc).over hD, (kp5.trans (p6.kp p5.rl)).trans (kp_writeD hacc6 nw hF), p6.rl.writeD hacc6 nw, ?_, notin_ext nD5 p6.ext hacc5, f2⟩
                    rw [upd_same, ded_snoc]
                    have : (fun j : Int => decide (j ∈ ds) || decide (j = c)) = fun j => decide (j ∈ ds ++ [c]) := by funext j; simp
                    rw [this]
                  · exact f2.elim
                | _ => exact f2.elim
              · rw [e8] at f2; exact f2.elim
          · rw [e6] at f2; exact f2.elim
  · left
    have hd : xs.drop i = [] := List.drop_eq_nil_of_le (by omega)
    rw [hd] at f2
    exact ⟨stop i (by omega), hf B m1 S1 H1 m2 S2 H2 D ds p1.rl hD pc rl hacc nD f2⟩
theorem ev_sortSc (hg0 : Gl X "sorted") (hm0 : X.mg "sorted" = none) (hc : X.calm = true) (hN : X.N.Nodup) (hi : IV X W tg iter fi) (ok : BlkOk X.N X.env.scope scope own)
    (hg : ∀ (s : Shared) (H : Hp) (C : Addr) (cl : List (Str × Addr)) (fp : List Addr), GV (X.blk s H scope (compEnvC scope cl C X.env) fp) tg t) (ht : ∀ (s : Shared) (H : Hp) (C : Addr) (cl : List (Str × Addr)) (fp : List Addr), TVs (X.blk s H scope (compEnvC scope cl C X.env) fp) W0 ifs tt)
    (he : ∀ (s : Shared) (H : Hp) (C : Addr) (cl : List (Str × Addr)) (fp : List Addr), EV (X.blk s H scope (compEnvC scope cl C X.env) fp) W0 elt fe) (hv : ∀ i ∈ t.sl, i ∈ own.map (·.2) := by decide) (hs : ∀ x, foldedSetIterable iter X.env x = pure x := by intro _; rfl)
    (hb : bootBuiltins "sorted" = some (.builtin "sorted") := by decide +kernel)
    (nb : starEach [.SetComp elt [⟨tg, iter, ifs, 0⟩] scope p2] X.env = (false, eval (.SetComp elt [⟨tg, iter, ifs, 0⟩] scope p2) X.env) :: starEach [] X.env := by rfl)
    (h1 : (backTo pos (starEach [] X.env)).any (·.1) = false := by rfl) :
    EV X W (.Call (.Name "sorted" p) [.SetComp elt [⟨tg, iter, ifs, 0⟩] scope p2] [] pos) (eSortSc fi t tt fe (own.map (·.2))) := by
  refine pe_imp (pe_callB (cr_sortedSet hc) hg0 hm0 hb (pa_cons (pe_scI (g := Tg.rd X.K t) (tt := upT X.K X.mg W0 tt) (te := up X.K X.mg W0 fe) hc hN hi ok hg ht he hs) pa_nil nb) (by decide) (by decide) nb h1) fun σ H Q h => ?_
  show tScI _ _ _ _ _ _ σ H fun x H1 => rSortedSet X.w [x] H1 Q
  refine sc_of hv h fun B m1 S1 H1 m2 S2 H2 D ds r1 hD pc rl hacc nD f => ?_
  have rl2 : Rl X.K X.mg B m2 H2 S2 := rl.less fun a z => .inl z
  split at f
  · rename_i hlt
    refine ⟨D, _, _, rfl, hacc, hlt, fun ns p1 hpw hmem hlen hp1 => ?_⟩
    have hms : ns = suI ds := su_uniq hpw fun k => by rw [hmem, decide_eq_true_eq]
    subst hms
    refine f m2 _ _ ((post_of_pc pc rl2).trans (Post.grow rl2 (same_upd hp1))) (.lst upd_same (fr_of rl2 p1 hp1) ?_ (repA_ints _))
    rw [List.length_map, hlen, sizeLine_eq]
    omega
  · exact f.elim
end
/-! its rule -/
section
variable {Q : D → Sto → Prop} {E : Px} {ρ : Ev} {S : Sto} {t : Tg} {tt : Tx} {e : Ex} {vs : List Nat} {it : Ix}
theorem wp_compS {α : Type} (f : α → D) (p : α → Bool) (g : α → Int) (S : Sto) : ∀ (l : List α) (acc : List Int) (Q : List Int → Sto → Prop), acc.length + l.length ≤ 3000 →
    (∀ x ∈ l, ∃ ρ1, t.put (f x) (wipeD ρ vs) = some ρ1 ∧ Wp (tt ρ1 S) (fun b S2 => b = p x ∧ S2 = S) noX ∧ (p x = true → Wp (e ρ1 S) (fun y S2 => y = .int (g x) ∧ S2 = S) noX)) →
    Q (acc ++ (l.filter p).map g) S → Wp (compS t tt e vs (l.map f) ρ S acc) Q E
  | [], acc, Q, _, _, q => by
    have q' : Q acc S := by simpa using q
    exact ⟨q'⟩
  | x :: l, acc, Q, hl, st, q => by
    obtain ⟨ρ1, e1, h1, h2⟩ := st x (by simp)
    rw [List.map_cons]
    unfold compS
    rw [e1]
    dsimp only
    simp only [List.length_cons] at hl
    refine wp_bind (wp_nox (h1.mono fun b S2 ⟨hb, hS⟩ => ?_))
    subst hb hS
    cases hp : p x with
    | false =>
      rw [if_neg (by decide)]
      exact wp_compS f p g _ l acc Q (by omega) (fun y hy => st y (by simp [hy])) (by simpa [hp] using q)
    | true =>
      rw [if_pos rfl]
      refine wp_bind (wp_nox ((h2 hp).mono fun y S3 ⟨hy, hS⟩ => ?_))
      subst hy hS
      dsimp only
      rw [if_pos (by omega)]
      exact wp_compS f p g _ l (acc ++ [g x]) Q (by simp; omega) (fun y hy => st y (by simp [hy])) (by simpa [hp] using q)
theorem wp_sortSc {α : Type} (l : List α) (f : α → D) (p : α → Bool) (g : α → Int) (hl : l.length < 64) (h : Wp (it ρ S) (fun xs S1 => xs = l.map f ∧
    (∀ x ∈ l, ∃ ρ1, t.put (f x) (wipeD ρ vs) = some ρ1 ∧ Wp (tt ρ1 S1) (fun b S2 => b = p x ∧ S2 = S1) noX ∧ (p x = true → Wp (e ρ1 S1) (fun y S2 => y = .int (g x) ∧ S2 = S1) noX)) ∧ Q (.lst ((suI ((l.filter p).map g)).map .int)) S1) E) : Wp (eSortSc it t tt e vs ρ S) Q E :=
  wp_bind (h.mono fun xs S1 ⟨h1, st, q⟩ => by
    subst h1
    refine wp_bind (wp_compS f p g S1 l [] _ (by simp; omega) st ?_)
    rw [List.nil_append, if_pos]
    · exact ⟨q⟩
    · have h2 := ded_len ((l.filter p).map g)
      have h3 := List.length_filter_le p l
      rw [List.length_map] at h2
      omega)
end
end DL

/-! ## DMx -/
set_option Elab.async false
set_option linter.all false
set_option maxRecDepth 100000
set_option maxHeartbeats 4000000
namespace DL
open PySem PySem.Spec PyProof.Rows L2
/-! ### list(d.values()) -/
def eValL (e : Ex) : Ex := fun ρ S => (e ρ S).bind fun d S => match d with
  | .dic false kvs => .ok (.lst (kvs.map (·.2))) S
  | _ => .bad
theorem kv_vals {κ : Type} {kvs : List (κ × V)} {vs : List (κ × Value)} (h : KV kvs vs) : Vals (kvs.map (·.2)) (vs.map (·.2)) := by
  induction h with
  | nil => exact .nil
  | cons h _ ih => exact .cons h.2 ih
section
variable {X : Cx} {W : WX} {e : Expr} {fe : Ex} {p0 pos0 apos cpos p pos tpos : Pos} {elts : List Expr} {kk : Nat}
theorem ev_valL (hc : X.calm = true) (hgl : Gl X "list") (hml : X.mg "list" = none) (he : EV X W e fe) (hbase : attributeBase e "values" X.env (eval e X.env) = eval e X.env := by rfl) (hline : (apos.endLine == cpos.line) = true := by rfl)
    (na : starEach [.Call (.Attribute e "values" apos) [] [] cpos] X.env = (false, eval (.Call (.Attribute e "values" apos) [] [] cpos) X.env) :: starEach [] X.env := by rfl) :
    EV X W (.Call (.Name "list" p0) [.Call (.Attribute e "values" apos) [] [] cpos] [] pos0) (eValL fe) := by
  refine ⟨fun pins s σ H Q I h => ?_⟩
  have h1 := up_one (g := fun d ρ S => match d with | .dic false kvs => .ok (.lst (kvs.map (·.2))) S | _ => .bad) h
  refine Call_ (ld_blt I hgl hml boot_list (PyProof.Rows.callWith_type1 (args_cons ?_ na) na))
  refine wpAny_Call_method (T := "dict") (id := "dict.values") hbase rfl hline PySem.F.plainAttrs_dict PySem.F.slot_dict_values PySem.F.type_dict_values (thn (he.run pins s σ H _ I h1) fun u s1 ⟨x, H1, I1, rx, B, m, ρ, S, dx, r, re, rx', f⟩ => ?_)
  split at f
  · cases rx' with
    | @dK a kv kvs h z ek q =>
      obtain ⟨od, hd⟩ := h
      cases rx
      obtain ⟨hs, hgd, hx, es, ep, vs, hdt, hsz, kv', hm⟩ := I1.frzK hd
      have hl : kv.length = vs.length := Paired.length kv'
      refine ⟨hm.dictOf.typeIs, hm.dictOf.mapOf.noDict, ?_⟩
      have I2 : Inv X pins σ H1 { s1 with heap := s1.heap.push { cls := .type "dict_values", data := .fields #[.ref a] } } := I1.kept (t' := s1.toks) fun b ob q => Heap.get?_push_of_some _ q
      refine method_meetsIn PySem.F.slot_dict_values PySem.F.entry_dict_values rfl (PySem.evalArgs_none ⟨rfl, hm.dictOf.typeIs, PySem.F.args_dict_values_1 _, _, meets_dict_values (mixKind X.prog X.w) a hs, ⟨vs, hm.dictOf⟩, ?_⟩)
      refine args_nil ?_
      refine PySem.W.kdl_call (PySem.W.kdl_values (knd := mixKind X.prog X.w) (r := s1.heap.objs.size) (d := a) (kvs := vs) (ep := ep)) (I1.ok.hd hc) ⟨⟨_, Heap.get?_push_size _ rfl, rfl, rfl⟩, hm.push _⟩ (by rw [← hl]; exact z) fun h' tk acc c' hk hD hacc => ?_
      have ev : acc.toList = vs.map (·.2) := PySem.W.kdl_vals_eq acc.toList (by rw [Array.length_toList]; exact hacc.1) fun j v e => hacc.2 j v (by rw [← Array.getElem?_toList]; exact e)
      have hv : Vals (kv.map (·.2)) acc.toList := by rw [ev]; exact kv_vals kv'
      have hn := I2.hok.fresh (Nat.le_refl _)
      refine ⟨.ref _, upd H1 _ (.lst (kv.map (·.2))), I2.laid (t' := tk) hk (Nat.le_refl _)
        (show ObjOk X.prog X.w _ _ _ (.lst (kv.map (·.2))) from ⟨by rw [List.length_map]; exact z, acc.toList, c', hv, by rw [Array.toArray_toList]; exact hD⟩), rfl, ?_⟩
      exact f m _ _ (Post.grow r (same_upd hn)) (.lst upd_same (fr_of r _ hn) (by rw [List.length_map]; exact z) (q.kp (kp_same (same_upd hn))))
  · exact f.elim
/-! ### enumerate(tuple) -/
def iEnumT (e : Ex) : Ix := fun ρ S => (e ρ S).bind fun d S => match d with
  | .tup xs => .ok (enumDs xs) S
  | _ => .bad
def Itet (K : PySem.W.Frag) (a : Addr) : It :=
  ⟨fun i H => ∃ (xs : List V) (x : V), SqT K H a xs ∧ xs[i]? = some x, fun i H v H' => ∃ T x, v = .ref T ∧ H T = none ∧ H' = upd H T (.tup [.int (i : Nat), x]) ∧ ∀ xs, SqT K H a xs → xs[i]? = some x, fun i H => ∃ xs : List V, SqT K H a xs ∧ xs.length ≤ i⟩
theorem itr_enumT {K : PySem.W.Frag} {mg : Str → Option Value} {B : Addr → Prop} {m : List Addr} {S : Sto} {H : Hp} {a : Addr} {vs : List V} {xs : List D} (h : SqT K H a vs) (q1 : RepA K H (Fo B m S) m vs xs) : ItR K H (Fo B m S) m (Itet K a) (enumDs xs) := by
  intro H2 F2 m2 k
  have s1 : SqT K H2 a vs := k.sqT h
  have l1 := q1.length
  refine ⟨fun i hi => ?_, fun i hi => ⟨vs, s1, by rw [enum_len] at hi; omega⟩⟩
  rw [enum_len] at hi
  obtain ⟨v, ev, rv⟩ := (q1.kp k).get (d := xs[i]) (List.getElem?_eq_getElem hi)
  refine ⟨⟨vs, v, s1, ev⟩, fun x H3 y => ?_⟩
  obtain ⟨T, x1, e1, e2, e3, e4⟩ := y
  subst e1 e3
  have a1 := e4 vs s1
  rw [ev] at a1; cases a1
  refine ⟨.tup [.int (i : Nat), xs[i]], enum_at hi, same_upd e2, ?_⟩
  exact .tup (.of upd_same) (by show 2 ≤ sizeLine; decide) ((RepA.cons (.int _) (.cons rv .nil)).kp (kp_same (same_upd e2)))
theorem draws_over {prog : Program} {w : World} {A : Around} (hh : A.handled = none) (it t : Addr) (i : Nat) (items : Array Value) (hi : items.size ≤ i) :
    Draws prog w A it [it, t] i (fun i v => items[i]? = some v) (fun j h => j = i ∧ h.IsTupleIter it t i ∧ h.IsTuple t items) where
  live := fun _ _ st => let ⟨o, ho, _⟩ := st.2.1; ⟨o, ho⟩
  frame := fun _ _ _ st hk => ⟨st.1, st.2.1.at fun o e => hk it (by simp) o e, st.2.2.at fun o e => hk t (by simp) o e⟩
  item := fun j s Q E hj st hQ => by have := st.1; omega
  done := fun s Q E st hE => wpAny_nextOf_tuple_end hh st.2.1 st.2.2 (by simp; omega) hE
theorem turn_enumT {P : Program} {w : World} {K : PySem.W.Frag} (a e it : Addr) :
    Turn P w K (.Tuple elts kk tpos) (Itet K a) [e, it] e (fun i h => (∃ old, IsEnum h e it ((i : Nat) : Int) old) ∧ h.IsTupleIter it a i ∧ e ≠ it) where
  mem := by simp
  obj := fun i h st b hb => by
    obtain ⟨⟨old, he⟩, ⟨o, ho, hc, hd⟩, _⟩ := st
    have e' : b = e ∨ b = it := by simpa using hb
    rcases e' with z | z
    · rw [z]; exact ⟨_, he, fun v q => nomatch q⟩
    · rw [z]; exact ⟨o, ho, fun v q => by rw [hd] at q; cases q⟩
  keep := fun i h h' st k => let ⟨⟨old, he⟩, hi, hne⟩ := st; ⟨⟨old, k e (by simp) _ he⟩, hi.at fun o q => k it (by simp) o q, hne⟩
  item := by
    intro X hP hw hK hc i pins s σ H E I hf st hg
    subst hP hw hK
    obtain ⟨⟨old, he⟩, hit, hne⟩ := st
    obtain ⟨xs, x, hq, hx⟩ := hg
    obtain ⟨its, rv, p, hz⟩ := I.tuple hq
    have p : s.heap.IsTuple a its.toArray := p
    obtain ⟨u, hu, ru⟩ := rv.get hx
    have hel : e < s.heap.objs.size := Heap.lt_size he
    have hil : it < s.heap.objs.size := by obtain ⟨_, q, _⟩ := hit; exact Heap.lt_size q
    have hai : a ≠ it := by
      rintro rfl
      obtain ⟨o1, q1, c1, _⟩ := p
      obtain ⟨o2, q2, c2, _⟩ := hit
      rw [q1] at q2
      cases q2
      rw [c1] at c2
      exact absurd c2 (by decide)
    have hea : e ≠ a := by
      rintro rfl
      obtain ⟨o1, q1, c1, _⟩ := p
      have he' := he
      unfold IsEnum at he'
      rw [q1] at he'
      cases he'
      have c1 : Value.type "enumerate" = Value.type "tuple" := c1
      exact absurd c1 (by decide)
    have hlt : i < its.toArray.size := by
      have := (List.getElem?_eq_some_iff.mp hu).1
      simpa using this
    have hh : X.A.in1.handled = none := I.ok.hd hc
    refine wpAny_pyNext_enum_itemD (Draws.tuple hh it a hai its.toArray) he ⟨hit, p⟩ hlt hne (by simp [hne, hea]) fun x' h' tk hP ho hit' hT hsz hk => ?_
    have hu' : its.toArray[i]? = some u := by simpa using hu
    rw [hu'] at hP
    cases hP
    refine ⟨_, rfl, wpAny_letOwnedTupleGo_enum (s := { s with heap := h', toks := tk + 1 }) ho fun h'' he' sb => ?_⟩
    have hT2 : h''.get? s.heap.objs.size = some { cls := .type "tuple", data := .seq #[.int i tk, u] } := (sb.2 _ (Nat.ne_of_gt hel)).trans hT
    have new : ObjOk X.prog X.w (upd H s.heap.objs.size (.tup [.int (i : Nat), x])) h'' s.heap.objs.size (.tup [.int (i : Nat), x]) :=
      ⟨by show 2 ≤ sizeLine; decide, [.int i tk, u], .cons ⟨_, rfl⟩ (.cons ru .nil), ⟨_, hT2, rfl, _, rfl⟩⟩
    have I1 : Inv X pins σ (upd H s.heap.objs.size (.tup [.int (i : Nat), x])) { s with heap := h'', toks := tk + 1 } :=
      I.turnedNew (t' := tk + 1) (ch := [e, it]) (fun b ob hb q => (sb.2 b (fun z => hb (by simp [z]))).trans (hk b ob (fun z => hb (by simp [z])) (fun z => hb (by simp [z])) q)) hf (Nat.le_refl _) new
    refine ⟨.ref s.heap.objs.size, _, I1, rfl, ⟨_, x, rfl, I.hok.fresh (Nat.le_refl _), rfl, fun ys hy => ?_⟩, ⟨⟨u, ?_⟩, hit'.1.at fun o q => (sb.2 it (Ne.symm hne)).trans q, hne⟩, fun b hb => ?_⟩
    · obtain ⟨its2, rv2, p2, hz2⟩ := I.tuple hy
      have p2 : s.heap.IsTuple a its2.toArray := p2
      rw [I.tuple_inj hy hq]; exact hx
    · have e1 : ((i + 1 : Nat) : Int) = (i : Int) + 1 := by omega
      rw [e1]; exact he'
    · have hb' : b < s.heap.objs.size := by
        have e' : b = e ∨ b = it := by simpa using hb
        rcases e' with z | z
        · rw [z]; exact hel
        · rw [z]; exact hil
      rw [upd_ne (Nat.ne_of_lt hb')]
      exact (hf b hb).1
  done := by
    intro X hP hw hK hc i pins s σ H E I hf st hg
    subst hP hw hK
    obtain ⟨⟨old, he⟩, hit, hne⟩ := st
    obtain ⟨xs, hq, hx⟩ := hg
    obtain ⟨its, rv, p, hz⟩ := I.tuple hq
    have p : s.heap.IsTuple a its.toArray := p
    obtain ⟨f0, f1, f2, f3, f4, f5⟩ := hf it (by simp)
    have hl := rv.length
    have hh : X.A.in1.handled = none := I.ok.hd hc
    exact wpAny_pyNext_enum_endD (draws_over hh it a i its.toArray (by simp; omega)) he ⟨rfl, hit, p⟩ fun h' eb => ⟨rfl, I.turned (t' := s.toks) (fun b o hb q => eb b o hb q) f0 f1 f3 f4 f5⟩
  self := fun A i s Q E st h => let ⟨⟨_, he⟩, _⟩ := st; wpAny_pyIter_enum he h
theorem meets_enumerate_newB1 {v : Value} {o : Obj} {H : Heap → Prop} (B : Begins v o H) :
    Meets (Builtin.«enumerate.__new__» ⟨[.type "enumerate", v], []⟩) (fun _ R s => H s.heap ∧
      R (.ok (.ret (.ref (s.heap.push o).objs.size))) { s with heap := (s.heap.push o).push { cls := .type "enumerate", data := .fields #[.none, .bool false, .ref s.heap.objs.size, rawInt 0, .none, .none] } }) :=
  .of_wp fun prog w A R s h => by
    obtain ⟨hp, g, d, tk, os⟩ := s; obtain ⟨h1, h⟩ := h
    have hsub := sub_enumerate
    have q1 : ∀ {A' : Around} {E : Value → Shared → Prop} {Q : Value → Shared → Prop}, Q (.ref hp.objs.size) ⟨hp.push o, g, d, tk, os⟩ → wpAny (model prog w) A' (pyIter v) Q E ⟨hp, g, d, tk, os⟩ :=
      fun q => B.iter prog w _ _ ⟨hp, g, d, tk, os⟩ _ h1 q
    wp_walk using q1
    refine wpAny_stack_any fun st => wpAny_pure ?_
    split
    · rename_i c _ _ _ _ _
      cases (c == Value.type "enumerate")
      · wp_walk using q1
        exact ⟨_, rfl, h⟩
      · wp_walk using q1
        exact ⟨_, rfl, h⟩
    · wp_walk using q1
      exact ⟨_, rfl, h⟩
theorem call_enumerate_tup {prog : Program} {w : World} {A : Around} {E : Value → Shared → Prop} {s : Shared} {l : Addr} {items : Array Value} {Q : Value → Shared → Prop} (hL : s.heap.IsTuple l items)
    (h : ∀ h', IsEnum h' (s.heap.objs.size + 1) s.heap.objs.size 0 .none → h'.IsTupleIter s.heap.objs.size l 0 → h'.objs.size = s.heap.objs.size + 2 →
      (∀ b o, s.heap.get? b = some o → h'.get? b = some o) → Q (.ref (s.heap.objs.size + 1)) { s with heap := h' }) :
    wpAny (model prog w) A (call (.type "enumerate") [.ref l]) Q E s := by
  refine callType_new PySem.F.called_enumerate (by decide) (PySem.F.typeCall_enumerate_1 _) (PySem.F.newCall_enumerate_1 _) (fun obj => PySem.F.args_object_init_2 obj _) PySem.F.entry_enumerate_new
    (meets_enumerate_newB1 (begins_tuple l items)) ⟨hL, ?_⟩
  have hz : (s.heap.push { cls := .type "tuple_iterator", data := .fields #[.ref l, .int 0 0] }).objs.size = s.heap.objs.size + 1 := Heap.size_push ..
  show _ ∧ _
  rw [hz]
  have he : IsEnum ((s.heap.push { cls := .type "tuple_iterator", data := .fields #[.ref l, .int 0 0] }).push
      { cls := .type "enumerate", data := .fields #[.none, .bool false, .ref s.heap.objs.size, rawInt 0, .none, .none] }) (s.heap.objs.size + 1) s.heap.objs.size 0 .none := by
    have := Heap.get?_push_size (s.heap.push { cls := .type "tuple_iterator", data := .fields #[.ref l, .int 0 0] })
      (o := { cls := .type "enumerate", data := .fields #[.none, .bool false, .ref s.heap.objs.size, rawInt 0, .none, .none] }) rfl
    rw [hz] at this; exact this
  refine ⟨⟨_, he, rfl⟩, h _ he ⟨_, Heap.get?_push_of_some _ (Heap.get?_push_size _ rfl), rfl, rfl⟩ (by rw [Heap.size_push, hz]) fun b o x => Heap.get?_push_of_some _ (Heap.get?_push_of_some _ x)⟩
theorem iv_enumT (hg : Gl X "enumerate") (hm : X.mg "enumerate" = none) (he : EV X W e fe) (hs : starEach [e] X.env = (false, eval e X.env) :: starEach [] X.env := by rfl) (hs1 : starEach [e] X.env = [(false, eval e X.env)] := by rfl) : IV X W (.Tuple elts kk tpos) (.Call (.Name "enumerate" p) [e] [] pos) (iEnumT fe) := by
  refine ⟨fun pins s σ H Q I h0 => ?_⟩
  have h1 := upI_one (g := fun d ρ S => match d with | .tup xs => .ok (enumDs xs) S | _ => .bad) h0
  refine Call_ (ld_blt I hg hm boot_enumerate (PyProof.Rows.callWith_type1 (args_cons (thn (he.run pins s σ H _ I h1) fun v s1 ⟨x, H1, I1, r1, B, m, ρ, S, dx, r, re, rx, f⟩ => ?_) hs) hs1 rfl))
  refine args_nil ?_
  cases dx with
  | tup xs =>
    cases rx with
    | @tup a vs _ h z q =>
      cases r1
      obtain ⟨its, rv, p', hz⟩ := I1.tuple h
      refine call_enumerate_tup (show s1.heap.IsTuple a its.toArray from p') fun h' he hit hsz hk => wpAny_pyIter_enum he ?_
      have I2 : Inv X pins σ H1 { s1 with heap := h' } := I1.kept (t' := s1.toks) hk
      refine ⟨s1.heap.objs.size + 1, [s1.heap.objs.size + 1, s1.heap.objs.size], _, _, H1, rfl, I2, turn_enumT a (s1.heap.objs.size + 1) s1.heap.objs.size, ⟨⟨.none, he⟩, hit, Nat.succ_ne_self _⟩, fun b hb => ?_, f m H1 _ (Post.refl r) (itr_enumT (mg := X.mg) h q)⟩
      have e' : b = s1.heap.objs.size + 1 ∨ b = s1.heap.objs.size := by simpa using hb
      have hle : s1.heap.objs.size ≤ b := by
        rcases e' with z | z
        · rw [z]; exact Nat.le_add_right _ _
        · rw [z]; exact Nat.le_refl _
      exact I1.fpOk hle (I1.hok.fresh hle)
  | _ => exact f.elim
end
section
variable {ρ : Ev} {S : Sto} {E : Px} {f : Ex}
theorem wi_enumT {Q : List D → Sto → Prop} {a : Ex} (h : Wp (a ρ S) (fun x S1 => ∃ xs, x = .tup xs ∧ Q (enumDs xs) S1) E) : Wp (iEnumT a ρ S) Q E := wp_bind (h.mono fun d S1 ⟨xs, e, q⟩ => by
  subst e; exact ⟨q⟩)
theorem wp_valL {Q : D → Sto → Prop} (h : Wp (f ρ S) (fun d S1 => ∃ kvs, d = .dic false kvs ∧ Q (.lst (kvs.map (·.2))) S1) E) : Wp (eValL f ρ S) Q E := wp_bind (h.mono fun d S1 ⟨kvs, e, q⟩ => by
  subst e; exact ⟨q⟩)
end
end DL

/-! ## DMy -/
set_option Elab.async false
set_option linter.all false
set_option maxRecDepth 100000
set_option maxHeartbeats 4000000
namespace DL
open PySem PySem.Spec PyProof.Rows L2
/-! ### dict(pairs), dict(d): a live dict -/
def pairsD : List D → Option (List (Key × D))
  | [] => some []
  | .tup [k, v] :: r => match unK k with
    | some kk => (pairsD r).map ((kk, v) :: ·)
    | none => none
  | _ :: _ => none
def mergeD (acc : List (D × D)) (ps : List (Key × D)) : List (D × D) := ps.foldl (fun a p => putD a p.1 p.2) acc
def eDictM (f : Ex) : Ex := fun ρ S => (f ρ S).bind fun d S => match d with
  | .dic false kvs => .ok (.ref S.length) (S ++ [some (.dic false kvs)])
  | .lst xs => match pairsD xs with
    | some ps => .ok (.ref S.length) (S ++ [some (.dic false (mergeD [] ps))])
    | none => .bad
  | _ => .bad
section
variable {K : PySem.W.Frag} {H : Hp} {Fb : Addr → Prop} {m : List Addr}
theorem kr_merge : ∀ {kv : List (Key × V)} {kd : List (Key × D)} {acc : List (Key × V)} {accD : List (D × D)}, kv.map (·.1) = kd.map (·.1) → RepA K H Fb m (kv.map (·.2)) (kd.map (·.2)) → KR K H Fb m acc accD → KR K H Fb m (mergeK acc kv) (mergeD accD kd)
  | [], [], acc, accD, _, _, q => q
  | p :: kv, r :: kd, acc, accD, hk, q, qa => by
    simp only [List.map_cons, List.cons.injEq] at hk
    rw [List.map_cons, List.map_cons] at q
    cases q with
    | cons r1 q1 =>
      have e := hk.1
      show KR K H Fb m (mergeK (putK acc p.1 p.2) kv) (mergeD (putD accD r.1 r.2) kd)
      rw [e]
      exact kr_merge hk.2 q1 (qa.put _ r1)
  | [], _ :: _, _, _, hk, _, _ => by simp at hk
  | _ :: _, [], _, _, hk, _, _ => by simp at hk
theorem pairs_rep : ∀ {vs : List V} {xs : List D} {kd : List (Key × D)}, RepA K H Fb m vs xs → pairsD xs = some kd → ∃ (ps : List Addr) (kv : List (Key × V)), vs = ps.map V.ref ∧ Paired (fun p kv => SqT K H p [kV kv.1, kv.2]) ps kv ∧ kv.map (·.1) = kd.map (·.1) ∧ RepA K H Fb m (kv.map (·.2)) (kd.map (·.2))
  | [], [], kd, _, e => by
    cases e
    exact ⟨[], [], rfl, .nil, rfl, .nil⟩
  | v :: vs, x :: xs, kd, q, e => by
    cases q with
    | cons r q =>
      unfold pairsD at e
      split at e
      · rename_i h; cases h
      · rename_i k y rest h
        cases h
        split at e
        · rename_i kk ek
          obtain ⟨kd', e1, rfl⟩ := Option.map_eq_some_iff.mp e
          obtain ⟨ps, kv, e2, hp, hk, q2⟩ := pairs_rep q e1
          cases r with
          | @tup a ws _ h z qq =>
            cases qq with
            | cons r1 qq =>
              cases qq with
              | cons r2 qq =>
                cases qq
                have ev := r1.key ek
                subst ev
                exact ⟨a :: ps, (kk, _) :: kv, by rw [e2]; rfl, .cons h hp, by simp [hk], .cons r2 q2⟩
        · cases e
      · cases e
end
def rDictB (X : Cx) : List V → Hp → VK → Prop := fun xs H Q => (∃ (a : Addr) (kvs : List (Key × V)), xs = [.ref a] ∧ Rd H a (.dK kvs) ∧ ∀ p, H p = none → Q (.ref p) (upd H p (.dK kvs))) ∨
  ∃ (a : Addr) (ps : List Addr) (kvs : List (Key × V)), xs = [.ref a] ∧ SqL X.K H a (ps.map V.ref) ∧ Paired (fun p kv => SqT X.K H p [kV kv.1, kv.2]) ps kvs ∧ ∀ p, H p = none → Q (.ref p) (upd H p (.dK (mergeK [] kvs)))
section
variable {X : Cx} {W : WX} {e : Expr} {fe : Ex} {p p0 pos pos0 apos cpos : Pos}
theorem cr_dictB (hc : X.calm = true) : CallR X (.type "dict") (rDictB X) := fun pins s σ H xs us Q I r h => h.elim (fun h => call_dictD pins s σ H xs us Q I r h) (fun h => call_dictP hc pins s σ H xs us Q I r h)
theorem ev_dictM (hc : X.calm = true) (hg : Gl X "dict") (hm : X.mg "dict" = none) (he : EV X W e fe) (hv : bootBuiltins "dict" = some (.type "dict") := by decide +kernel)
    (na : starEach [e] X.env = (false, eval e X.env) :: starEach [] X.env := by rfl) (h1 : (backTo pos (starEach [] X.env)).any (·.1) = false := by rfl) : EV X W (.Call (.Name "dict" p) [e] [] pos) (eDictM fe) := by
  refine pe_imp (pe_callTy (cr_dictB hc) hg hm hv (pa_cons he pa_nil na) (by decide) (by decide) na h1) fun σ H Q h => ?_
  obtain ⟨B, m, ρ, S, r, re, f⟩ := up_one (g := fun d ρ S => match d with
    | .dic false kvs => .ok (.ref S.length) (S ++ [some (.dic false kvs)])
    | .lst xs => match pairsD xs with
      | some ps => .ok (.ref S.length) (S ++ [some (.dic false (mergeD [] ps))])
      | none => .bad
    | _ => .bad) h
  refine ⟨B, m, ρ, S, r, re, f.mono fun x H1 => ?_⟩
  rintro ⟨B, m, ρ, S, d, r, re, rx, f⟩
  split at f
  · cases rx with
    | @dK a kv kvs h z ek q =>
      obtain ⟨od, hd⟩ := h
      exact .inl ⟨a, kv, rfl, .inr ⟨od, hd⟩, fun p hp => f (m ++ [p]) _ _ (Post.new r hp (.dK upd_same z ek (q.kp (kp_new r hp)))) (rep_new r)⟩
  · split at f
    · rename_i ps eps
      cases rx with
      | @lst a vs _ h nf z q =>
        obtain ⟨as, kv, rfl, hp, hk, q2⟩ := pairs_rep q eps
        refine .inr ⟨a, as, kv, rfl, SqL.of h, hp, fun p hp => ?_⟩
        have km := kr_merge hk q2 .nil
        have hz : (mergeK [] kv).length ≤ sizeLine := by
          have h1 := length_mergeK kv []
          have h2 : kv.length = ps.length := by have := congrArg List.length hk; simpa using this
          have h3 : ∀ {xs : List D} {ps : List (Key × D)}, pairsD xs = some ps → ps.length = xs.length := by
            intro xs
            induction xs with
            | nil => intro ps e; cases e; rfl
            | cons x xs ih =>
              intro ps e
              unfold pairsD at e
              split at e
              · rename_i h; cases h
              · rename_i h; cases h
                split at e
                · obtain ⟨kd', e1, rfl⟩ := Option.map_eq_some_iff.mp e
                  simp [ih e1]
                · cases e
              · cases e
          have h4 := q.length
          have h5 := h3 eps
          rw [List.length_nil] at h1
          omega
        exact f (m ++ [p]) _ _ (Post.new r hp (.dK upd_same hz km.keys (km.vals.kp (kp_new r hp)))) (rep_new r)
    · exact f.elim
  · exact f.elim
/-! ### sum(d.values()) -/
def eSumV (e : Ex) : Ex := fun ρ S => (e ρ S).bind fun d S => match d with
  | .dic false kvs => match asIs (kvs.map (·.2)) with
    | some ns => .ok (.int ns.sum) S
    | none => .bad
  | _ => .bad
theorem pre_sum : ∀ (ns : List Int) (n : Nat), n ≤ ns.length → preSum (fun i => ns.getD i 0) n = (ns.take n).sum
  | ns, 0, _ => by simp [preSum]
  | ns, n + 1, h => by
    have ih := pre_sum ns n (by omega)
    have hn : n < ns.length := by omega
    rw [preSum, ih, List.take_succ, List.getElem?_eq_getElem hn, List.sum_append, List.getD_eq_getElem?_getD, List.getElem?_eq_getElem hn]
    simp
theorem ev_sumV (hc : X.calm = true) (hgl : Gl X "sum") (hml : X.mg "sum" = none) (he : EV X W e fe) (hbase : attributeBase e "values" X.env (eval e X.env) = eval e X.env := by rfl) (hline : (apos.endLine == cpos.line) = true := by rfl)
    (hb : bootBuiltins "sum" = some (.builtin "sum") := by decide +kernel)
    (na : starEach [.Call (.Attribute e "values" apos) [] [] cpos] X.env = (false, eval (.Call (.Attribute e "values" apos) [] [] cpos) X.env) :: starEach [] X.env := by rfl) (hpl : (backTo pos0 (starEach [] X.env)).any (·.1) = false := by rfl) :
    EV X W (.Call (.Name "sum" p0) [.Call (.Attribute e "values" apos) [] [] cpos] [] pos0) (eSumV fe) := by
  refine ⟨fun pins s σ H Q I h => ?_⟩
  have h1 := up_one (g := fun d ρ S => match d with | .dic false kvs => (match asIs (kvs.map (·.2)) with | some ns => .ok (.int ns.sum) S | none => .bad) | _ => .bad) h
  refine wpAny_Call_Name_kw (ld_blt I hgl hml hb ?_ (by decide) (by decide))
  refine PyProof.Rows.callWith_builtin1 (args_cons ?_ na) na hpl
  refine wpAny_Call_method (T := "dict") (id := "dict.values") hbase rfl hline PySem.F.plainAttrs_dict PySem.F.slot_dict_values PySem.F.type_dict_values (thn (he.run pins s σ H _ I h1) fun u s1 ⟨x, H1, I1, rx, B, m, ρ, S, dx, r, re, rx', f⟩ => ?_)
  split at f
  · cases rx' with
    | @dK a kv kvs h z ek q =>
      split at f
      · rename_i ns ens
        have hvs := asIs_vals ens q
        obtain ⟨od, hd⟩ := h
        cases rx
        obtain ⟨hs, hgd, hx, es, ep, vs, hdt, hsz, kv', hm⟩ := I1.frzK hd
        have hl : kv.length = vs.length := Paired.length kv'
        refine ⟨hm.dictOf.typeIs, hm.dictOf.mapOf.noDict, ?_⟩
        have I2 : Inv X pins σ H1 { s1 with heap := s1.heap.push { cls := .type "dict_values", data := .fields #[.ref a] } } := I1.kept (t' := s1.toks) fun b ob q => Heap.get?_push_of_some _ q
        refine method_meetsIn PySem.F.slot_dict_values PySem.F.entry_dict_values rfl (PySem.evalArgs_none ⟨rfl, hm.dictOf.typeIs, PySem.F.args_dict_values_1 _, _, meets_dict_values (mixKind X.prog X.w) a hs, ⟨vs, hm.dictOf⟩, ?_⟩)
        refine args_nil ?_
        have hhi : X.A.in1.handled = none := I1.ok.hd hc
        have hints : IntsAre (vs.map (·.2)) ns := ints_of_vals (by rw [← hvs]; exact kv_vals kv')
        have hnl : ns.length = vs.length := by have := IntsAre.length hints; rw [List.length_map] at this; exact this.symm
        refine call_sum_walkAnyS ?_
        have KS := PySem.W.kdl_values (prog := X.prog) (w := X.w) (knd := mixKind X.prog X.w) (r := s1.heap.objs.size) (d := a) (kvs := vs) (ep := ep)
        have hok : Heap.IsValuesView (s1.heap.push { cls := .type "dict_values", data := .fields #[.ref a] }) s1.heap.objs.size a ∧ (s1.heap.push { cls := .type "dict_values", data := .fields #[.ref a] }).DictAt (mixKind X.prog X.w) a vs ep := ⟨⟨_, Heap.get?_push_size _ rfl, rfl, rfl⟩, hm.push _⟩
        obtain ⟨oI, St, hit, WW, st⟩ := KS.iter X.A.in1 { s1 with heap := s1.heap.push { cls := .type "dict_values", data := .fields #[.ref a] } } hhi hok
        refine hit _ _ ⟨_, _, _, _, vs.length, _, _, fun i => ns.getD i 0, rfl, WW.toS, st, fun b hb => ?_, ?_, fun s' t' hmv => ?_⟩
        · show b < (Heap.push _ oI).objs.size
          rw [Heap.size_push]
          rcases List.mem_cons.mp hb with e | hb
          · rw [e]; exact Nat.lt_succ_self _
          · rw [List.mem_singleton.mp hb]; exact Nat.lt_succ_of_lt (KS.there _ hok).2
        · rintro i v ⟨k, e⟩
          exact PyProof.Rows.IntsAre.int_at hints i v (by rw [List.getElem?_map, e]; rfl)
        · have hk : ∀ b o, (s1.heap.push { cls := .type "dict_values", data := .fields #[.ref a] }).get? b = some o → s'.heap.get? b = some o := fun b o e =>
            hmv.heap b o (fun hI => absurd (Heap.lt_size e) (by rw [List.mem_singleton.mp hI]; exact Nat.lt_irrefl _)) (Heap.get?_push_of_some _ e)
          rw [Moved.eq_with hmv]
          refine ⟨.int ns.sum, H1, I2.kept (t' := s'.toks) hk, ⟨t', ?_⟩, f m H1 _ (Post.refl r) (.int _)⟩
          rw [← hnl, pre_sum ns ns.length (Nat.le_refl _), List.take_length]
      · exact f.elim
  · exact f.elim
/-! ### d.clear() -/
def eDClr (f : Ex) : Ex := fun ρ S => (f ρ S).bind fun d S => match dicOf S d with
  | some (n, kvs) => .ok .non (S.set n (some (.dic false [])))
  | none => .bad
theorem ev_dclr (he : EV X W e fe) (hbase : attributeBase e "clear" X.env (eval e X.env) = eval e X.env := by rfl) (hline : (apos.endLine == cpos.line) = true := by rfl) : EV X W (.Call (.Attribute e "clear" apos) [] [] cpos) (eDClr fe) := by
  refine pe_imp (pe_dclear he hbase hline) fun σ H Q h => ?_
  obtain ⟨B, m, ρ, S, r, re, f⟩ := up_one (g := fun d ρ S => match dicOf S d with
    | some (n, kvs) => .ok .non (S.set n (some (.dic false [])))
    | none => .bad) h
  refine ⟨B, m, ρ, S, r, re, f.mono fun x H1 => ?_⟩
  rintro ⟨B, m, ρ, S, d, r, re, rx, f⟩
  split at f
  · rename_i n kvs e1
    obtain ⟨a, kv, rfl, h1, h2, h3, h4, h5⟩ := dicOf_some r e1 rx
    refine ⟨.inr (.inr (.inl ⟨rfl, .inl ⟨kv, h3⟩⟩)), a, kv, rfl, rfl, h3, ?_⟩
    exact f m _ _ (Post.updD r h1 h2 (kw := []) (kws := []) .nil (Nat.zero_le _)) .non
  · exact f.elim
end
end DL

/-! ## DMz -/
set_option Elab.async false
set_option linter.all false
set_option maxRecDepth 100000
set_option maxHeartbeats 4000000
namespace DL
open PySem PySem.Spec PyProof.Rows L2
/-! ### list(d.items()), d live -/
def eItemsL (f : Ex) : Ex := fun ρ S => (f ρ S).bind fun d S => match dicOf S d with
  | some (n, kvs) => .ok (.lst (kvs.map fun p => .tup [p.1, p.2])) S
  | none => .bad
theorem items_rep {K : PySem.W.Frag} {H H' : Hp} {Fb : Addr → Prop} {m : List Addr} : ∀ {ts : List Addr} {kv : List (Key × V)} {kvs : List (D × D)}, (∀ b o, H b = some o → H' b = some o) → Paired (fun (t : Addr) (q : Key × V) => H' t = some (.tup [kV q.1, q.2])) ts kv → KR K H Fb m kv kvs → RepA K H' Fb m (ts.map V.ref) (kvs.map fun p => .tup [p.1, p.2])
  | _, _, _, sm, .nil, .nil => .nil
  | _, _, _, sm, .cons h t, .cons r q => .cons (.tup (.of h) (by show 2 ≤ sizeLine; decide) (.cons (rep_key _) (.cons (r.kp (kp_same fun c o e => sm c o e)) .nil))) (items_rep sm t q)
section
variable {X : Cx} {W : WX} {e : Expr} {fe : Ex} {p apos cpos pos : Pos}
theorem ev_itemsL (hc : X.calm = true) (hg : Gl X "list") (hm : X.mg "list" = none) (he : EV X W e fe) (hbase : attributeBase e "items" X.env (eval e X.env) = eval e X.env := by rfl) (hline : (apos.endLine == cpos.line) = true := by rfl)
    (hs : starEach [.Call (.Attribute e "items" apos) [] [] cpos] X.env = (false, eval (.Call (.Attribute e "items" apos) [] [] cpos) X.env) :: starEach [] X.env := by rfl) : EV X W (.Call (.Name "list" p) [.Call (.Attribute e "items" apos) [] [] cpos] [] pos) (eItemsL fe) := by
  refine pe_imp (LiI.pe_listItems hc he hg hm boot_list hbase hline hs) fun σ H Q h => ?_
  obtain ⟨B, m, ρ, S, r, re, f⟩ := up_one (g := fun d ρ S => match dicOf S d with
    | some (n, kvs) => .ok (.lst (kvs.map fun p => .tup [p.1, p.2])) S
    | none => .bad) h
  refine ⟨B, m, ρ, S, r, re, f.mono fun x H1 => ?_⟩
  rintro ⟨B, m, ρ, S, d, r, re, rx, f⟩
  split at f
  · rename_i n kvs e1
    obtain ⟨a, kv, rfl, h1, h2, h3, h4, h5⟩ := dicOf_some r e1 rx
    refine ⟨a, kv, rfl, h3, fun H' p ts k1 k2 k3 k4 k5 k6 => ?_⟩
    refine f m H' _ (Post.grow r fun c o e => k1 c o e) (.lst k5 (fr_of r p k2) ?_ (items_rep k1 k6 h5))
    rw [List.length_map]
    have := Paired.length k6
    omega
  · exact f.elim
end
/-! ### {k: v, ..} -/
def evP : List (Ex × Ex) → Ev → Sto → R (List (Key × D))
  | [], _, S => .ok [] S
  | (fk, fv) :: r, ρ, S => (fk ρ S).nox.bind fun x S => (fv ρ S).nox.bind fun y S => match unK x with
    | some kk => (evP r ρ S).nox.bind fun ps S => .ok ((kk, y) :: ps) S
    | none => .bad
def eDisp (fs : List (Ex × Ex)) : Ex := fun ρ S => (evP fs ρ S).nox.bind fun ps S => if ps.length ≤ 15 then .ok (.ref S.length) (S ++ [some (.dic false (mergeD [] ps))]) else .bad
theorem evP_run {K : PySem.W.Frag} {mg : Str → Option Value} {σ : L2.St} : ∀ (fs : List (Ex × Ex)) {B : Addr → Prop} {m : List Addr} {S S' : Sto} {H : Hp} {ρ : Ev} {ps : List (Key × D)} {QQ : List (V × V) → Hp → Prop}, Rl K mg B m H S → RepE K H (Fo B m S) m σ ρ → evP fs ρ S = .ok ps S' →
    (∀ m' H' vs, Post K mg B m S H m' S' H' → (∃ kv : List (Key × V), vs = kv.map (fun kv => (kV kv.1, kv.2)) ∧ kv.map (·.1) = ps.map (·.1) ∧ RepA K H' (Fo B m' S') m' (kv.map (·.2)) (ps.map (·.2))) → QQ vs H') →
    tPairs (fs.map fun p => (up K mg W0 p.1, up K mg W0 p.2)) σ H QQ
  | [], B, m, S, S', H, ρ, ps, QQ, r, re, e, q => by
    cases e
    exact q m H [] (Post.refl r) ⟨[], rfl, rfl, .nil⟩
  | (fk, fv) :: fs, B, m, S, S', H, ρ, ps, QQ, r, re, e, q => by
    unfold evP at e
    rcases R.nox_ok (r := fk ρ S) (g := fun x S => (fv ρ S).nox.bind fun y S => match unK x with
      | some kk => (evP fs ρ S).nox.bind fun ps S => .ok ((kk, y) :: ps) S
      | none => .bad) with ⟨x, S1, e1, e2⟩ | e2
    · rw [e2] at e
      refine ⟨B, m, ρ, S, r, re, ?_⟩
      show fin K mg W0 B m S σ H (fk ρ S) _
      rw [e1]
      intro m1 H1 v p1 rx
      rcases R.nox_ok (r := fv ρ S1) (g := fun y S => match unK x with
        | some kk => (evP fs ρ S).nox.bind fun ps S => .ok ((kk, y) :: ps) S
        | none => .bad) with ⟨y, S2, e3, e4⟩ | e4
      · rw [e4] at e
        refine ⟨B, m1, ρ, S1, p1.rl, re.kp (p1.kp r), ?_⟩
        show fin K mg W0 B m1 S1 σ H1 (fv ρ S1) _
        rw [e3]
        intro m2 H2 w p2 ry
        split at e
        · rename_i kk ek
          rcases R.nox_ok (r := evP fs ρ S2) (g := fun ps S => .ok ((kk, y) :: ps) S) with ⟨ps', S3, e5, e6⟩ | e6
          · rw [e6] at e
            cases e
            refine evP_run fs p2.rl ((re.kp (p1.kp r)).kp (p2.kp p1.rl)) e5 fun m' H' vs po hv => ?_
            obtain ⟨kv, h1, h2, h3⟩ := hv
            have ev := rx.key ek
            subst ev
            exact q m' H' _ ((p1.trans p2).trans po) ⟨(kk, w) :: kv, by rw [h1]; rfl, by simp [h2], .cons (ry.kp (po.kp p2.rl)) h3⟩
          · rw [e6] at e; cases e
        · cases e
      · rw [e4] at e; cases e
    · rw [e2] at e; cases e
section
variable {X : Cx} {W : WX} {pos : Pos} {keys : List (Option Expr)} {values : List Expr} {fs : List (Ex × Ex)}
/-- the pairs of a display -/
def DPs (X : Cx) (pos : Pos) (keys : List (Option Expr)) (values : List Expr) (fs : List (Ex × Ex)) : Prop := PPs X pos keys values (fs.map fun p => (up X.K X.mg W0 p.1, up X.K X.mg W0 p.2))
theorem dps_nil : DPs X pos [] [] [] := pps_nil
theorem dps_cons {k v : Expr} {ks : List (Option Expr)} {vs : List Expr} {fk fv : Ex} (hk : EV X W0 k fk) (hv : EV X W0 v fv) (h : DPs X pos ks vs fs) : DPs X pos (some k :: ks) (v :: vs) ((fk, fv) :: fs) := pps_cons hk hv h
theorem ev_disp (h : DPs X pos keys values fs) (hall : keys.all (·.isSome) = true := by rfl) (hl : keys.length = values.length := by rfl) (h0 : keys ≠ [] := by simp) (h15 : keys.length ≤ 15 := by decide) : EV X W (.Dict keys values pos) (eDisp fs) := by
  refine pe_imp (pe_disp h hall hl h0 h15) fun σ H Q h => ?_
  obtain ⟨B, m, ρ, S, r, re, f⟩ := h
  intro p hp
  rcases R.nox_ok (r := evP fs ρ S) (g := fun ps S => if ps.length ≤ 15 then (R.ok (D.ref S.length) (S ++ [some (.dic false (mergeD [] ps))]) : R D) else .bad) with ⟨ps, S', e1, e2⟩ | e2
  · have f' : fin X.K X.mg W B m S σ H ((evP fs ρ S).nox.bind fun ps S => if ps.length ≤ 15 then .ok (.ref S.length) (S ++ [some (.dic false (mergeD [] ps))]) else .bad) Q := f
    rw [e2] at f'
    split at f'
    · rename_i h15'
      have k0 := kp_aside (B := B) (m := m) (S := S) (o := .dK []) hp
      refine evP_run fs (r.aside hp) (re.kp k0) e1 fun m' H' vs po hv => ?_
      obtain ⟨kv, h1, h2, h3⟩ := hv
      have hacc0 : (upd H p (.dK [])) p = some (.dK []) := upd_same
      have hacc : H' p = some (.dK []) := po.keep _ _ hacc0 fun z => (r.aside (o := .dK []) hp).nb _ z (.inr rfl)
      have hlen : kv.length = ps.length := by have := congrArg List.length h2; simpa using this
      refine ⟨hacc, kv, h1, by omega, ?_⟩
      have nw : ¬ Fixd (.dK []) := fun z => z
      have hF : Fo (BD B p) m' S' p := .inl (.inr rfl)
      have km := kr_merge h2 h3 .nil
      refine dcM_fin B m S H m' S' _ p (mergeK [] kv) (mergeD [] ps) r hp ?_ (po.rl.writeD hacc nw) upd_same (km.kp (kp_writeD hacc nw hF)) ?_ (notin_ext (fun z => r.mt p z hp) po.ext hacc0) f'
      · exact (((Post.refl r).pc.over hp).trans po.pc).over hp
      · have := length_mergeK kv []
        rw [List.length_nil] at this
        rw [sizeLine_eq]
        omega
    · exact f'.elim
  · have f' : fin X.K X.mg W B m S σ H ((evP fs ρ S).nox.bind fun ps S => if ps.length ≤ 15 then .ok (.ref S.length) (S ++ [some (.dic false (mergeD [] ps))]) else .bad) Q := f
    rw [e2] at f'
    exact f'.elim
end
end DL

/-! ## DNa -/
set_option Elab.async false
set_option linter.all false
set_option maxRecDepth 100000
set_option maxHeartbeats 4000000
namespace DL
open PySem PySem.Spec PyProof.Rows L2
/-! ### == of two dicts that are equal -/
def eqPD (x y : D) : Bool := match toP x, toP y with
  | some p, some q => SeqAt.shaped p && (SeqAt.shaped q && (decide (p.depth ≤ 60) && PyData.eqv p q))
  | _, _ => false
def eqKD (a b : D) : Option D := match a, b with
  | .dic false ks, .dic false ls => if ks.length = ls.length ∧ (ks.all fun p => match unK p.1 with
    | some k => (match valD ls k with | some d => eqPD p.2 d | none => false)
    | none => false) = true then some (.bl true) else none
  | _, _ => none
theorem kr_mem {K : PySem.W.Frag} {H : Hp} {Fb : Addr → Prop} {m : List Addr} {kv : List (Key × V)} {kvs : List (D × D)} (h : KR K H Fb m kv kvs) : ∀ p ∈ kv, ∃ d, (keyD p.1, d) ∈ kvs ∧ Rep K H Fb m p.2 d := by
  induction h with
  | nil => intro p hp; simp at hp
  | cons r h ih =>
    intro p hp
    rcases List.mem_cons.mp hp with rfl | hp
    · exact ⟨_, List.mem_cons_self, r⟩
    · obtain ⟨d, h1, h2⟩ := ih p hp
      exact ⟨d, List.mem_cons_of_mem _ h1, h2⟩
section
variable {X : Cx}
theorem og_eqK (hu : X.A.units + 64 < cLine) : OpR X (compareOp .Eq) (rG2 X.K eqKD) := by
  intro pins s σ H x y v u Q I rx ry ⟨Fb, m, dx, dy, d, fr, vx, vy, e, k⟩
  unfold eqKD at e
  split at e
  · rename_i ks ls
    split at e
    · rename_i hc
      cases e
      obtain ⟨a, kv, rfl, h1, z1, q1⟩ := vx.asD
      obtain ⟨b, lv, rfl, h2, z2, q2⟩ := vy.asD
      obtain rfl : v = Value.ref a := rx
      obtain rfl : u = Value.ref b := ry
      obtain ⟨_, ya, va, ra, da⟩ := dk_rd I.hok h1
      obtain ⟨_, yb, vb, rb, db⟩ := dk_rd I.hok h2
      have l1 : va.length = kv.length := ra.length.symm
      have l2 : vb.length = lv.length := rb.length.symm
      have l3 := q1.length
      have l4 := q2.length
      have hl := hc.1
      refine PySem.W.rcP_dicts (knd := mixKind X.prog X.w) (r := true) ya yb da db (by omega) (fun _ => hits_run (F := fun x y => ∃ p q, Dp X.K H x p ∧ Dp X.K H y q ∧ SeqAt.shaped p = true ∧ SeqAt.shaped q = true ∧ p.depth ≤ 60 ∧ PyData.eqv p q = true) (fun x y v u hF rx ry => ?_) rb ra fun p hp => ?_) X.xe _ ?_
      · obtain ⟨p, q, d1, d2, s1, s2, hdp, ev⟩ := hF
        obtain ⟨as, r1⟩ := Dp.reads I p x v d1 rx
        obtain ⟨bs, r2⟩ := Dp.reads I q y u d2 ry
        have : SeqAt.EqP X.prog X.w X.A.in1 s v u (PyData.eqv p q) := (SeqAt.eqAt_reads p q X.A.in1 s v u as bs r1 r2 (SeqAt.canLay_of_shaped s1) (SeqAt.canLay_of_shaped s2) (by show X.A.units + 1 + min p.depth q.depth < cLine; omega)).eqP
        rw [ev] at this
        exact this
      · obtain ⟨d, hd, rd⟩ := kr_mem q1 p hp
        have hall := List.all_eq_true.mp hc.2 _ hd
        dsimp only at hall
        rw [unK_keyD] at hall
        dsimp only at hall
        split at hall
        · rename_i d' ed
          obtain ⟨w, ew, rw'⟩ := q2.some ed
          unfold eqPD at hall
          split at hall
          · rename_i p0 q0 e1 e2
            simp only [Bool.and_eq_true] at hall
            exact ⟨w, ew, p0, q0, rd.dp e1, rw'.dp e2, hall.1, hall.2.1, of_decide_eq_true hall.2.2.1, hall.2.2.2⟩
          · cases hall
        · cases hall
      · have e0 : (va.length == vb.length && true) = true := by
          have : va.length = vb.length := by omega
          simp [this]
        rw [e0]
        exact ⟨.bl true, H, I, rfl, k H _ (Same.refl H) (.bl _)⟩
    · cases e
  · cases e
end
/-! ### the rules -/
section
variable {Q : D → Sto → Prop} {E : Px} {ρ : Ev} {S : Sto} {f fk fv : Ex}
theorem wp_dictD (h : Wp (f ρ S) (fun d S1 => ∃ kvs, d = .dic false kvs ∧ Q (.ref S1.length) (S1 ++ [some (.dic false kvs)])) E) : Wp (eDictM f ρ S) Q E := wp_bind (h.mono fun d S1 ⟨kvs, e, q⟩ => by
  subst e; exact ⟨q⟩)
theorem wp_dictP (h : Wp (f ρ S) (fun d S1 => ∃ xs ps, d = .lst xs ∧ pairsD xs = some ps ∧ Q (.ref S1.length) (S1 ++ [some (.dic false (mergeD [] ps))])) E) : Wp (eDictM f ρ S) Q E := wp_bind (h.mono fun d S1 ⟨xs, ps, e, e1, q⟩ => by
  subst e
  dsimp only
  rw [e1]
  exact ⟨q⟩)
theorem wp_sumV (h : Wp (f ρ S) (fun d S1 => ∃ kvs ns, d = .dic false kvs ∧ asIs (kvs.map (·.2)) = some ns ∧ Q (.int ns.sum) S1) E) : Wp (eSumV f ρ S) Q E := wp_bind (h.mono fun d S1 ⟨kvs, ns, e, e1, q⟩ => by
  subst e
  dsimp only
  rw [e1]
  exact ⟨q⟩)
theorem wp_dclr (h : Wp (f ρ S) (fun d S1 => ∃ n kvs, d = .ref n ∧ S1[n]? = some (some (.dic false kvs)) ∧ Q .non (S1.set n (some (.dic false [])))) E) : Wp (eDClr f ρ S) Q E := wp_bind (h.mono fun d S1 ⟨n, kvs, e, e1, q⟩ => by
  subst e
  have : dicOf S1 (.ref n) = some (n, kvs) := by simp only [dicOf, e1]
  rw [this]
  exact ⟨q⟩)
theorem wp_itemsL (h : Wp (f ρ S) (fun d S1 => ∃ n kvs, d = .ref n ∧ S1[n]? = some (some (.dic false kvs)) ∧ Q (.lst (kvs.map fun p => .tup [p.1, p.2])) S1) E) : Wp (eItemsL f ρ S) Q E := wp_bind (h.mono fun d S1 ⟨n, kvs, e, e1, q⟩ => by
  subst e
  have : dicOf S1 (.ref n) = some (n, kvs) := by simp only [dicOf, e1]
  rw [this]
  exact ⟨q⟩)
theorem wp_disp1 (h : Wp (fk ρ S) (fun x S1 => Wp (fv ρ S1) (fun y S2 => ∃ k : Int, x = .int k ∧ Q (.ref S2.length) (S2 ++ [some (.dic false [(.int k, y)])])) noX) noX) : Wp (eDisp [(fk, fv)] ρ S) Q E := by
  obtain ⟨x, S1, e1, h1⟩ := h.ok
  obtain ⟨y, S2, e2, k, rfl, q⟩ := h1.ok
  have e : evP [(fk, fv)] ρ S = .ok [(Sum.inl k, y)] S2 := by
    unfold evP evP
    rw [e1]
    simp only [R.nox, R.bind]
    rw [e2]
    rfl
  unfold eDisp
  rw [e]
  exact ⟨q⟩
end
/-! ### tables of things from pairs -/
theorem pairs_A {α : Type} (f : α → D) : ∀ l : List (Int × α), pairsD (l.map fun p => .tup [.int p.1, f p.2]) = some (l.map fun p => (Sum.inl p.1, f p.2))
  | [] => rfl
  | p :: l => by
    rw [List.map_cons]
    unfold pairsD
    simp only [unK]
    rw [pairs_A f l]
    rfl
theorem putD_new {α : Type} (f : α → D) {l : List (Int × α)} {k : Int} {d : D} (h : k ∉ l.map (·.1)) : putD (kA f l) (.inl k) d = kA f l ++ [(.int k, d)] := by
  unfold putD
  rw [if_neg]
  · rfl
  · intro z
    obtain ⟨p, hp, e⟩ := List.any_eq_true.mp z
    unfold kA at hp
    obtain ⟨q, hq, rfl⟩ := List.mem_map.mp hp
    have e := of_decide_eq_true e
    simp only [unK, Option.some.injEq, Sum.inl.injEq] at e
    exact h (List.mem_map.mpr ⟨q, hq, e⟩)
theorem merge_A {α : Type} (f : α → D) : ∀ (l acc : List (Int × α)), ((acc ++ l).map (·.1)).Nodup → mergeD (kA f acc) (l.map fun p => (Sum.inl p.1, f p.2)) = kA f (acc ++ l)
  | [], acc, _ => by simp [mergeD]
  | p :: l, acc, h => by
    have h' : ((acc ++ [p]) ++ l).map (·.1) = (acc ++ p :: l).map (·.1) := by simp
    have hk : p.1 ∉ acc.map (·.1) := by
      rw [List.map_append, List.nodup_append] at h
      exact fun z => h.2.2 _ z _ (by simp) rfl
    show mergeD (putD (kA f acc) (.inl p.1) (f p.2)) (l.map fun p => (Sum.inl p.1, f p.2)) = _
    rw [putD_new f hk]
    have e : kA f acc ++ [(D.int p.1, f p.2)] = kA f (acc ++ [p]) := by unfold kA; rw [List.map_append]; rfl
    rw [e, merge_A f l (acc ++ [p]) (by rw [h']; exact h), List.append_assoc]
    rfl
end DL

/-! ## DNb -/
set_option Elab.async false
set_option linter.all false
set_option maxRecDepth 100000
set_option maxHeartbeats 4000000
namespace DL
open PySem PySem.Spec PyProof.Rows L2
/-! ### * and // of great ints -/
def divWD : D → D → Option D
  | .int i, .int j => if 0 < j ∧ j.natAbs.log2 < 9000 then some (.int (i / j)) else none
  | _, _ => none
def mulWD : D → D → Option D
  | .int i, .int j => if i.natAbs.log2 + j.natAbs.log2 < 1000000 then some (.int (i * j)) else none
  | _, _ => none
section
variable {X : Cx}
theorem og_divW : OpR X (binaryOp .FloorDiv) (rG2 X.K divWD) := og_int op_fdivW fun dx dy d e => by
  unfold divWD at e
  split at e
  · rename_i i j
    split at e
    · rename_i hj
      cases e
      exact ⟨i, j, _, rfl, rfl, rfl, fun H Q k => ⟨i, j, rfl, rfl, hj, k _ fun _ _ _ => .int _⟩⟩
    · cases e
  · cases e
theorem og_mulW : OpR X (binaryOp .Mult) (rG2 X.K mulWD) := og_int op_mulW fun dx dy d e => by
  unfold mulWD at e
  split at e
  · rename_i i j
    split at e
    · rename_i hj
      cases e
      exact ⟨i, j, _, rfl, rfl, rfl, fun H Q k => ⟨i, j, rfl, rfl, hj, k _ fun _ _ _ => .int _⟩⟩
    · cases e
  · cases e
end
section
variable {S : Sto} {i j : Int} {Q : D → Prop}
theorem wo_divW (k : Nat) (h : 0 < j) (hb : j.natAbs < 2 ^ k) (q : Q (.int (i / j))) (h0 : 0 < k := by decide) (h9 : k ≤ 9000 := by decide) : Wo (divWD (.int i) (.int j)) Q := .of (if_pos ⟨h, Nat.lt_of_lt_of_le (PySem.Flt.log2_lt_of h0 hb) h9⟩) q
theorem wo_mulW (a b : Nat) (hi : i.natAbs < 2 ^ a) (hj : j.natAbs < 2 ^ b) (q : Q (.int (i * j))) (h0 : 0 < a := by decide) (h1 : 0 < b := by decide) (h9 : a + b ≤ 1000000 := by decide) : Wo (mulWD (.int i) (.int j)) Q := .of (if_pos (by
  have h1 := PySem.Flt.log2_lt_of h0 hi
  have h2 := PySem.Flt.log2_lt_of (by assumption) hj
  omega)) q
theorem vo_divW (k : Nat) (h : 0 < j) (hb : j.natAbs < 2 ^ k) (q : Q (.int (i / j))) (h0 : 0 < k := by decide) (h9 : k ≤ 9000 := by decide) : Wo (divWD (view S (.int i)) (view S (.int j))) Q := wo_divW k h hb q h0 h9
theorem vo_mulW (a b : Nat) (hi : i.natAbs < 2 ^ a) (hj : j.natAbs < 2 ^ b) (q : Q (.int (i * j))) (h0 : 0 < a := by decide) (h1 : 0 < b := by decide) (h9 : a + b ≤ 1000000 := by decide) : Wo (mulWD (view S (.int i)) (view S (.int j))) Q := wo_mulW a b hi hj q h0 h1 h9
end
end DL

/-! ## LSn -/
set_option Elab.async false
set_option linter.all false
set_option maxRecDepth 100000
set_option maxHeartbeats 4000000
namespace DL
/-! ### rows summed, sign by sign -/
def fil (xs : List Int) (m : Nat) : List Int := xs ++ List.replicate (m - xs.length) 0
theorem fil_len {xs : List Int} {m : Nat} (h : xs.length ≤ m) : (fil xs m).length = m := by simp [fil]; omega
theorem fil_get {xs : List Int} {m : Nat} (i : Nat) (h : i < m) : (fil xs m)[i]?.getD 0 = xs[i]?.getD 0 := by
  unfold fil
  by_cases h2 : i < xs.length
  · rw [List.getElem?_append_left h2]
  · rw [List.getElem?_append_right (by omega), List.getElem?_replicate, List.getElem?_eq_none (by omega : xs.length ≤ i)]
    split <;> rfl
def sums (xs ys : List Int) : List Int := (List.range (max xs.length ys.length)).map fun i => (xs[i]?.getD 0 + ys[i]?.getD 0) % 31
theorem sums_comm (xs ys : List Int) : sums xs ys = sums ys xs := by
  unfold sums
  rw [Nat.max_comm]
  apply List.map_congr_left
  intro i _
  rw [Int.add_comm]
theorem zip_sums (xs ys : List Int) : ((fil xs (max xs.length ys.length)).zip (fil ys (max xs.length ys.length))).map (fun p => (p.1 + p.2) % 31) = sums xs ys := by
  have l1 := fil_len (xs := xs) (m := max xs.length ys.length) (by omega)
  have l2 := fil_len (xs := ys) (m := max xs.length ys.length) (by omega)
  apply List.ext_getElem
  · simp [sums, l1, l2]
  · intro i h1 h2
    have hi : i < max xs.length ys.length := by simpa [sums] using h2
    rw [List.getElem_map, List.getElem_zip]
    simp only [sums, List.getElem_map, List.getElem_range]
    rw [← fil_get i hi, ← fil_get (xs := ys) i hi, List.getElem?_eq_getElem (by omega), List.getElem?_eq_getElem (by omega)]
    rfl
theorem zipDs_ints (xs ys : List Int) : zipDs (xs.map .int) (ys.map .int) = (xs.zip ys).map fun p => .tup [.int p.1, .int p.2] := by
  unfold zipDs
  rw [List.zip_map, List.map_map]
  rfl
theorem zipDs_rows (rs : List (List Int)) (ws : List Int) : zipDs (rs.map fun r => .tup (r.map .int)) (ws.map .int) = (rs.zip ws).map fun p => .tup [.tup (p.1.map .int), .int p.2] := by
  unfold zipDs
  rw [List.zip_map, List.map_map]
  rfl
theorem wz_nil (x : Int) : wz [] x = 0 := rfl
theorem wz_cons (a : Int) (xs : List Int) (x : Int) : wz (a :: xs) x = (wz xs x * x + a) % 31 := by simp [wz, List.foldl_append]
theorem wz_mod31 (x : Int) (xs : List Int) : wz xs x % 31 = wz xs x := by
  cases xs with
  | nil => rfl
  | cons a xs => rw [wz_cons]; simp
theorem sums_cons (a b : Int) (xs ys : List Int) : sums (a :: xs) (b :: ys) = (a + b) % 31 :: sums xs ys := by
  unfold sums
  rw [List.length_cons, List.length_cons, show max (xs.length + 1) (ys.length + 1) = max xs.length ys.length + 1 by omega, List.range_succ_eq_map]
  simp [List.map_map, Function.comp_def]
theorem sums_nil (ys : List Int) : sums [] ys = ys.map (· % 31) := by
  unfold sums
  apply List.ext_getElem
  · simp
  · intro i h1 h2
    simp at h1
    simp [h1]
theorem wz_maps (x : Int) : ∀ ys : List Int, wz (ys.map (· % 31)) x = wz ys x
  | [] => rfl
  | y :: ys => by
    rw [List.map_cons, wz_cons, wz_cons, wz_maps x ys, Int.add_emod, Int.emod_emod, ← Int.add_emod]
theorem wz_sums (x : Int) : ∀ xs ys : List Int, wz (sums xs ys) x = (wz xs x + wz ys x) % 31
  | [], ys => by rw [sums_nil, wz_maps, wz_nil, Int.zero_add, wz_mod31]
  | xs, [] => by rw [sums_comm, sums_nil, wz_maps, wz_nil, Int.add_zero, wz_mod31]
  | a :: xs, b :: ys => by
    rw [sums_cons, wz_cons, wz_cons, wz_cons, wz_sums x xs ys, ← Int.add_emod]
    rw [Int.add_emod, Int.mul_emod, Int.emod_emod, ← Int.mul_emod, Int.emod_emod, ← Int.add_emod]
    congr 1
    rw [Int.add_mul]
    omega
theorem wz_times (x m : Int) : ∀ xs : List Int, wz (xs.map fun s => s * m % 31) x = wz xs x * m % 31
  | [] => by simp [wz_nil]
  | a :: xs => by
    rw [List.map_cons, wz_cons, wz_cons, wz_times x m xs]
    rw [Int.add_emod, Int.mul_emod, Int.emod_emod, ← Int.mul_emod, Int.emod_emod, ← Int.add_emod, Int.mul_emod ((wz xs x * x + a) % 31), Int.emod_emod, ← Int.mul_emod]
    congr 1
    rw [Int.add_mul, Int.mul_assoc, Int.mul_comm m x, ← Int.mul_assoc]
theorem sums_len (xs ys : List Int) : (sums xs ys).length = max xs.length ys.length := by simp [sums]
theorem row_sums (xs ys : List Int) : Row (sums xs ys) := fun x hx => by
  unfold sums at hx
  obtain ⟨i, _, rfl⟩ := List.mem_map.mp hx
  omega
/-- rows summed, each by its weight -/
def ans0 (ps : List (List Int × Int)) : List Int := ps.foldl (fun f p => sums f (p.1.map fun s => s * p.2 % 31)) []
theorem ans0_row : ∀ (ps : List (List Int × Int)) (f : List Int), Row f → Row (ps.foldl (fun f p => sums f (p.1.map fun s => s * p.2 % 31)) f)
  | [], f, h => h
  | p :: ps, f, h => ans0_row ps _ (row_sums _ _)
theorem ans0_wz (x : Int) : ∀ (ps : List (List Int × Int)) (f : List Int), wz (ps.foldl (fun f p => sums f (p.1.map fun s => s * p.2 % 31)) f) x = (wz f x + (ps.map fun p => wz p.1 x * p.2).sum) % 31
  | [], f => by simp [wz_mod31]
  | p :: ps, f => by
    rw [List.foldl_cons, ans0_wz x ps, wz_sums, wz_times, List.map_cons, List.sum_cons]
    omega
def lng (n : Nat) (ps : List (List Int × Int)) : Nat := ps.foldl (fun n p => max n p.1.length) n
theorem ans0_len : ∀ (ps : List (List Int × Int)) (f : List Int), (ps.foldl (fun f p => sums f (p.1.map fun s => s * p.2 % 31)) f).length = lng f.length ps
  | [], f => rfl
  | p :: ps, f => by
    rw [List.foldl_cons, ans0_len ps, sums_len, List.length_map]
    rfl
theorem sums_get (xs ys : List Int) (i : Nat) : (sums xs ys)[i]?.getD 0 = (xs[i]?.getD 0 + ys[i]?.getD 0) % 31 := by
  by_cases h : i < max xs.length ys.length
  · rw [List.getElem?_eq_getElem (by rw [sums_len]; exact h)]
    simp [sums]
  · rw [List.getElem?_eq_none (by rw [sums_len]; omega), List.getElem?_eq_none (by omega : xs.length ≤ i), List.getElem?_eq_none (by omega : ys.length ≤ i)]
    rfl
theorem ans0_get (i : Nat) : ∀ (ps : List (List Int × Int)) (f : List Int), (ps.foldl (fun f p => sums f (p.1.map fun s => s * p.2 % 31)) f)[i]?.getD 0 % 31 = (f[i]?.getD 0 + (ps.map fun p => p.1[i]?.getD 0 * p.2).sum) % 31
  | [], f => by simp
  | p :: ps, f => by
    rw [List.foldl_cons, ans0_get i ps, sums_get, List.map_cons, List.sum_cons]
    have e : (p.1.map fun s => s * p.2 % 31)[i]?.getD 0 = p.1[i]?.getD 0 * p.2 % 31 := by
      rw [List.getElem?_map]
      cases p.1[i]? <;> simp
    rw [e]
    omega
/-- by columns -/
theorem ans0_cols (ps : List (List Int × Int)) : ans0 ps = (List.range (lng 0 ps)).map fun i => (ps.map fun p => p.1[i]?.getD 0 * p.2).sum % 31 := by
  have hl : (ans0 ps).length = lng 0 ps := ans0_len ps []
  apply List.ext_getElem
  · simp [hl]
  · intro i h1 h2
    have h3 := ans0_get i ps []
    have h4 : Row (ans0 ps) := ans0_row ps [] (fun x hx => by simp at hx)
    have h5 := h4 _ (List.getElem_mem h1)
    change (ans0 ps)[i]?.getD 0 % 31 = _ at h3
    rw [List.getElem?_eq_getElem h1] at h3
    simp only [Option.getD_some, List.getElem?_nil, Option.getD_none, Int.zero_add] at h3
    rw [List.getElem_map, List.getElem_range, ← h3]
    omega
theorem sum_filter (i : Nat) : ∀ ps : List (List Int × Int), ((ps.filter fun p => decide (i < p.1.length)).map fun p => p.1[i]?.getD 0 * p.2).sum = (ps.map fun p => p.1[i]?.getD 0 * p.2).sum
  | [] => rfl
  | p :: ps => by
    rw [List.filter_cons]
    split
    · rw [List.map_cons, List.sum_cons, List.map_cons, List.sum_cons, sum_filter i ps]
    · rename_i h
      have h : ¬ i < p.1.length := by simpa using h
      rw [List.map_cons, List.sum_cons, sum_filter i ps, List.getElem?_eq_none (by omega)]
      simp
theorem lng_max : ∀ (ps : List (List Int × Int)) (n : Nat), maxI (n : Int) (ps.map fun p => (p.1.length : Int)) = lng n ps
  | [], n => rfl
  | p :: ps, n => by
    have e : max (n : Int) (p.1.length : Int) = ((max n p.1.length : Nat) : Int) := by omega
    show maxI (max (n : Int) (p.1.length : Int)) _ = _
    rw [e, lng_max ps]
    rfl
theorem lng_def (ps : List (List Int × Int)) : maxDef 0 (ps.map fun p => (p.1.length : Int)) = lng 0 ps := by
  cases ps with
  | nil => rfl
  | cons p ps =>
    show maxI (p.1.length : Int) (ps.map fun p => (p.1.length : Int)) = lng 0 (p :: ps)
    rw [lng_max]
    unfold lng
    rw [List.foldl_cons, Nat.zero_max]
theorem lng_le {m : Nat} : ∀ (ps : List (List Int × Int)) (n : Nat), n ≤ m → (∀ p ∈ ps, p.1.length ≤ m) → lng n ps ≤ m
  | [], n, h, _ => h
  | p :: ps, n, h, hp => lng_le ps (max n p.1.length) (by have := hp p (by simp); omega) fun q hq => hp q (by simp [hq])
theorem asIs_map : ∀ xs : List Int, asIs (xs.map .int) = some xs
  | [] => rfl
  | x :: xs => by simp [asIs, asIs_map xs]
theorem wo_sumL {xs : List Int} {S : Sto} {Q : D → Prop} (q : Q (.int xs.sum)) : Wo (sumD (List.map (view S) [.lst (xs.map .int)])) Q := .of (by show sumD [.lst (xs.map .int)] = _; simp only [sumD, asIs_map, Option.map_some]) q
end DL
namespace LS
open DL
local macro_rules | `(tactic| walk_at "w1") => `(tactic| with_reducible first
  | (refine ws_then ?_; try with_reducible dsimp only [List.set_cons_zero, List.set_cons_succ]) | refine ws_seq ?_ | refine ws_asg ?_ | refine ws_expr ?_ | refine ws_ret ?_ | refine ws_if ?_ | refine ws_asgT ?_ | refine ws_setIx ?_ | refine ws_skip ?_ | refine ws_retN ?_ | refine ws_brk ?_ | refine ws_cont ?_ | refine ws_thenR ?_ | refine ws_thenB ?_ | refine ws_thenC ?_ | refine fq_rt ?_ | refine fq_nx ?_ | refine un_nx ?_ | refine un_ct ?_ | refine un_bk ?_ | refine un_rt ?_ | refine ws_loopN ?_
  | (refine ws_loopC (ρ1 := ?r) ?h ?q; (case h => with_unfolding_all rfl); try with_reducible dsimp only [List.set_cons_zero, List.set_cons_succ])
  | refine wp_c ?_ | refine wp_op2 ?_ | refine wp_fn ?_ | refine wp_cons ?_ | refine wp_nil ?_ | refine wp_call ?_ | refine wp_op1 ?_
  | (refine wp_var (d := ?d) ?h ?q; (case h => with_unfolding_all rfl))
  | (refine ws_aug (d := ?d) ?h ?q; (case h => with_unfolding_all rfl))
  | refine wp_tup ?_ | refine wp_lst ?_ | refine wp_lstM ?_ | refine wp_listM ?_
  | refine wp_sl0 ?_ | refine wp_sl1 ?_ | refine wp_sl2 ?_ | refine wp_sl3 ?_
  | refine wp_tval ?_ | refine wp_tnot ?_ | refine wp_tand ?_ | refine wp_tor ?_ | refine wp_tyes ?_ | refine wp_and ?_ | refine wp_or ?_ | refine wp_not ?_ | refine wp_ifx ?_ | refine wp_chain ?_ | refine wp_meth ?_ | refine wp_meth0 ?_
  | refine wp_isi ?_ | refine wp_isis ?_ | refine wp_repr ?_ | refine wp_maxD ?_ | refine wi_rng3 ?_
  | refine wi_seq ?_ | refine wi_rng1 ?_ | refine wi_rng2 ?_ | refine wi_zip2 ?_ | refine wi_zipS ?_
  | (refine wp_fnB (ρ := ?ρ) ?he ?_; (case he => (simp only [List.map_cons, List.map_nil, List.length_cons, List.length_nil, List.replicate, List.cons_append, List.nil_append, Nat.reduceAdd, Nat.reduceSub]; rfl))))
local macro_rules | `(tactic| walk_at "w2") => `(tactic| ((with_reducible refine wo_id ?_); with_reducible first
  | refine vo_sub ?_ | refine vo_add ?_ | refine vo_lt ?_ | refine vo_le ?_ | refine vo_gt ?_ | refine vo_ge ?_ | refine vo_eq ?_ | refine vo_ne ?_ | refine vo_eqS ?_ | refine vo_neS ?_ | refine vo_eqB ?_ | refine vo_neB ?_ | refine vo_neg ?_ | refine vo_slT ?_ | refine vo_slL ?_ | refine vo_slS ?_ | refine vo_lenT ?_ | refine vo_lenL ?_ | refine vo_lenS ?_ | refine vo_revT ?_ | refine vo_revL ?_ | refine vo_min ?_ | refine vo_max ?_ | refine vo_tupL ?_ | refine vo_tupT ?_ | refine vo_lisL ?_ | refine vo_lisT ?_
  | refine vo_igAdd ?_ | refine vo_igMulR (by omega) ?_ | refine vo_igMulL (by omega) ?_ | refine vo_mod (by omega) ?_ | refine vo_div (by omega) ?_ | refine vo_mulR (by omega) ?_ | refine vo_mulL (by omega) ?_
  | refine vo_ixL0 ?_ | refine vo_ixL1 ?_ | refine vo_ixL2 ?_ | refine vo_ixL3 ?_ | refine vo_ixL4 ?_ | refine vo_ixL5 ?_ | refine vo_ixL6 ?_ | refine vo_ixT0 ?_ | refine vo_ixT1 ?_ | refine vo_ixT2 ?_ | refine vo_ixT3 ?_ | refine vo_ixT4 ?_ | refine vo_ixT5 ?_ | refine vo_ixT6 ?_
  | refine wo_vw1 (by assumption) ?_ | refine wo_vw2 (by assumption) ?_ | refine vo_vwc (by assumption) ?_
  | (refine vo_isi (c := ?c) ?h ?q; (case h => with_unfolding_all rfl)) | (refine vo_isis (c := ?c) ?h ?q; (case h => with_unfolding_all rfl))))
local macro_rules | `(tactic| walk_at "w3") => `(tactic| first
  | with_reducible refine ite_f ?_ | with_reducible refine ite_nt ?_ | with_reducible refine ite_nf ?_ | with_reducible refine ite_t ?_
  | ((with_reducible refine ex_id ?_); refine ⟨_, rfl, ?_⟩) | ((with_reducible refine and_id ?_); refine ⟨Nat.le_of_ble_eq_true rfl, ?_⟩))
local macro_rules | `(tactic| walk_at "w") => `(tactic| repeat (first | walk_at "w1" | walk_at "w2" | walk_at "w3"))

theorem wp_times {S : Sto} {xs : List Int} {m : Int} (hm : -1000 ≤ m ∧ m ≤ 1000) (hx : xs.length ≤ 1000000) {Q : D → Sto → Prop} {E : Px} (q : Q (.tup ((xs.map fun s => s * m % 31).map .int)) S) : Wp (d_times [.tup (xs.map .int), .int m] S) Q E := by
  refine wp_fnP (by simp [noRefs, noRef, noRefs_int]) ?_
  unfold b_times
  walk_at "w"
  unfold c_times_1
  refine wp_compM1 xs D.int (fun s => .int (s * m % 31)) (by omega) ?_
  walk_at "w"
  refine ⟨_, Or.inl rfl, rfl, fun x _ => ⟨_, rfl, ?_⟩, ?_⟩
  · unfold ce_times_1
    walk_at "w"
    exact ⟨rfl, rfl⟩
  walk_at "w"
  have e : (xs.map fun s => D.int (s * m % 31)) = (xs.map fun s => s * m % 31).map D.int := by rw [List.map_map]; rfl
  rw [e]
  exact ⟨by simp only [noRef]; exact noRefs_int _, q⟩
theorem wp_added {S : Sto} {xs ys : List Int} (hx : xs.length ≤ 100000) (hy : ys.length ≤ 100000) {Q : D → Sto → Prop} {E : Px} (q : Q (.tup ((sums xs ys).map .int)) S) : Wp (d_added [.tup (xs.map .int), .tup (ys.map .int)] S) Q E := by
  refine wp_fnP (by simp [noRefs, noRef, noRefs_int]) ?_
  unfold b_added
  walk_at "w"
  rw [List.length_map, List.length_map]
  obtain ⟨m, hm⟩ : ∃ m : Nat, m = max xs.length ys.length := ⟨_, rfl⟩
  have hmx : (if (ys.length : Int) > xs.length then (ys.length : Int) else xs.length) = (m : Int) := by
    split <;> omega
  rw [hmx]
  walk_at "w"
  refine wo_mulT (by omega) (by simp; omega) ?_
  rw [rep_one]
  refine vo_addT (by simp; omega) ?_
  rw [← List.map_append, show ((m : Int) - xs.length).toNat = m - xs.length by omega]
  walk_at "w"
  unfold c_added_1
  have l1 := fil_len (xs := xs) (m := m) (by omega)
  have l2 := fil_len (xs := ys) (m := m) (by omega)
  refine wp_compM1 ((fil xs m).zip (fil ys m)) (fun p => .tup [.int p.1, .int p.2]) (fun p => .int ((p.1 + p.2) % 31)) (by simp [l1, l2]; omega) ?_
  walk_at "w"
  rw [List.length_map]
  refine wo_mulT (by omega) (by simp; omega) ?_
  rw [rep_one]
  refine vo_addT (by simp; omega) ?_
  rw [← List.map_append, show ((m : Int) - ys.length).toNat = m - ys.length by omega]
  refine ⟨_, _, Or.inr rfl, Or.inr rfl, ?_, zipDs_ints _ _, fun p _ => ⟨_, rfl, ?_⟩, ?_⟩
  · rw [List.length_map, List.length_map]
    exact l1.trans l2.symm
  · unfold ce_added_1
    walk_at "w"
    exact ⟨rfl, rfl⟩
  walk_at "w"
  have e : (((fil xs m).zip (fil ys m)).map fun p => D.int ((p.1 + p.2) % 31)) = (sums xs ys).map D.int := by
    rw [← zip_sums xs ys, ← hm, List.map_map]
    rfl
  rw [e]
  exact ⟨by simp only [noRef]; exact noRefs_int _, q⟩
end LS
namespace DL
mutual
theorem frz_s (S : Sto) : ∀ d : D, smD d = true → frzD S d = d
  | .non, _ => by simp only [frzD]
  | .bl _, _ => by simp only [frzD]
  | .int _, _ => by simp only [frzD]
  | .str _, _ => by simp only [frzD]
  | .tup xs, h => by simp only [frzD, frz_ss S xs h]
  | .lst xs, h => by simp only [frzD, frz_ss S xs h]
  | .dic _ _, h => by simp [smD] at h
  | .ref _, h => by simp [smD] at h
  | .raw _, h => by simp [smD] at h
  | .scr _, h => by simp [smD] at h
theorem frz_ss (S : Sto) : ∀ ds : List D, smDs ds = true → frzDs S ds = ds
  | [], _ => by simp only [frzDs]
  | d :: ds, h => by
    simp only [smDs, Bool.and_eq_true] at h
    simp only [frzDs, frz_s S d h.1, frz_ss S ds h.2]
end
mutual
theorem nor_s : ∀ d : D, smD d = true → noRef d = true
  | .non, _ => by simp only [noRef]
  | .bl _, _ => by simp only [noRef]
  | .int _, _ => by simp only [noRef]
  | .str _, _ => by simp only [noRef]
  | .tup xs, h => by simp only [noRef, nor_ss xs h]
  | .lst xs, h => by simp only [noRef, nor_ss xs h]
  | .dic _ _, h => by simp [smD] at h
  | .ref _, h => by simp [smD] at h
  | .raw _, h => by simp [smD] at h
  | .scr _, h => by simp [smD] at h
theorem nor_ss : ∀ ds : List D, smDs ds = true → noRefs ds = true
  | [], _ => by simp only [noRefs]
  | d :: ds, h => by
    simp only [smDs, Bool.and_eq_true] at h
    simp only [noRefs, nor_s d h.1, nor_ss ds h.2, Bool.and_self]
end
end DL

/-! ## LFd -/
set_option Elab.async false
set_option linter.all false
set_option maxRecDepth 100000
set_option maxHeartbeats 4000000
namespace LF
open PySem PySem.Spec PyProof.Rows L2 DL
/-- _law_amixed: 0:_law_cell 1:_law_at 2:_law_one 3:_law_two 4:_law_three -/
def b_amixed : Sx :=
  (sSeq (sAsg 2 (eOp2 modD (eOp2 addD (eOp2 addD (eOp2 mulD (eOp2 modD (eVar 0) (eC (.int 2147483647))) (eC (.int 48271))) (eOp2 mulD (eVar 1) (eC (.int 7919)))) (eC (.int 11))) (eC (.int 2147483629))))
    (sSeq (sAsg 3 (eOp2 modD (eOp2 addD (eOp2 addD (eOp2 mulD (eVar 2) (eVar 2)) (eOp2 mulD (eOp2 mulD (eVar 1) (eVar 1)) (eC (.int 31)))) (eC (.int 5))) (eC (.int 2147483587))))
    (sSeq (sAsg 4 (eOp2 modD (eOp2 addD (eOp2 addD (eOp2 mulD (eVar 3) (eVar 3)) (eVar 2)) (eVar 1)) (eC (.int 2147483563))))
    (sRet (eOp2 addD (eOp2 mulD (eOp2 addD (eOp2 mulD (eVar 4) (eC (.int 2147483629))) (eVar 3)) (eC (.int 2147483587))) (eVar 2))))))
def d_amixed : Fn := fnP (fnB 5 b_amixed)
/-- _law_aopen: 0:_law_script -/
def b_aopen : Sx :=
  (sRet (eLstM [(eCall listD [(eSl (eVar 0) none (some (eC (.int 60))))]), (eC (.int 0)), (eC (.int 0))]))
def d_aopen : Fn := fnB 1 b_aopen
def i_adraw_1 : Sx := sIf (tVal (eOp2 neD (eOp2 ixD (eVar 0) (eC (.int 0))) (eLst []))) (sAsg 3 (eOp2 ixD (eOp2 ixD (eVar 0) (eC (.int 0))) (eOp2 modD (eVar 2) (eCall lenD [(eOp2 ixD (eVar 0) (eC (.int 0)))])))) sSkip
def i_adraw_2 : Sx := sIf (tOrX (tVal (eOp2 ltD (eVar 3) (eOp2 powD (eC (.int 10)) (eC (.int 18))))) (tVal (eOp2 geD (eVar 2) (eCall lenD [(eOp2 ixD (eVar 0) (eC (.int 0)))])))) (sSetIx (eVar 0) (eC (.int 2)) (eFn d_amixed [(eVar 3), (eVar 2)])) sSkip
def i_adraw_3 : Sx := sIf (tVal (eOp2 ltD (eOp2 ixD (eVar 0) (eC (.int 2))) (eVar 1))) (sSeq (sAsg 2 (eOp2 ixD (eVar 0) (eC (.int 1))))
    (sSeq (sAsg 3 (eOp2 mulD (eVar 2) (eC (.int 101))))
    (sSeq i_adraw_1
    (sSeq (sSetIx (eVar 0) (eC (.int 1)) (eOp2 addD (eVar 2) (eC (.int 1))))
    (sSeq (sSetIx (eVar 0) (eC (.int 2)) (eVar 3))
    i_adraw_2))))) sSkip
/-- _law_adraw: 0:_law_feed 1:_law_often 2:_law_at 3:_law_cell 4:_law_drawn -/
def b_adraw : Sx :=
  (sSeq i_adraw_3
    (sSeq (sAsg 4 (eOp2 modD (eOp2 ixD (eVar 0) (eC (.int 2))) (eVar 1)))
    (sSeq (sSetIx (eVar 0) (eC (.int 2)) (eOp2 divWD (eOp2 ixD (eVar 0) (eC (.int 2))) (eVar 1)))
    (sRet (eVar 4)))))
def d_adraw : Fn := fnB 5 b_adraw
end LF

/-! ## LFm -/
set_option Elab.async false
set_option linter.all false
set_option maxRecDepth 100000
set_option maxHeartbeats 4000000
namespace LF
open DL
local macro_rules | `(tactic| walk_at "w1") => `(tactic| with_reducible first
  | (refine ws_then ?_; try with_reducible dsimp only [List.set_cons_zero, List.set_cons_succ]) | refine ws_seq ?_ | refine ws_asg ?_ | refine ws_expr ?_ | refine ws_ret ?_ | refine ws_if ?_ | refine ws_asgT ?_ | refine ws_setIx ?_ | refine ws_skip ?_ | refine ws_retN ?_ | refine ws_brk ?_ | refine ws_cont ?_ | refine ws_thenR ?_ | refine ws_thenB ?_ | refine ws_thenC ?_ | refine fq_rt ?_ | refine fq_nx ?_ | refine un_nx ?_ | refine un_ct ?_ | refine un_bk ?_ | refine un_rt ?_ | refine ws_loopN ?_
  | (refine ws_loopC (ρ1 := ?r) ?h ?q; (case h => with_unfolding_all rfl); try with_reducible dsimp only [List.set_cons_zero, List.set_cons_succ])
  | refine wp_c ?_ | refine wp_op2 ?_ | refine wp_fn ?_ | refine wp_cons ?_ | refine wp_nil ?_ | refine wp_call ?_ | refine wp_op1 ?_
  | (refine wp_var (d := ?d) ?h ?q; (case h => with_unfolding_all rfl))
  | (refine ws_aug (d := ?d) ?h ?q; (case h => with_unfolding_all rfl))
  | refine wp_tup ?_ | refine wp_lst ?_ | refine wp_lstM ?_ | refine wp_listM ?_
  | refine wp_sl0 ?_ | refine wp_sl1 ?_ | refine wp_sl2 ?_ | refine wp_sl3 ?_
  | refine wp_tval ?_ | refine wp_tnot ?_ | refine wp_tand ?_ | refine wp_tor ?_ | refine wp_tyes ?_ | refine wp_and ?_ | refine wp_or ?_ | refine wp_not ?_ | refine wp_ifx ?_ | refine wp_chain ?_ | refine wp_meth ?_ | refine wp_meth0 ?_
  | refine wp_isi ?_ | refine wp_isis ?_ | refine wp_repr ?_ | refine wp_maxD ?_ | refine wi_rng3 ?_
  | refine wi_seq ?_ | refine wi_rng1 ?_ | refine wi_rng2 ?_ | refine wi_zip2 ?_ | refine wi_zipS ?_
  | (refine wp_fnB (ρ := ?ρ) ?he ?_; (case he => (simp only [List.map_cons, List.map_nil, List.length_cons, List.length_nil, List.replicate, List.cons_append, List.nil_append, Nat.reduceAdd, Nat.reduceSub]; rfl))))
local macro_rules | `(tactic| walk_at "w2") => `(tactic| ((with_reducible refine wo_id ?_); with_reducible first
  | refine vo_sub ?_ | refine vo_add ?_ | refine vo_lt ?_ | refine vo_le ?_ | refine vo_gt ?_ | refine vo_ge ?_ | refine vo_eq ?_ | refine vo_ne ?_ | refine vo_eqS ?_ | refine vo_neS ?_ | refine vo_eqB ?_ | refine vo_neB ?_ | refine vo_neg ?_ | refine vo_slT ?_ | refine vo_slL ?_ | refine vo_slS ?_ | refine vo_lenT ?_ | refine vo_lenL ?_ | refine vo_lenS ?_ | refine vo_revT ?_ | refine vo_revL ?_ | refine vo_min ?_ | refine vo_max ?_ | refine vo_tupL ?_ | refine vo_tupT ?_ | refine vo_lisL ?_ | refine vo_lisT ?_
  | refine vo_igAdd ?_ | refine vo_igMulR (by omega) ?_ | refine vo_igMulL (by omega) ?_ | refine vo_mod (by omega) ?_ | refine vo_div (by omega) ?_ | refine vo_mulR (by omega) ?_ | refine vo_mulL (by omega) ?_
  | refine vo_ixL0 ?_ | refine vo_ixL1 ?_ | refine vo_ixL2 ?_ | refine vo_ixL3 ?_ | refine vo_ixL4 ?_ | refine vo_ixL5 ?_ | refine vo_ixL6 ?_ | refine vo_ixT0 ?_ | refine vo_ixT1 ?_ | refine vo_ixT2 ?_ | refine vo_ixT3 ?_ | refine vo_ixT4 ?_ | refine vo_ixT5 ?_ | refine vo_ixT6 ?_
  | refine wo_vw1 (by assumption) ?_ | refine wo_vw2 (by assumption) ?_ | refine vo_vwc (by assumption) ?_
  | (refine vo_isi (c := ?c) ?h ?q; (case h => with_unfolding_all rfl)) | (refine vo_isis (c := ?c) ?h ?q; (case h => with_unfolding_all rfl))))
local macro_rules | `(tactic| walk_at "w3") => `(tactic| first
  | with_reducible refine ite_f ?_ | with_reducible refine ite_nt ?_ | with_reducible refine ite_nf ?_ | with_reducible refine ite_t ?_
  | ((with_reducible refine ex_id ?_); refine ⟨_, rfl, ?_⟩) | ((with_reducible refine and_id ?_); refine ⟨Nat.le_of_ble_eq_true rfl, ?_⟩))
local macro_rules | `(tactic| walk_at "w") => `(tactic| repeat (first | walk_at "w1" | walk_at "w2" | walk_at "w3"))

theorem pick_lt {zs : List Int} {i : Int} (h : 0 ≤ i ∧ i < zs.length) : ∃ z ∈ zs, L2.atI (zs.map D.int) i = some (.int z) := ⟨zs[i.toNat]'(by omega), List.getElem_mem _, by rw [atI_in h.1 (by rw [List.length_map]; omega), List.getElem_map]⟩
theorem wp_amixed {S : Sto} {c t : Int} (t0 : 0 ≤ t) (t1 : t ≤ 1000000000) {Q : D → Sto → Prop} {E : Px} (q : ∀ v, Q (.int v) S) : Wp (d_amixed [.int c, .int t] S) Q E := by
  refine wp_fnP rfl ?_
  unfold b_amixed
  walk_at "w"
  generalize ho : (c % 2147483647 * 48271 + t * 7919 + 11) % 2147483629 = one
  have c1 : 0 ≤ one ∧ one ≤ 2147483647 := by omega
  walk_at "w"
  generalize ho2 : (one * one + t * t * 31 + 5) % 2147483587 = two
  have c2 : 0 ≤ two ∧ two ≤ 2147483647 := by omega
  walk_at "w"
  exact ⟨rfl, q _⟩
theorem wp_adraw {S : Sto} {n : Nat} {k below : Int} {Q : D → Sto → Prop} {E : Px} (h : JarS S n k) (hk : k ≤ 900000000) (hm : 0 < below) (hb : below.natAbs < 2 ^ 140)
    (q : ∀ v S', 0 ≤ v → v < below → JarS S' n (k + 1) → Only n S S' → Q (.int v) S') : Wp (d_adraw [.ref n, .int below] S) Q E := by
  obtain ⟨cells, t, r, h0, t0, t1⟩ := h
  unfold Jar at h0
  have hll : (cells.map D.int).length = cells.length := List.length_map ..
  unfold d_adraw b_adraw
  walk_at "w1"
  refine ws_mid (fun f S1 => ∃ a b, f = .nx [some (.ref n), some (.int below), a, b, none] ∧ ∃ t' r' : Int, S1[n]? = some (some (.lst [.lst (cells.map .int), .int t', .int r'])) ∧ 0 ≤ t' ∧ t' ≤ k + 1 ∧ Only n S S1) ?_ ?_
  · unfold i_adraw_3
    walk_at "w"
    refine ite_d (fun _ => ?_) (fun _ => ?_)
    · walk_at "w"
      refine ws_midT (fun f S' => ∃ cell : Int, f = .nx [some (.ref n), some (.int below), some (.int t), some (.int cell), none] ∧ S = S') ?_ ?_
      · unfold i_adraw_1
        walk_at "w"
        refine .of (neD_of (eqD_lstI cells [])) ?_
        walk_at "w"
        refine ite_nd (fun hne => ?_) (fun _ => ?_)
        · have hl : 0 < (cells.map D.int).length := by rw [hll]; exact List.length_pos_iff.mpr hne
          walk_at "w"
          obtain ⟨z, _, hz⟩ := pick_lt (zs := cells) (i := t % ((cells.map D.int).length : Int)) ⟨Int.emod_nonneg _ (by omega), by rw [← hll]; exact Int.emod_lt_of_pos _ (by omega)⟩
          refine wo_ixL hz ?_
          walk_at "w"
          rfl
        · walk_at "w"
          rfl
      rintro f S' ⟨cell, rfl, rfl⟩
      walk_at "w"
      refine ⟨n, _, 1, 1, rfl, rfl, h0, rfl, ?_⟩
      refine set_gen h0 fun S1 h1 o1 => ?_
      have h1 : S1[n]? = some (some (.lst [.lst (cells.map .int), .int (t + 1), .int r])) := h1
      walk_at "w"
      refine ⟨n, _, 2, 2, rfl, rfl, h1, rfl, ?_⟩
      refine set_gen h1 fun S2 h2 o2 => ?_
      have h2 : S2[n]? = some (some (.lst [.lst (cells.map .int), .int (t + 1), .int cell])) := h2
      walk_at "w"
      unfold i_adraw_2
      walk_at "w"
      refine .of pow1018 ?_
      walk_at "w"
      refine ite_d (fun _ => ?_) (fun _ => ?_)
      · walk_at "w"
        refine wp_amixed t0 (by omega) fun v => ?_
        walk_at "w"
        refine ⟨n, _, 2, 2, rfl, rfl, h2, rfl, ?_⟩
        exact ⟨_, _, rfl, t + 1, v, set_at h2, by omega, by omega, (o1.trans o2).trans .set⟩
      · walk_at "w"
        refine ite_d (fun _ => ?_) (fun _ => ?_)
        · walk_at "w"
          refine wp_amixed t0 (by omega) fun v => ?_
          walk_at "w"
          refine ⟨n, _, 2, 2, rfl, rfl, h2, rfl, ?_⟩
          exact ⟨_, _, rfl, t + 1, v, set_at h2, by omega, by omega, (o1.trans o2).trans .set⟩
        · walk_at "w"
          exact ⟨_, _, rfl, t + 1, cell, h2, by omega, by omega, o1.trans o2⟩
    · walk_at "w"
      exact ⟨_, _, rfl, t, r, h0, t0, by omega, .refl⟩
  rintro f S1 ⟨a, b, rfl, t', r', h1, t0', t1', o1⟩
  walk_at "w"
  refine vo_divW 140 hm hb ?_
  walk_at "w"
  refine ⟨n, _, 2, 2, rfl, rfl, h1, rfl, ?_⟩
  refine set_gen h1 fun S2 h2 o2 => ?_
  walk_at "w"
  exact q _ S2 (Int.emod_nonneg _ (by omega)) (Int.emod_lt_of_pos _ hm) ⟨cells, t', _, h2, t0', t1'⟩ (o1.trans o2)
theorem wp_aopen {ns : List Int} (h : ns.length ≤ 63) {Q : D → Sto → Prop} {E : Px} (q : ∀ S, JarS S 0 0 → Q (.ref 0) S) : Wp (d_aopen [.scr ns] []) Q E := by
  unfold d_aopen b_aopen
  walk_at "w"
  rw [cut_map]
  walk_at "w"
  exact q _ ⟨cutL ns none (some 60), 0, 0, rfl, by omega, by omega⟩
end LF

/-! ## K48m -/
set_option Elab.async false
set_option linter.all false
set_option maxRecDepth 100000
set_option maxHeartbeats 4000000
namespace C48
open DL
/-! ### how often each piece comes -/
def cntS (a : TB) (p : Int) : TB := putI a p ((getI a p).getD 0 + 1)
def cntT (ps : List Int) : TB := ps.foldl cntS []
theorem cnt_get0 (k : Int) : ∀ (ps : List Int) (acc : TB), getI (ps.foldl cntS acc) k = if k ∈ ps then some ((getI acc k).getD 0 + (ps.count k : Nat)) else getI acc k
  | [], acc => by simp
  | p :: ps, acc => by
    rw [List.foldl_cons, cnt_get0 k ps]
    unfold cntS
    rw [getI_put]
    by_cases h : k = p
    · subst h
      by_cases h2 : k ∈ ps
      · simp [h2]; omega
      · simp [h2, List.count_eq_zero_of_not_mem h2]
    · have h' : ¬ p = k := fun z => h z.symm
      by_cases h2 : k ∈ ps
      · simp [h, h2, List.count_cons, h']
      · simp [h, h2]
theorem cnt_get (ps : List Int) (k : Int) : getI (cntT ps) k = if k ∈ ps then some ((ps.count k : Nat) : Int) else none := by
  unfold cntT
  rw [cnt_get0]
  simp [getI]
theorem cnt_len0 : ∀ (ps : List Int) (acc : TB), (ps.foldl cntS acc).length ≤ acc.length + ps.length
  | [], acc => by simp
  | p :: ps, acc => by
    rw [List.foldl_cons]
    have h1 := cnt_len0 ps (cntS acc p)
    have h2 := put_len acc p ((getI acc p).getD 0 + 1)
    unfold cntS at h1 ⊢
    simp only [List.length_cons]
    omega
theorem put_nd {l : TB} {k v : Int} (h : (l.map (·.1)).Nodup) : ((putI l k v).map (·.1)).Nodup := by
  unfold putI
  split
  · have e : (l.map fun p => if p.1 = k then (p.1, v) else p).map (·.1) = l.map (·.1) := by
      rw [List.map_map]
      apply List.map_congr_left
      intro p _
      simp only [Function.comp]
      split <;> rfl
    rw [e]; exact h
  · rename_i hn
    rw [List.map_append, List.nodup_append]
    refine ⟨h, by simp, fun a h1 b h2 e => ?_⟩
    simp at h2
    subst h2 e
    obtain ⟨p, hp, e⟩ := List.mem_map.mp h1
    exact hn (List.any_eq_true.mpr ⟨p, hp, decide_eq_true e⟩)
theorem cnt_nd0 : ∀ (ps : List Int) (acc : TB), (acc.map (·.1)).Nodup → ((ps.foldl cntS acc).map (·.1)).Nodup
  | [], acc, h => h
  | p :: ps, acc, h => cnt_nd0 ps _ (put_nd h)
theorem cnt_nd (ps : List Int) : ((cntT ps).map (·.1)).Nodup := cnt_nd0 ps [] .nil
theorem cnt_key {ps : List Int} {k : Int} : k ∈ (cntT ps).map (·.1) ↔ k ∈ ps := by
  have h1 := cnt_get ps k
  constructor
  · intro h
    obtain ⟨v, hv⟩ := getI_has h
    rw [h1] at hv
    by_cases h2 : k ∈ ps
    · exact h2
    · simp [h2] at hv
  · intro h
    rw [if_pos h] at h1
    exact List.mem_map_of_mem (f := (·.1)) (getI_mem h1)
/-- a sum over the table, each by its count -/
def wS (f : Int → Int) (l : TB) : Int := (l.map fun p => p.2 * f p.1).sum
theorem wS_put (f : Int → Int) : ∀ (l : TB) (k : Int), (l.map (·.1)).Nodup → wS f (cntS l k) = wS f l + f k
  | l, k, h => by
    unfold cntS putI
    split
    · rename_i ha
      obtain ⟨p, hp, e⟩ := List.any_eq_true.mp ha
      have e := of_decide_eq_true e
      have key : ∀ (m : TB) (v : Int), (m.map (·.1)).Nodup → getI m k = some v → wS f (m.map fun p => if p.1 = k then (p.1, v + 1) else p) = wS f m + f k := by
        intro m
        induction m with
        | nil => intro v _ hg; cases hg
        | cons q m ih =>
          intro v hn hg
          rw [List.map_cons] at hn
          have hn' := List.nodup_cons.mp hn
          by_cases hq : q.1 = k
          · have hv : q.2 = v := by simpa [getI, hq] using hg
            have hm : m.map (fun p => if p.1 = k then (p.1, v + 1) else p) = m := by
              have : ∀ p ∈ m, (if p.1 = k then (p.1, v + 1) else p) = p := fun p hp => if_neg fun z => hn'.1 (by rw [hq, ← z]; exact List.mem_map_of_mem (f := (·.1)) hp)
              conv => rhs; rw [← List.map_id m]
              exact List.map_congr_left this
            unfold wS at *
            simp only [List.map_cons, List.sum_cons, hq, if_true]
            rw [hm, hv, Int.add_mul]
            omega
          · have hg' : getI m k = some v := by simpa [getI, hq] using hg
            have := ih v hn'.2 hg'
            unfold wS at *
            simp only [List.map_cons, List.sum_cons, hq, if_false]
            omega
      have hk : k ∈ l.map (·.1) := by rw [← e]; exact List.mem_map_of_mem (f := (·.1)) hp
      obtain ⟨v, hv⟩ := getI_has hk
      rw [hv]
      exact key l v h hv
    · rename_i hn
      have hk : getI l k = none := getI_none.mpr fun z => by
        obtain ⟨p, hp, e⟩ := List.mem_map.mp z
        exact hn (List.any_eq_true.mpr ⟨p, hp, decide_eq_true e⟩)
      rw [hk]
      unfold wS
      simp
theorem wS_cnt0 (f : Int → Int) : ∀ (ps : List Int) (acc : TB), (acc.map (·.1)).Nodup → wS f (ps.foldl cntS acc) = wS f acc + (ps.map f).sum
  | [], acc, _ => by simp
  | p :: ps, acc, h => by
    rw [List.foldl_cons, wS_cnt0 f ps (cntS acc p) (put_nd h), wS_put f acc p h]
    simp only [List.map_cons, List.sum_cons]
    omega
theorem wS_cnt (f : Int → Int) (ps : List Int) : wS f (cntT ps) = (ps.map f).sum := by
  unfold cntT
  rw [wS_cnt0 f ps [] .nil]
  simp [wS]
/-! ### the shares -/
/-- in lowest terms -/
def low (t b : Nat) : Nat × Nat := (t / Nat.gcd t b, b / Nat.gcd t b)
def addF (z : Nat × Nat) (p : Nat × Nat) : Nat × Nat := low (z.1 * p.2 + p.1 * z.2) (z.2 * p.2)
def shr (ps : List (Nat × Nat)) : Nat × Nat := ps.foldl addF (0, 1)
theorem low_gcd {t b : Nat} (hb : 0 < b) : Nat.gcd (low t b).1 (low t b).2 = 1 := by
  unfold low
  rw [Nat.gcd_div (Nat.gcd_dvd_left t b) (Nat.gcd_dvd_right t b)]
  exact Nat.div_self (Nat.gcd_pos_of_pos_right t hb)
theorem low_pos {t b : Nat} (hb : 0 < b) : 0 < (low t b).2 := Nat.div_pos (Nat.gcd_le_right t hb) (Nat.gcd_pos_of_pos_right t hb)
theorem low_eq {t b : Nat} : (low t b).1 * b = (low t b).2 * t := by
  unfold low
  dsimp only
  have h1 := Nat.gcd_dvd_left t b
  have h2 := Nat.gcd_dvd_right t b
  obtain ⟨x, hx⟩ := h1
  obtain ⟨y, hy⟩ := h2
  rcases Nat.eq_zero_or_pos (Nat.gcd t b) with h | h
  · rw [h] at hx hy
    have : t = 0 := by omega
    have : b = 0 := by omega
    simp [*]
  · have e1 : t / Nat.gcd t b = x := Nat.div_eq_of_eq_mul_right h hx
    have e2 : b / Nat.gcd t b = y := Nat.div_eq_of_eq_mul_right h hy
    rw [e1, e2]
    generalize Nat.gcd t b = g at *
    subst hx hy
    rw [Nat.mul_left_comm x g y, Nat.mul_left_comm y g x, Nat.mul_comm x y]
theorem low_le {t b : Nat} : (low t b).2 ≤ b := Nat.div_le_self _ _
/-- the share of some, against a common bottom -/
theorem shr_inv {Bt : Nat} : ∀ (ps : List (Nat × Nat)) (z : Nat × Nat) (T : Nat), 0 < z.2 → Nat.gcd z.1 z.2 = 1 → z.1 * Bt = z.2 * T → (∀ p ∈ ps, 0 < p.2 ∧ p.2 ∣ Bt) →
    0 < (ps.foldl addF z).2 ∧ Nat.gcd (ps.foldl addF z).1 (ps.foldl addF z).2 = 1 ∧ (ps.foldl addF z).1 * Bt = (ps.foldl addF z).2 * (T + (ps.map fun p => p.1 * (Bt / p.2)).sum)
  | [], z, T, h1, h2, h3, _ => ⟨h1, h2, by simpa using h3⟩
  | p :: ps, z, T, h1, h2, h3, h4 => by
    obtain ⟨hp, hd⟩ := h4 p (by simp)
    have hb : 0 < z.2 * p.2 := Nat.mul_pos h1 hp
    have e := low_eq (t := z.1 * p.2 + p.1 * z.2) (b := z.2 * p.2)
    have e2 : (addF z p).1 * Bt = (addF z p).2 * (T + p.1 * (Bt / p.2)) := by
      show (low (z.1 * p.2 + p.1 * z.2) (z.2 * p.2)).1 * Bt = (low (z.1 * p.2 + p.1 * z.2) (z.2 * p.2)).2 * (T + p.1 * (Bt / p.2))
      generalize (low (z.1 * p.2 + p.1 * z.2) (z.2 * p.2)).1 = a' at *
      generalize (low (z.1 * p.2 + p.1 * z.2) (z.2 * p.2)).2 = b' at *
      obtain ⟨q, hq⟩ := hd
      have hq' : Bt / p.2 = q := Nat.div_eq_of_eq_mul_right hp hq
      rw [hq']
      apply Nat.eq_of_mul_eq_mul_left hb
      have h5 : z.2 * p.2 * (a' * Bt) = (a' * (z.2 * p.2)) * Bt := by rw [← Nat.mul_assoc, Nat.mul_comm (z.2 * p.2) a']
      rw [h5, e]
      have h6 : b' * (z.1 * p.2 + p.1 * z.2) * Bt = b' * (p.2 * (z.1 * Bt) + p.1 * z.2 * Bt) := by
        rw [Nat.mul_assoc, Nat.add_mul, Nat.mul_comm z.1 p.2, Nat.mul_assoc p.2 z.1 Bt]
      rw [h6, h3, hq]
      have h7 : p.2 * (z.2 * T) + p.1 * z.2 * (p.2 * q) = z.2 * p.2 * (T + p.1 * q) := by
        rw [Nat.mul_add]
        congr 1
        · rw [← Nat.mul_assoc, Nat.mul_comm p.2 z.2]
        · rw [Nat.mul_comm p.1 z.2, Nat.mul_assoc, Nat.mul_assoc, Nat.mul_left_comm p.1 p.2 q]
      rw [h7, Nat.mul_left_comm]
    have := shr_inv ps (addF z p) (T + p.1 * (Bt / p.2)) (low_pos hb) (low_gcd hb) e2 fun q hq => h4 q (by simp [hq])
    rw [List.foldl_cons]
    refine ⟨this.1, this.2.1, ?_⟩
    rw [this.2.2, List.map_cons, List.sum_cons, Nat.add_assoc]
theorem shr_ok {Bt : Nat} {ps : List (Nat × Nat)} (h : ∀ p ∈ ps, 0 < p.2 ∧ p.2 ∣ Bt) : 0 < (shr ps).2 ∧ Nat.gcd (shr ps).1 (shr ps).2 = 1 ∧ (shr ps).1 * Bt = (shr ps).2 * (ps.map fun p => p.1 * (Bt / p.2)).sum := by
  have := shr_inv (Bt := Bt) ps (0, 1) 0 (by decide) (by decide) (by simp) h
  simpa [shr] using this
end C48

/-! ## K48n -/
set_option Elab.async false
set_option linter.all false
set_option maxRecDepth 100000
set_option maxHeartbeats 4000000
namespace C48
open DL
theorem sum_le (ps : List (Nat × Nat × Nat)) (f g : Nat × Nat × Nat → Nat) (h : ∀ p ∈ ps, f p ≤ g p) : (ps.map f).sum ≤ (ps.map g).sum := by
  induction ps with
  | nil => simp
  | cons p ps ih =>
    simp only [List.map_cons, List.sum_cons]
    have := h p (by simp)
    have := ih fun q hq => h q (by simp [hq])
    omega
theorem sum_mulR (ps : List (Nat × Nat × Nat)) (f : Nat × Nat × Nat → Nat) (k : Nat) : (ps.map f).sum * k = (ps.map fun p => f p * k).sum := by
  induction ps with
  | nil => simp
  | cons p ps ih => simp only [List.map_cons, List.sum_cons, Nat.add_mul, ih]
/-- fewer users, greater shares -/
theorem shr_mono {Bt Bt' : Nat} (h0 : 0 < Bt) (h0' : 0 < Bt') (ps : List (Nat × Nat × Nat)) (h : ∀ p ∈ ps, (0 < p.2.1 ∧ p.2.1 ∣ Bt) ∧ (0 < p.2.2 ∧ p.2.2 ∣ Bt') ∧ p.2.2 ≤ p.2.1) :
    (shr (ps.map fun p => (p.1, p.2.1))).1 * (shr (ps.map fun p => (p.1, p.2.2))).2 ≤ (shr (ps.map fun p => (p.1, p.2.2))).1 * (shr (ps.map fun p => (p.1, p.2.1))).2 := by
  obtain ⟨p1, _, e1⟩ := shr_ok (Bt := Bt) (ps := ps.map fun p => (p.1, p.2.1)) fun q hq => by
    obtain ⟨p, hp, rfl⟩ := List.mem_map.mp hq
    exact (h p hp).1
  obtain ⟨p2, _, e2⟩ := shr_ok (Bt := Bt') (ps := ps.map fun p => (p.1, p.2.2)) fun q hq => by
    obtain ⟨p, hp, rfl⟩ := List.mem_map.mp hq
    exact (h p hp).2.1
  rw [List.map_map] at e1 e2
  have hT : (ps.map ((fun p => p.1 * (Bt / p.2)) ∘ fun p => (p.1, p.2.1))).sum * Bt' ≤ (ps.map ((fun p => p.1 * (Bt' / p.2)) ∘ fun p => (p.1, p.2.2))).sum * Bt := by
    rw [sum_mulR, sum_mulR]
    refine sum_le ps _ _ fun p hp => ?_
    obtain ⟨⟨c0, q, hq⟩, ⟨c0', q', hq'⟩, hc⟩ := h p hp
    simp only [Function.comp]
    have d1 : Bt / p.2.1 = q := Nat.div_eq_of_eq_mul_right c0 hq
    have d2 : Bt' / p.2.2 = q' := Nat.div_eq_of_eq_mul_right c0' hq'
    rw [d1, d2, hq, hq']
    have e3 : p.1 * q * (p.2.2 * q') = p.2.2 * (p.1 * q * q') := by rw [Nat.mul_left_comm]
    have e4 : p.1 * q' * (p.2.1 * q) = p.2.1 * (p.1 * q * q') := by rw [Nat.mul_left_comm, Nat.mul_assoc p.1 q' q, Nat.mul_assoc p.1 q q', Nat.mul_comm q' q]
    rw [e3, e4]
    exact Nat.mul_le_mul_right _ hc
  generalize (ps.map ((fun p => p.1 * (Bt / p.2)) ∘ fun p => (p.1, p.2.1))).sum = T at *
  generalize (ps.map ((fun p => p.1 * (Bt' / p.2)) ∘ fun p => (p.1, p.2.2))).sum = T' at *
  generalize shr (ps.map fun p => (p.1, p.2.1)) = x at *
  generalize shr (ps.map fun p => (p.1, p.2.2)) = y at *
  have hB : 0 < Bt * Bt' := Nat.mul_pos h0 h0'
  refine Nat.le_of_mul_le_mul_left ?_ hB
  have l1 : Bt * Bt' * (x.1 * y.2) = x.2 * y.2 * (T * Bt') := by
    have : Bt * Bt' * (x.1 * y.2) = (x.1 * Bt) * (y.2 * Bt') := by rw [Nat.mul_mul_mul_comm, Nat.mul_comm Bt x.1, Nat.mul_comm Bt' y.2]
    rw [this, e1, Nat.mul_mul_mul_comm]
  have l2 : Bt * Bt' * (y.1 * x.2) = x.2 * y.2 * (T' * Bt) := by
    have : Bt * Bt' * (y.1 * x.2) = (y.1 * Bt') * (x.2 * Bt) := by rw [Nat.mul_comm Bt Bt', Nat.mul_mul_mul_comm, Nat.mul_comm Bt' y.1, Nat.mul_comm Bt x.2]
    rw [this, e2, Nat.mul_mul_mul_comm, Nat.mul_comm y.2 x.2]
  rw [l1, l2]
  exact Nat.mul_le_mul_left _ hT
/-! ### the common bottom -/
def botN (l : List Nat) : Nat := l.foldl (· * ·) 1
theorem bot_mul : ∀ (l : List Nat) (a : Nat), l.foldl (· * ·) a = a * botN l
  | [], a => by simp [botN]
  | x :: l, a => by
    unfold botN
    rw [List.foldl_cons, List.foldl_cons, bot_mul l (a * x), bot_mul l (1 * x), Nat.one_mul, Nat.mul_assoc]
theorem bot_cons (x : Nat) (l : List Nat) : botN (x :: l) = x * botN l := by
  show List.foldl (· * ·) (1 * x) l = _
  rw [bot_mul, Nat.one_mul]
theorem bot_pos : ∀ {l : List Nat}, (∀ x ∈ l, 0 < x) → 0 < botN l
  | [], _ => by simp [botN]
  | x :: l, h => by
    rw [bot_cons]
    exact Nat.mul_pos (h x (by simp)) (bot_pos fun y hy => h y (by simp [hy]))
theorem bot_dvd : ∀ {l : List Nat} {x : Nat}, x ∈ l → x ∣ botN l
  | [], x, h => by simp at h
  | y :: l, x, h => by
    rw [bot_cons]
    rcases List.mem_cons.mp h with rfl | h
    · exact Nat.dvd_mul_right _ _
    · exact Nat.dvd_mul_left_of_dvd (bot_dvd h) _
theorem bot_le : ∀ {l : List Nat} {k : Nat}, 1 ≤ k → (∀ x ∈ l, x ≤ k) → botN l ≤ k ^ l.length
  | [], k, _, _ => by simp [botN]
  | x :: l, k, hk, h => by
    rw [bot_cons, List.length_cons, Nat.pow_succ, Nat.mul_comm]
    exact Nat.mul_le_mul (bot_le hk fun y hy => h y (by simp [hy])) (h x (by simp))
/-- all the parts together are the whole -/
theorem tops_sum {Bt : Nat} (s : Int → Nat) (ps : List Int) (h : ∀ p ∈ ps, ps.count p ∣ Bt) : (ps.map fun p => ((s p * (Bt / ps.count p) : Nat) : Int)).sum = (((cntT ps).map fun p => (s p.1 : Int)).sum) * (Bt : Int) := by
  rw [← wS_cnt]
  unfold wS
  have key : ∀ l : TB, (∀ q ∈ l, q ∈ cntT ps) → (l.map fun p => p.2 * ((s p.1 * (Bt / ps.count p.1) : Nat) : Int)).sum = ((l.map fun p => (s p.1 : Int)).sum) * (Bt : Int) := by
    intro l
    induction l with
    | nil => intro _; simp
    | cons q l ih =>
      intro hq
      simp only [List.map_cons, List.sum_cons, Int.add_mul]
      rw [ih fun x hx => hq x (by simp [hx])]
      congr 1
      have h1 := hq q (by simp)
      have hk : q.1 ∈ ps := cnt_key.mp (List.mem_map_of_mem (f := (·.1)) h1)
      have hv : q.2 = (ps.count q.1 : Nat) := by
        have nd := cnt_nd ps
        have hg : ∀ (m : TB), (m.map (·.1)).Nodup → q ∈ m → getI m q.1 = some q.2 := by
          intro m
          induction m with
          | nil => intro _ h; simp at h
          | cons r m ih2 =>
            intro hn hm
            rw [List.map_cons] at hn
            have hn' := List.nodup_cons.mp hn
            rcases List.mem_cons.mp hm with rfl | hm
            · simp [getI]
            · have : ¬ r.1 = q.1 := fun z => hn'.1 (by rw [z]; exact List.mem_map_of_mem (f := (·.1)) hm)
              simp only [getI, this, if_false]
              exact ih2 hn'.2 hm
        have := hg _ nd h1
        rw [cnt_get, if_pos hk] at this
        exact (Option.some.inj this).symm
      rw [hv]
      obtain ⟨c, hc⟩ := h q.1 hk
      have hp : 0 < ps.count q.1 := List.count_pos_iff.mpr hk
      have hd : Bt / ps.count q.1 = c := Nat.div_eq_of_eq_mul_right hp hc
      rw [hd, hc]
      push_cast
      rw [Int.mul_left_comm]
  exact key _ fun q hq => hq
end C48

/-! ## K48d -/
set_option Elab.async false
set_option linter.all false
set_option maxRecDepth 100000
set_option maxHeartbeats 4000000
namespace C48
open PySem PySem.Spec PyProof.Rows L2 DL
def lb_due_1 : Sx := (sSetIx (eVar 2) (eVar 4) (eOp2 addD (eGet2 (eVar 2) (eVar 4) (eC (.int 0))) (eC (.int 1))))
def l_due_1 : Sx := sFor (iSeq (eOp2 ixD (eVar 0) (eVar 3))) (.nm 4) lb_due_1
def lb_due_2 : Sx := l_due_1
def l_due_2 : Sx := sFor (iSeq (eVar 0)) (.nm 3) lb_due_2
def lb_due_3 : Sx := (sAsg 5 (eOp2 mulD (eVar 5) (eOp2 ixD (eVar 2) (eVar 4))))
def l_due_3 : Sx := sFor (iSeq (eCall sortD [(eVar 2)])) (.nm 4) lb_due_3
def ce_due_1 : Ex := (eOp2 divD (eOp2 mulD (eOp2 ixD (eVar 1) (eVar 4)) (eVar 5)) (eOp2 ixD (eVar 2) (eVar 4)))
def c_due_1 : Ex := eComp (iSeq (eOp2 ixD (eVar 0) (eVar 3))) (.nm 4) tYesX ce_due_1 [4]
def lb_due_4 : Sx := (sSetIx (eVar 6) (eVar 3) (eCall sumD [c_due_1]))
def l_due_4 : Sx := sFor (iSeq (eVar 0)) (.nm 3) lb_due_4
def ce_due_2 : Ex := (eOp2 ixD (eVar 1) (eVar 4))
def c_due_2 : Ex := eComp (iSeq (eVar 2)) (.nm 4) tYesX ce_due_2 [4]
/-- _law_due: 0:_law_needs 1:_law_sizes 2:_law_counts 3:_law_moment 4:_law_piece 5:_law_bottom 6:_law_found -/
def b_due : Sx :=
  (sSeq (sAsg 2 eDNew)
    (sSeq l_due_2
    (sSeq (sFrz 2 (sAsg 5 (eC (.int 1))))
    (sSeq l_due_3
    (sSeq (sAsg 6 eDNew)
    (sSeq l_due_4
    (sFrz 6 (sRet (eTup [(eVar 6), (eVar 5), (eCall sumD [c_due_2])])))))))))
def d_due : Fn := fnP (fnB 7 b_due)
def lb_lowest_1 : Sx := (sPar 2 3 [(eVar 3), (eOp2 modD (eVar 2) (eVar 3))])
def lt_lowest_1 : Tx := (tVal (eOp2 gtD (eVar 3) (eC (.int 0))))
def l_lowest_1 : Sx := fun ρ S => whileS 1099511627776 lt_lowest_1 lb_lowest_1 ρ S
/-- lowest: 0:top 1:bottom 2:one 3:other -/
def b_lowest : Sx :=
  (sSeq (sPar 2 3 [(eVar 0), (eVar 1)])
    (sSeq l_lowest_1
    (sRet (eTup [(eOp2 divD (eVar 0) (eVar 2)), (eOp2 divD (eVar 1) (eVar 2))]))))
def d_lowest : Fn := fnP (fnB 4 b_lowest)
/-- together: 0:one 1:other -/
def b_together : Sx :=
  (sRet (eFn d_lowest [(eOp2 addD (eOp2 mulD (eOp2 ixD (eVar 0) (eC (.int 0))) (eOp2 ixD (eVar 1) (eC (.int 1)))) (eOp2 mulD (eOp2 ixD (eVar 1) (eC (.int 0))) (eOp2 ixD (eVar 0) (eC (.int 1))))), (eOp2 mulD (eOp2 ixD (eVar 0) (eC (.int 1))) (eOp2 ixD (eVar 1) (eC (.int 1))))]))
def d_together : Fn := fnP (fnB 2 b_together)
def lb_shared_1 : Sx := (sSetIx (eVar 2) (eVar 4) (eOp2 addD (eGet2 (eVar 2) (eVar 4) (eC (.int 0))) (eC (.int 1))))
def l_shared_1 : Sx := sFor (iSeq (eVar 3)) (.nm 4) lb_shared_1
def lb_shared_2 : Sx := l_shared_1
def l_shared_2 : Sx := sFor (iVals (eVar 0)) (.nm 3) lb_shared_2
def lb_shared_3 : Sx := (sAsg 7 (eFn d_together [(eVar 7), (eTup [(eOp2 ixD (eVar 1) (eVar 4)), (eOp2 ixD (eVar 2) (eVar 4))])]))
def l_shared_3 : Sx := sFor (iSeq (eVar 3)) (.nm 4) lb_shared_3
def lb_shared_4 : Sx := (sSeq (sAsg 7 (eTup [(eC (.int 0)), (eC (.int 1))]))
    (sSeq l_shared_3
    (sSetIx (eVar 5) (eVar 6) (eVar 7))))
def l_shared_4 : Sx := sFor (iItems (eVar 0)) (.tp [(.nm 6), (.nm 3)]) lb_shared_4
/-- shared: 0:needs 1:sizes 2:users 3:some 4:piece 5:found 6:moment 7:share -/
def b_shared : Sx :=
  (sSeq (sAsg 2 eDNew)
    (sSeq l_shared_2
    (sSeq (sFrz 2 (sAsg 5 eDNew))
    (sSeq l_shared_4
    (sRet (eVar 5))))))
def d_shared : Fn := fnB 8 b_shared
def ce_is_lowest_1 : Ex := (eIsi .int (eVar 3))
def c_is_lowest_1 : Ex := eComp (iSeq (eVar 0)) (.nm 3) tYesX ce_is_lowest_1 [3]
def i_is_lowest_1 : Sx := sIf (tOrX (tNotX (tVal (eIsi .tuple (eVar 0)))) (tOrX (tVal (eOp2 neD (eCall lenD [(eVar 0)]) (eC (.int 2)))) (tNotX (tVal (eCall allD [c_is_lowest_1]))))) (sRet (eC (.bl false))) sSkip
def lb_is_lowest_1 : Sx := (sPar 1 2 [(eVar 2), (eOp2 modD (eVar 1) (eVar 2))])
def lt_is_lowest_1 : Tx := (tVal (eOp2 gtD (eVar 2) (eC (.int 0))))
def l_is_lowest_1 : Sx := fun ρ S => whileS 1099511627776 lt_is_lowest_1 lb_is_lowest_1 ρ S
/-- _law_is_lowest: 0:_law_pair 1:_law_one 2:_law_other 3:_law_part -/
def b_is_lowest : Sx :=
  (sSeq i_is_lowest_1
    (sSeq (sAsgT (.tp [(.nm 1), (.nm 2)]) (eVar 0))
    (sSeq l_is_lowest_1
    (sRet (eAndX (eOp2 eqD (eVar 1) (eC (.int 1))) (eAndX (eOp2 gtD (eOp2 ixD (eVar 0) (eC (.int 1))) (eC (.int 0))) (eAndX (eNotX (eIsi .bool (eOp2 ixD (eVar 0) (eC (.int 0))))) (eNotX (eIsi .bool (eOp2 ixD (eVar 0) (eC (.int 1))))))))))))
def d_is_lowest : Fn := fnP (fnB 4 b_is_lowest)
def i_right_1 : Sx := sIf (tOrX (tNotX (tVal (eIsi .dict (eVar 6)))) (tVal (eOp2 neD (eCall sortD [(eVar 6)]) (eCall sortD [(eVar 0)])))) (sRet (eC (.bl false))) sSkip
def i_right_2 : Sx := sIf (tOrX (tNotX (tVal (eFn d_is_lowest [(eOp2 ixD (eVar 6) (eVar 7))]))) (tVal (eOp2 neD (eOp2 mulD (eOp2 ixD (eOp2 ixD (eVar 6) (eVar 7)) (eC (.int 0))) (eVar 4)) (eOp2 mulD (eOp2 ixD (eVar 3) (eVar 7)) (eOp2 ixD (eOp2 ixD (eVar 6) (eVar 7)) (eC (.int 1))))))) (sRet (eC (.bl false))) sSkip
def lb_right_1 : Sx := i_right_2
def l_right_1 : Sx := sFor (iSeq (eVar 0)) (.nm 7) lb_right_1
/-- _law_right: 0:_law_needs 1:_law_sizes 2:_law_shown 3:_law_tops 4:_law_bottom 5:_law_whole 6:_law_found 7:_law_moment -/
def b_right : Sx :=
  (sSeq (sAsg 2 (eReprQ (eLst [(eVar 0), (eVar 1)])))
    (sSeq (sAsgT (.tp [(.nm 3), (.nm 4), (.nm 5)]) (eFn d_due [(eVar 0), (eVar 1)]))
    (sSeq (sAsg 6 (eFn d_shared [(eVar 0), (eVar 1)]))
    (sSeq i_right_1
    (sSeq l_right_1
    (sSeq (sExpr (eDClr (eVar 6)))
    (sRet (eAndX (eOp2 eqD (eSumV (eVar 3)) (eOp2 mulD (eVar 5) (eVar 4))) (eOp2 eqD (eReprQ (eLst [(eVar 0), (eVar 1)])) (eVar 2))))))))))
def d_right : Fn := fnP (fnB 8 b_right)
def lb_law_1 : Sx := (sSeq (sAsg 5 (eOp2 ixD (eLst [(eFn LF.d_adraw [(eVar 1), (eC (.int 61))]), (eC (.int 0)), (eC (.int 1)), (eFn LF.d_adraw [(eVar 1), (eOp2 powD (eC (.int 10)) (eC (.int 30)))])]) (eFn LF.d_adraw [(eVar 1), (eC (.int 4))])))
    (sSetIx (eVar 3) (eOp2 mulD (eVar 4) (eOp2 ixD (eLst [(eC (.int 1)), (eC (.int 7)), (eOp2 powD (eC (.int 10)) (eC (.int 30)))]) (eOp2 modD (eVar 2) (eC (.int 3))))) (eVar 5)))
def l_law_1 : Sx := sFor (iRng1X (eC (.int 8))) (.nm 4) lb_law_1
def i_law_1 : Sx := sIf (tVal (eOp2 eqD (eOp2 modD (eVar 2) (eC (.int 2))) (eC (.int 1)))) (sAsg 3 (eDictM (eOp1 revD (eItemsL (eVar 3))))) sSkip
def ce_law_1 : Ex := (eVar 4)
def ct_law_1 : Tx := (tVal (eOp2 eqD (eFn LF.d_adraw [(eVar 1), (eC (.int 2))]) (eC (.int 0))))
def c_law_1 : Ex := eComp (iSeq (eVar 6)) (.nm 4) ct_law_1 ce_law_1 [4]
def i_law_2 : Sx := sIf (tAndX (tVal (eOp2 neDE (eVar 7) eDNew)) (tVal (eOp2 eqD (eFn LF.d_adraw [(eVar 1), (eC (.int 4))]) (eC (.int 0))))) (sAsg 9 (eCall listD [(eOp2 ixD (eVar 7) (eOp2 ixD (eCall sortD [(eVar 7)]) (eC (.int 0))))])) sSkip
def lb_law_2 : Sx := (sSeq (sAsg 9 c_law_1)
    (sSeq i_law_2
    (sSetIx (eVar 7) (eFn LF.d_adraw [(eVar 1), (eOp2 powD (eC (.int 10)) (eC (.int 6)))]) (eCall tupleD [(eVar 9)]))))
def l_law_2 : Sx := sFor (iRng1X (eFn LF.d_adraw [(eVar 1), (eOp2 ixD (eLst [(eC (.int 7)), (eC (.int 16))]) (eOp2 modD (eVar 2) (eC (.int 2))))])) (.nm 8) lb_law_2
def i_law_3 : Sx := sIf (tNotX (tVal (eFn d_right [(eVar 7), (eVar 3)]))) (sRet (eC (.bl false))) sSkip
def i_law_4 : Sx := sIf (tAndX (tVal (eOp2 eqD (eOp2 ixD (eVar 7) (eVar 11)) (eOp2 ixD (eVar 7) (eVar 12)))) (tVal (eOp2 neD (eOp2 ixD (eVar 10) (eVar 11)) (eOp2 ixD (eVar 10) (eVar 12))))) (sRet (eC (.bl false))) sSkip
def lb_law_3 : Sx := i_law_4
def l_law_3 : Sx := sFor (iSeq (eCall sortD [(eVar 7)])) (.nm 12) lb_law_3
def lb_law_4 : Sx := l_law_3
def l_law_4 : Sx := sFor (iSeq (eCall sortD [(eVar 7)])) (.nm 11) lb_law_4
def ce_law_2 : Ex := (eTup [(eVar 12), (eOp2 ixD (eVar 7) (eVar 12))])
def ct_law_2 : Tx := (tVal (eOp2 neD (eVar 12) (eVar 11)))
def c_law_2 : Ex := eComp (iSeq (eVar 7)) (.nm 12) ct_law_2 ce_law_2 [12]
def i_law_5 : Sx := sIf (tVal (eOp2 ltD (eOp2 mulD (eOp2 ixD (eVar 15) (eC (.int 0))) (eOp2 ixD (eVar 16) (eC (.int 1)))) (eOp2 mulD (eOp2 ixD (eVar 16) (eC (.int 0))) (eOp2 ixD (eVar 15) (eC (.int 1)))))) (sRet (eC (.bl false))) sSkip
def lb_law_5 : Sx := (sSeq (sPar 15 16 [(eOp2 ixD (eVar 14) (eVar 12)), (eOp2 ixD (eVar 10) (eVar 12))])
    i_law_5)
def l_law_5 : Sx := sFor (iSeq (eVar 13)) (.nm 12) lb_law_5
def lb_law_6 : Sx := (sSeq (sAsg 13 (eDictM c_law_2))
    (sSeq (sFrz 13 (sAsg 14 (eFn d_shared [(eVar 13), (eVar 3)])))
    l_law_5))
def l_law_6 : Sx := sFor (iSeq (eSl (eCall sortD [(eVar 7)]) none (some (eC (.int 2))))) (.nm 11) lb_law_6
def lb_law_7 : Sx := (sSeq (sAsg 3 eDNew)
    (sSeq l_law_1
    (sSeq i_law_1
    (sSeq (sFrz 3 (sAsg 6 (eCall sortD [(eVar 3)])))
    (sSeq (sAsg 7 eDNew)
    (sSeq l_law_2
    (sSeq (sFrz 7 i_law_3)
    (sSeq (sAsg 10 (eFn d_shared [(eVar 7), (eVar 3)]))
    (sSeq l_law_4
    l_law_6)))))))))
def l_law_7 : Sx := sFor (iRng1X (eC (.int 4))) (.nm 2) lb_law_7
/-- law: 0:_law_script 1:_law_feed 2:_law_turn 3:_law_sizes 4:_law_piece 5:_law_size 6:_law_pool 7:_law_needs 8:_law_k 9:_law_some 10:_law_found 11:_law_moment 12:_law_other 13:_law_rest 14:_law_less 15:_law_one 16:_law_two -/
def b_law : Sx :=
  (sSeq (sAsg 1 (eFn LF.d_aopen [(eVar 0)]))
    (sSeq l_law_7
    (sRet (eAndX (eOp2 eqKD (eFn d_shared [(eFrz eDNew), (eFrz eDNew)]) eDNew) (eOp2 eqKD (eFn d_shared [(eFrz (eDisp [((eC (.int 3)), (eTup []))])), (eFrz (eDisp [((eC (.int 0)), (eC (.int 5)))]))]) (eDisp [((eC (.int 3)), (eTup [(eC (.int 0)), (eC (.int 1))]))]))))))
def d_law : Fn := fnB 17 b_law
end C48

/-! ## K48q -/
set_option Elab.async false
set_option linter.all false
set_option maxRecDepth 100000
set_option maxHeartbeats 4000000
namespace C48
open DL LF
local macro_rules | `(tactic| walk_at "w1") => `(tactic| with_reducible first
  | (refine ws_then ?_; try with_reducible dsimp only [List.set_cons_zero, List.set_cons_succ]) | refine ws_seq ?_ | refine ws_asg ?_ | refine ws_expr ?_ | refine ws_ret ?_ | refine ws_if ?_ | refine ws_asgT ?_ | refine ws_skip ?_ | refine ws_retN ?_ | refine ws_brk ?_ | refine ws_cont ?_ | refine ws_thenR ?_ | refine ws_thenB ?_ | refine ws_thenC ?_ | refine fq_rt ?_ | refine fq_nx ?_ | refine un_nx ?_ | refine un_ct ?_ | refine un_bk ?_ | refine un_rt ?_ | refine ws_loopN ?_
  | (refine ws_loopC (ρ1 := ?r) ?h ?q; (case h => with_unfolding_all rfl); try with_reducible dsimp only [List.set_cons_zero, List.set_cons_succ])
  | refine wp_c ?_ | refine wp_op2 ?_ | refine wp_fn ?_ | refine wp_cons ?_ | refine wp_nil ?_ | refine wp_call ?_ | refine wp_op1 ?_
  | (refine wp_var (d := ?d) ?h ?q; (case h => with_unfolding_all rfl))
  | (refine ws_aug (d := ?d) ?h ?q; (case h => with_unfolding_all rfl))
  | refine wp_tup ?_ | refine wp_lst ?_ | refine wp_lstM ?_ | refine wp_listM ?_
  | refine wp_sl0 ?_ | refine wp_sl1 ?_ | refine wp_sl2 ?_ | refine wp_sl3 ?_
  | refine wp_tval ?_ | refine wp_tnot ?_ | refine wp_tand ?_ | refine wp_tor ?_ | refine wp_tyes ?_ | refine wp_and ?_ | refine wp_or ?_ | refine wp_not ?_ | refine wp_ifx ?_ | refine wp_chain ?_ | refine wp_meth ?_ | refine wp_meth0 ?_
  | refine wp_isi ?_ | refine wp_isis ?_ | refine wp_repr ?_ | refine wp_maxD ?_ | refine wi_rng3 ?_
  | refine ws_par ?_ | refine wp_dnew ?_ | refine wp_get2 ?_ | refine wp_reprQ ?_ | refine wp_fnK ?_ | refine wi_valsI ?_ | refine wi_itemsI ?_ | refine ws_augI ?_
  | refine wi_seq ?_ | refine wi_rng1 ?_ | refine wi_rng2 ?_ | refine wi_zip2 ?_ | refine wi_zipS ?_
  | (refine wp_fnB (ρ := ?ρ) ?he ?_; (case he => (simp only [List.map_cons, List.map_nil, List.length_cons, List.length_nil, List.replicate, List.cons_append, List.nil_append, Nat.reduceAdd, Nat.reduceSub]; rfl))))
local macro_rules | `(tactic| walk_at "w2") => `(tactic| ((with_reducible refine wo_id ?_); with_reducible first
  | refine vo_sub ?_ | refine vo_add ?_ | refine vo_lt ?_ | refine vo_le ?_ | refine vo_gt ?_ | refine vo_ge ?_ | refine vo_eq ?_ | refine vo_ne ?_ | refine vo_eqS ?_ | refine vo_neS ?_ | refine vo_eqB ?_ | refine vo_neB ?_ | refine vo_neg ?_ | refine vo_slT ?_ | refine vo_slL ?_ | refine vo_slS ?_ | refine vo_lenT ?_ | refine vo_lenL ?_ | refine vo_lenS ?_ | refine vo_revT ?_ | refine vo_revL ?_ | refine vo_min ?_ | refine vo_max ?_ | refine vo_tupL ?_ | refine vo_tupT ?_ | refine vo_lisL ?_ | refine vo_lisT ?_
  | refine vo_igAdd ?_ | refine vo_igMulR (by omega) ?_ | refine vo_igMulL (by omega) ?_ | refine vo_mod (by omega) ?_ | refine vo_div (by omega) ?_ | refine vo_mulR (by omega) ?_ | refine vo_mulL (by omega) ?_
  | refine vo_ixL0 ?_ | refine vo_ixL1 ?_ | refine vo_ixL2 ?_ | refine vo_ixL3 ?_ | refine vo_ixL4 ?_ | refine vo_ixL5 ?_ | refine vo_ixL6 ?_ | refine vo_ixT0 ?_ | refine vo_ixT1 ?_ | refine vo_ixT2 ?_ | refine vo_ixT3 ?_ | refine vo_ixT4 ?_ | refine vo_ixT5 ?_ | refine vo_ixT6 ?_
  | refine vo_inT ?_ | refine vo_ninT ?_ | refine vo_inL ?_ | refine vo_ninL ?_ | refine vo_inI ?_ | refine vo_ninI ?_ | refine vo_sortI (by first | assumption | omega) ?_ | refine vo_sortL ?_ | refine vo_lenI ?_ | refine vo_lt3 ?_ | refine vo_isNN ?_ | refine vo_is3N ?_ | refine vo_isTN ?_ | refine vo_isIN ?_ | refine vo_igAddI ?_ | refine vo_ixI (by assumption) ?_
  | refine vo_vwD1 (by assumption) ?_ | refine vo_vwDc (by assumption) ?_
  | refine wo_vw1 (by assumption) ?_ | refine wo_vw2 (by assumption) ?_ | refine vo_vwc (by assumption) ?_
  | (refine vo_isi (c := ?c) ?h ?q; (case h => with_unfolding_all rfl)) | (refine vo_isis (c := ?c) ?h ?q; (case h => with_unfolding_all rfl))))
local macro_rules | `(tactic| walk_at "w3") => `(tactic| first
  | with_reducible refine ite_f ?_ | with_reducible refine ite_nt ?_ | with_reducible refine ite_nf ?_ | with_reducible refine ite_t ?_
  | ((with_reducible refine ex_id ?_); refine ⟨_, rfl, ?_⟩) | ((with_reducible refine and_id ?_); refine ⟨Nat.le_of_ble_eq_true rfl, ?_⟩))
local macro_rules | `(tactic| walk_at "w") => `(tactic| repeat (first | walk_at "w1" | walk_at "w2" | walk_at "w3"))

def fD (z : Nat × Nat) : D := .tup [.int z.1, .int z.2]
theorem wp_lowest {S : Sto} {t b : Nat} {Q : D → Sto → Prop} {E : Px} (hb : 0 < b) (hb2 : b < 1073741824) (q : Q (fD (low t b)) S) : Wp (d_lowest [.int t, .int b] S) Q E := by
  refine wp_fnP (by simp [noRefs, noRef]) ?_
  unfold b_lowest
  walk_at "w"
  refine ⟨_, _, rfl, ?_⟩
  walk_at "w"
  unfold l_lowest_1
  refine ws_while (ρ := [some (.int t), some (.int b), some (.int t), some (.int b)]) [2, 3] (fun m vs S' => ∃ x y : Nat, vs = [some (.int x), some (.int y)] ∧ Nat.gcd x y = Nat.gcd t b ∧ y = m) b [some (.int t), some (.int b)] (by omega) rfl rfl ⟨t, b, rfl, rfl, rfl⟩ ?_
  rintro m vs S' hv ⟨x, y, rfl, hg, rfl⟩
  dsimp only [putAll, List.set_cons_zero, List.set_cons_succ]
  unfold lt_lowest_1
  walk_at "w"
  refine ite_d (fun hy => ?_) (fun hy => ?_)
  · unfold lb_lowest_1
    walk_at "w"
    refine ⟨_, _, rfl, ?_⟩
    refine ⟨[some (.int y), some (.int ((x % y : Nat) : Int))], rfl, rfl, x % y, Nat.mod_lt _ (by omega), y, x % y, rfl, ?_, rfl⟩
    rw [← hg, Nat.gcd_comm x y, Nat.gcd_rec y x, Nat.gcd_comm]
  · have hy0 : y = 0 := by omega
    subst hy0
    rw [Nat.gcd_zero_right] at hg
    have hx : 0 < x := by rw [hg]; exact Nat.gcd_pos_of_pos_right t hb
    have hx2 : x ≤ b := by rw [hg]; exact Nat.gcd_le_right t hb
    walk_at "w"
    refine ⟨rfl, ?_⟩
    have e : D.tup [.int ((t : Int) / (x : Int)), .int ((b : Int) / (x : Int))] = fD (low t b) := by
      unfold fD low
      rw [hg]
      rfl
    rw [e]
    exact q
theorem wp_together {S : Sto} {z p : Nat × Nat} {Q : D → Sto → Prop} {E : Px} (hz : 0 < z.2) (hp : 0 < p.2) (h2 : z.2 ≤ 720720) (h3 : p.2 ≤ 16) (q : Q (fD (addF z p)) S) : Wp (d_together [fD z, fD p] S) Q E := by
  refine wp_fnP (by simp [noRefs, noRef, fD]) ?_
  unfold b_together fD
  walk_at "w"
  have hb : z.2 * p.2 ≤ 720720 * 16 := Nat.mul_le_mul h2 h3
  have hb0 : 0 < z.2 * p.2 := Nat.mul_pos hz hp
  have e : ∀ T, Wp (d_lowest [.int ((z.1 : Int) * (p.2 : Int) + (p.1 : Int) * (z.2 : Int)), .int ((z.2 : Int) * (p.2 : Int))] T) (fun d _ => noRef d = true ∧ Q d S) (fun c p _ => noRef p = true ∧ E c p S) := fun T => by
    have e1 : ((z.1 : Int) * (p.2 : Int) + (p.1 : Int) * (z.2 : Int)) = ((z.1 * p.2 + p.1 * z.2 : Nat) : Int) := by push_cast; rfl
    have e2 : ((z.2 : Int) * (p.2 : Int)) = ((z.2 * p.2 : Nat) : Int) := by push_cast; rfl
    rw [e1, e2]
    exact wp_lowest hb0 (by omega) ⟨rfl, q⟩
  exact e _
theorem wp_is_lowest {S : Sto} {z : Nat × Nat} {Q : D → Sto → Prop} {E : Px} (hz : 0 < z.2) (h2 : z.2 ≤ 720720) (hg : Nat.gcd z.1 z.2 = 1) (q : Q (.bl true) S) : Wp (d_is_lowest [fD z] S) Q E := by
  refine wp_fnP (by simp [noRefs, noRef, fD]) ?_
  unfold b_is_lowest fD
  walk_at "w"
  unfold i_is_lowest_1
  walk_at "w"
  refine ite_nd (fun h => absurd rfl h) (fun _ => ?_)
  walk_at "w"
  unfold c_is_lowest_1
  refine wp_comp_map [(z.1 : Int), (z.2 : Int)] D.int (fun _ => true) (fun _ => .bl true) (by simp) ?_
  walk_at "w"
  refine ⟨_, Or.inl rfl, rfl, fun x hx => ⟨_, rfl, ?_, fun _ => ?_⟩, ?_⟩
  · walk_at "w"
    exact ⟨rfl, rfl⟩
  · unfold ce_is_lowest_1
    walk_at "w"
    exact ⟨rfl, rfl⟩
  walk_at "w"
  refine .of (d := .bl true) rfl ?_
  walk_at "w"
  unfold l_is_lowest_1
  refine ws_while (ρ := [some (.tup [.int z.1, .int z.2]), some (.int z.1), some (.int z.2), none]) [1, 2] (fun m vs S' => ∃ x y : Nat, vs = [some (.int x), some (.int y)] ∧ Nat.gcd x y = 1 ∧ y = m) z.2 [some (.int z.1), some (.int z.2)] (by omega) rfl rfl ⟨z.1, z.2, rfl, hg, rfl⟩ ?_
  rintro m vs S' hv ⟨x, y, rfl, hg, rfl⟩
  dsimp only [putAll, List.set_cons_zero, List.set_cons_succ]
  unfold lt_is_lowest_1
  walk_at "w"
  refine ite_d (fun hy => ?_) (fun hy => ?_)
  · unfold lb_is_lowest_1
    walk_at "w"
    refine ⟨_, _, rfl, ?_⟩
    refine ⟨[some (.int y), some (.int ((x % y : Nat) : Int))], rfl, rfl, x % y, Nat.mod_lt _ (by omega), y, x % y, rfl, ?_, rfl⟩
    rw [← hg, Nat.gcd_comm x y, Nat.gcd_rec y x, Nat.gcd_comm]
  · have hy0 : y = 0 := by omega
    subst hy0
    rw [Nat.gcd_zero_right] at hg
    subst hg
    walk_at "w"
    refine ite_d (fun _ => ?_) (fun h => absurd rfl h)
    walk_at "w"
    refine ite_d (fun _ => ?_) (fun h => absurd (show (0 : Int) < (z.2 : Int) by omega) h)
    walk_at "w"
    exact ⟨rfl, q⟩
end C48

/-! ## K48r -/
set_option Elab.async false
set_option linter.all false
set_option maxRecDepth 100000
set_option maxHeartbeats 4000000
namespace C48
open DL LF
local macro_rules | `(tactic| walk_at "w1") => `(tactic| with_reducible first
  | (refine ws_then ?_; try with_reducible dsimp only [List.set_cons_zero, List.set_cons_succ]) | refine ws_seq ?_ | refine ws_asg ?_ | refine ws_expr ?_ | refine ws_ret ?_ | refine ws_if ?_ | refine ws_asgT ?_ | refine ws_skip ?_ | refine ws_retN ?_ | refine ws_brk ?_ | refine ws_cont ?_ | refine ws_thenR ?_ | refine ws_thenB ?_ | refine ws_thenC ?_ | refine fq_rt ?_ | refine fq_nx ?_ | refine un_nx ?_ | refine un_ct ?_ | refine un_bk ?_ | refine un_rt ?_ | refine ws_loopN ?_
  | (refine ws_loopC (ρ1 := ?r) ?h ?q; (case h => with_unfolding_all rfl); try with_reducible dsimp only [List.set_cons_zero, List.set_cons_succ])
  | refine wp_c ?_ | refine wp_op2 ?_ | refine wp_fn ?_ | refine wp_cons ?_ | refine wp_nil ?_ | refine wp_call ?_ | refine wp_op1 ?_
  | (refine wp_var (d := ?d) ?h ?q; (case h => with_unfolding_all rfl))
  | (refine ws_aug (d := ?d) ?h ?q; (case h => with_unfolding_all rfl))
  | refine wp_tup ?_ | refine wp_lst ?_ | refine wp_lstM ?_ | refine wp_listM ?_
  | refine wp_sl0 ?_ | refine wp_sl1 ?_ | refine wp_sl2 ?_ | refine wp_sl3 ?_
  | refine wp_tval ?_ | refine wp_tnot ?_ | refine wp_tand ?_ | refine wp_tor ?_ | refine wp_tyes ?_ | refine wp_and ?_ | refine wp_or ?_ | refine wp_not ?_ | refine wp_ifx ?_ | refine wp_chain ?_ | refine wp_meth ?_ | refine wp_meth0 ?_
  | refine wp_isi ?_ | refine wp_isis ?_ | refine wp_repr ?_ | refine wp_maxD ?_ | refine wi_rng3 ?_
  | refine ws_par ?_ | refine wp_dnew ?_ | refine wp_get2 ?_ | refine wp_reprQ ?_ | refine wp_fnK ?_ | refine wi_valsI ?_ | refine wi_itemsI ?_ | refine ws_augI ?_
  | refine wi_seq ?_ | refine wi_rng1 ?_ | refine wi_rng2 ?_ | refine wi_zip2 ?_ | refine wi_zipS ?_
  | (refine wp_fnB (ρ := ?ρ) ?he ?_; (case he => (simp only [List.map_cons, List.map_nil, List.length_cons, List.length_nil, List.replicate, List.cons_append, List.nil_append, Nat.reduceAdd, Nat.reduceSub]; rfl))))
local macro_rules | `(tactic| walk_at "w2") => `(tactic| ((with_reducible refine wo_id ?_); with_reducible first
  | refine vo_sub ?_ | refine vo_add ?_ | refine vo_lt ?_ | refine vo_le ?_ | refine vo_gt ?_ | refine vo_ge ?_ | refine vo_eq ?_ | refine vo_ne ?_ | refine vo_eqS ?_ | refine vo_neS ?_ | refine vo_eqB ?_ | refine vo_neB ?_ | refine vo_neg ?_ | refine vo_slT ?_ | refine vo_slL ?_ | refine vo_slS ?_ | refine vo_lenT ?_ | refine vo_lenL ?_ | refine vo_lenS ?_ | refine vo_revT ?_ | refine vo_revL ?_ | refine vo_min ?_ | refine vo_max ?_ | refine vo_tupL ?_ | refine vo_tupT ?_ | refine vo_lisL ?_ | refine vo_lisT ?_
  | refine vo_igAdd ?_ | refine vo_igMulR (by omega) ?_ | refine vo_igMulL (by omega) ?_ | refine vo_mod (by omega) ?_ | refine vo_div (by omega) ?_ | refine vo_mulR (by omega) ?_ | refine vo_mulL (by omega) ?_
  | refine vo_ixL0 ?_ | refine vo_ixL1 ?_ | refine vo_ixL2 ?_ | refine vo_ixL3 ?_ | refine vo_ixL4 ?_ | refine vo_ixL5 ?_ | refine vo_ixL6 ?_ | refine vo_ixT0 ?_ | refine vo_ixT1 ?_ | refine vo_ixT2 ?_ | refine vo_ixT3 ?_ | refine vo_ixT4 ?_ | refine vo_ixT5 ?_ | refine vo_ixT6 ?_
  | refine vo_inT ?_ | refine vo_ninT ?_ | refine vo_inL ?_ | refine vo_ninL ?_ | refine vo_inI ?_ | refine vo_ninI ?_ | refine vo_sortI (by first | assumption | omega) ?_ | refine vo_sortL ?_ | refine vo_lenI ?_ | refine vo_lt3 ?_ | refine vo_isNN ?_ | refine vo_is3N ?_ | refine vo_isTN ?_ | refine vo_isIN ?_ | refine vo_igAddI ?_ | refine vo_ixI (by assumption) ?_
  | refine vo_vwD1 (by assumption) ?_ | refine vo_vwDc (by assumption) ?_
  | refine wo_vw1 (by assumption) ?_ | refine wo_vw2 (by assumption) ?_ | refine vo_vwc (by assumption) ?_
  | (refine vo_isi (c := ?c) ?h ?q; (case h => with_unfolding_all rfl)) | (refine vo_isis (c := ?c) ?h ?q; (case h => with_unfolding_all rfl))))
local macro_rules | `(tactic| walk_at "w3") => `(tactic| first
  | with_reducible refine ite_f ?_ | with_reducible refine ite_nt ?_ | with_reducible refine ite_nf ?_ | with_reducible refine ite_t ?_
  | ((with_reducible refine ex_id ?_); refine ⟨_, rfl, ?_⟩) | ((with_reducible refine and_id ?_); refine ⟨Nat.le_of_ble_eq_true rfl, ?_⟩))
local macro_rules | `(tactic| walk_at "w") => `(tactic| repeat (first | walk_at "w1" | walk_at "w2" | walk_at "w3"))

def tI (xs : List Int) : D := .tup (xs.map .int)
theorem wi_valsA {α : Type} {g : α → D} {ρ : Ev} {S : Sto} {E : Px} {Q : List D → Sto → Prop} {e : Ex} (h : Wp (e ρ S) (fun d S1 => ∃ l : List (Int × α), d = dA g l ∧ Q (l.map fun p => g p.2) S1) E) : Wp (iVals e ρ S) Q E := wp_bind (h.mono fun d S1 ⟨l, e, q⟩ => by
  subst e
  have : (kA g l).map (·.2) = l.map fun p => g p.2 := by unfold kA; rw [List.map_map]; rfl
  show Wp (.ok ((kA g l).map (·.2)) S1) _ _
  rw [this]
  exact ⟨q⟩)
theorem wi_itemsA {α : Type} {g : α → D} {ρ : Ev} {S : Sto} {E : Px} {Q : List D → Sto → Prop} {e : Ex} (h : Wp (e ρ S) (fun d S1 => ∃ l : List (Int × α), d = dA g l ∧ Q (l.map fun p => .tup [.int p.1, g p.2]) S1) E) : Wp (iItems e ρ S) Q E := wp_bind (h.mono fun d S1 ⟨l, e, q⟩ => by
  subst e
  have : (kA g l).map (fun p => D.tup [p.1, p.2]) = l.map fun p => .tup [.int p.1, g p.2] := by unfold kA; rw [List.map_map]; rfl
  show Wp (.ok ((kA g l).map fun p => D.tup [p.1, p.2]) S1) _ _
  rw [this]
  exact ⟨q⟩)
theorem putA_new {α : Type} {l : List (Int × α)} {k : Int} {v : α} (h : k ∉ l.map (·.1)) : putA l k v = l ++ [(k, v)] := by
  unfold putA
  rw [if_neg]
  intro z
  obtain ⟨p, hp, e⟩ := List.any_eq_true.mp z
  exact h (by rw [← of_decide_eq_true e]; exact List.mem_map_of_mem (f := (·.1)) hp)
abbrev TN := List (Int × List Int)
def pcs (N : TN) : List Int := N.flatMap (·.2)
def szN (sz : TB) (p : Int) : Nat := ((getI sz p).getD 0).toNat
def prs (sz : TB) (ps xs : List Int) : List (Nat × Nat) := xs.map fun p => (szN sz p, ps.count p)
/-- what each moment needs, of what size -/
structure Nd (N : TN) (sz : TB) : Prop where
  len : N.length ≤ 15
  nd : (N.map (·.1)).Nodup
  sub : ∀ p ∈ N, p.2.length ≤ 8 ∧ p.2.Nodup ∧ ∀ x ∈ p.2, x ∈ sz.map (·.1)
  szl : sz.length ≤ 8
  pos : ∀ p ∈ sz, 0 ≤ p.2
theorem nd_count : ∀ {l : List Int}, l.Nodup → ∀ x, l.count x ≤ 1
  | [], _, x => by simp
  | y :: l, h, x => by
    have h' := List.nodup_cons.mp h
    have := nd_count h'.2 x
    rw [List.count_cons]
    by_cases e : y = x
    · subst e
      rw [List.count_eq_zero_of_not_mem h'.1]
      simp
    · simp [e]; exact this
theorem pcs_count {N : TN} (h : ∀ p ∈ N, p.2.Nodup) (x : Int) : (pcs N).count x ≤ N.length := by
  induction N with
  | nil => simp [pcs]
  | cons p N ih =>
    have h1 := ih fun q hq => h q (by simp [hq])
    have h2 : p.2.count x ≤ 1 := nd_count (h p (by simp)) x
    unfold pcs at *
    rw [List.flatMap_cons, List.count_append, List.length_cons]
    omega
theorem pcs_len {N : TN} (h : ∀ p ∈ N, p.2.length ≤ 8) : (pcs N).length ≤ 8 * N.length := by
  induction N with
  | nil => simp [pcs]
  | cons p N ih =>
    have h1 := ih fun q hq => h q (by simp [hq])
    have h2 := h p (by simp)
    unfold pcs at *
    rw [List.flatMap_cons, List.length_append, List.length_cons]
    omega
theorem pcs_take {N : TN} {j : Nat} {p : Int × List Int} (h : N[j]? = some p) : pcs (N.take (j + 1)) = pcs (N.take j) ++ p.2 := by
  unfold pcs
  rw [List.take_succ, h, List.flatMap_append]
  simp
theorem cntT_app (as bs : List Int) : cntT (as ++ bs) = bs.foldl cntS (cntT as) := by
  unfold cntT
  rw [List.foldl_append]
theorem dvd16 {u : Nat} (h : 0 < u) (h2 : u ≤ 16) : u ∣ 720720 := by
  have : ∀ u : Fin 17, 0 < u.val → u.val ∣ 720720 := by decide
  exact this ⟨u, by omega⟩ h
theorem shr_le {ps : List (Nat × Nat)} (h : ∀ p ∈ ps, 0 < p.2 ∧ p.2 ≤ 16) : (shr ps).2 ≤ 720720 := by
  obtain ⟨h1, h2, h3⟩ := shr_ok (Bt := 720720) (ps := ps) fun p hp => ⟨(h p hp).1, dvd16 (h p hp).1 (h p hp).2⟩
  have : (shr ps).2 ∣ (shr ps).1 * 720720 := by rw [h3]; exact Nat.dvd_mul_right _ _
  have := (Nat.Coprime.dvd_of_dvd_mul_left (Nat.Coprime.symm h2) this)
  exact Nat.le_of_dvd (by decide) this
theorem wp_shared {S : Sto} {N : TN} {sz : TB} {Q : D → Sto → Prop} {E : Px} (h : Nd N sz)
    (q : ∀ n S', S.length ≤ n → Ext S S' → S'[n]? = some (some (.dic false (kA fD (N.map fun p => (p.1, shr (prs sz (pcs N) p.2)))))) → Q (.ref n) S') : Wp (d_shared [dA tI N, dI sz] S) Q E := by
  unfold d_shared b_shared
  walk_at "w"
  have h1 : (S ++ [some (.dic false (kI []))])[S.length]? = some (some (.dic false (kI []))) := app_at
  have x1 : Ext S (S ++ [some (.dic false (kI []))]) := .app
  generalize S ++ [some (.dic false (kI []))] = T at *
  have hn : S.length ≤ S.length := Nat.le_refl _
  generalize hnn : S.length = n at h1 hn ⊢
  walk_at "w"
  unfold l_shared_2
  have hps8 := pcs_len (N := N) fun p hp => (h.sub p hp).1
  refine ws_for [3, 4] ?_
  refine wi_valsA (g := tI) ?_
  walk_at "w"
  refine ⟨fun j vs S' => ∃ d3 d4, vs = [d3, d4] ∧ Ext S S' ∧ S'[n]? = some (some (.dic false (kI (cntT (pcs (N.take j)))))), [none, none], rfl, rfl, ⟨none, none, rfl, x1, by simpa [pcs, cntT] using h1⟩, ?_, ?_⟩
  · rintro j d vs S1 hj hv ⟨d3, d4, rfl, x2, h2⟩
    rw [List.getElem?_map] at hj
    obtain ⟨p, hp, rfl⟩ := Option.map_eq_some_iff.mp hj
    have hpl := (h.sub p (List.mem_of_getElem? hp)).1
    have hpt := pcs_take hp
    have hcl : (cntT (pcs (N.take j))).length ≤ 200 := by
      have h5 := cnt_len0 (pcs (N.take j)) []
      have h6 := pcs_len (N := N.take j) fun p hp => (h.sub p (List.mem_of_mem_take hp)).1
      have h7 := h.len
      rw [List.length_take] at h6
      unfold cntT
      rw [List.length_nil] at h5
      omega
    generalize pcs (N.take j) = as at *
    refine ⟨_, rfl, ?_⟩
    dsimp only [putAll, List.set_cons_zero, List.set_cons_succ]
    unfold lb_shared_2 l_shared_1
    refine ws_for [4] ?_
    unfold tI
    walk_at "w"
    refine ⟨_, Or.inl rfl, ?_⟩
    refine ⟨fun i vs S' => ∃ d4, vs = [d4] ∧ Ext S S' ∧ S'[n]? = some (some (.dic false (kI ((p.2.take i).foldl cntS (cntT as))))), [d4], rfl, rfl, ⟨d4, rfl, x2, h2⟩, ?_, ?_⟩
    · rintro i d vs S2 hi hv ⟨d4, rfl, x3, h3⟩
      rw [List.getElem?_map] at hi
      obtain ⟨x, hx, rfl⟩ := Option.map_eq_some_iff.mp hi
      have hst : (p.2.take (i + 1)).foldl cntS (cntT as) = cntS ((p.2.take i).foldl cntS (cntT as)) x := by
        rw [List.take_succ, hx, List.foldl_append]
        rfl
      have hl3 : ((p.2.take i).foldl cntS (cntT as)).length ≤ 300 := by
        have := cnt_len0 (p.2.take i) (cntT as)
        rw [List.length_take] at this
        omega
      generalize (p.2.take i).foldl cntS (cntT as) = c at *
      refine ⟨_, rfl, ?_⟩
      dsimp only [putAll, List.set_cons_zero, List.set_cons_succ]
      unfold lb_shared_1
      refine ws_setI ?_
      walk_at "w"
      have hvw : view S2 (.ref n) = dI c := by simp only [view, h3]; rfl
      refine ⟨by rw [hvw]; rfl, ?_⟩
      walk_at "w"
      refine ⟨c, x, 0, hvw, rfl, rfl, ?_⟩
      walk_at "w"
      refine ⟨n, c, x, (getI c x).getD 0 + 1, rfl, rfl, rfl, h3, by omega, ?_⟩
      refine ⟨[some (.int x)], rfl, rfl, _, rfl, x3.set (by omega), ?_⟩
      rw [hst]
      exact set_at h3
    · rintro vs S2 hv ⟨d4, rfl, x3, h3⟩
      rw [List.length_map, List.take_length, ← cntT_app, ← hpt] at h3
      exact ⟨[_, _], rfl, rfl, _, _, rfl, x3, h3⟩
  · rintro vs S1 hv ⟨d3, d4, rfl, x2, h2⟩
    rw [List.length_map, List.take_length] at h2
    dsimp only [putAll, List.set_cons_zero, List.set_cons_succ]
    refine ws_then ?_
    refine ws_seq ?_
    refine ws_frzD rfl h2 ?_
    have x3 : Ext S (S1.set n none) := x2.set (by omega)
    generalize S1.set n none = S2 at *
    dsimp only [List.set_cons_zero, List.set_cons_succ]
    have hN := h.len
    have hcount := fun x => pcs_count (N := N) (fun p hp => (h.sub p hp).2.1) x
    have hsz : ∀ x ∈ sz.map (·.1), getI sz x = some ((szN sz x : Nat) : Int) := fun x hx => by
      obtain ⟨v, hv⟩ := getI_has hx
      have := h.pos _ (getI_mem hv)
      unfold szN
      rw [hv]
      simp only [Option.getD_some]
      rw [Int.toNat_of_nonneg this]
    have hct : ∀ x, x ∈ pcs N → getI (cntT (pcs N)) x = some (((pcs N).count x : Nat) : Int) := fun x hx => by rw [cnt_get, if_pos hx]
    have hmem : ∀ p ∈ N, ∀ x ∈ p.2, x ∈ pcs N := fun p hp x hx => List.mem_flatMap.mpr ⟨p, hp, hx⟩
    have hpr : ∀ p ∈ N, ∀ r ∈ prs sz (pcs N) p.2, 0 < r.2 ∧ r.2 ≤ 16 := fun p hp r hr => by
      obtain ⟨x, hx, rfl⟩ := List.mem_map.mp hr
      exact ⟨List.count_pos_iff.mpr (hmem p hp x hx), by have := hcount x; dsimp only; omega⟩
    generalize pcs N = ps at *
    walk_at "w"
    have h4 : (S2 ++ [some (.dic false (kI []))])[S2.length]? = some (some (.dic false (kI []))) := app_at
    have hn2 : S.length ≤ S2.length := x3.1
    have x4 : Ext S (S2 ++ [some (.dic false (kI []))]) := x3.trans .app
    generalize S2 ++ [some (.dic false (kI []))] = S3 at *
    generalize S2.length = n2 at *
    walk_at "w"
    unfold l_shared_4
    refine ws_for [3, 4, 6, 7] ?_
    refine wi_itemsA (g := tI) ?_
    walk_at "w"
    refine ⟨fun j vs S' => ∃ d3 d4 d6 d7, vs = [d3, d4, d6, d7] ∧ Ext S S' ∧ S'[n2]? = some (some (.dic false (kA fD ((N.take j).map fun p => (p.1, shr (prs sz ps p.2)))))), [d3, d4, none, none], rfl, rfl, ⟨d3, d4, none, none, rfl, x4, h4⟩, ?_, ?_⟩
    · rintro j d vs S4 hj hv ⟨e3, e4, e6, e7, rfl, x5, h5⟩
      rw [List.getElem?_map] at hj
      obtain ⟨p, hp, rfl⟩ := Option.map_eq_some_iff.mp hj
      have hpm := List.mem_of_getElem? hp
      have hj' := (List.getElem?_eq_some_iff.mp hp).1
      refine ⟨_, rfl, ?_⟩
      dsimp only [putAll, List.set_cons_zero, List.set_cons_succ]
      unfold lb_shared_4
      walk_at "w"
      unfold l_shared_3
      refine ws_for [4, 7] ?_
      unfold tI
      walk_at "w"
      refine ⟨_, Or.inl rfl, ?_⟩
      refine ⟨fun i vs S' => ∃ d4, vs = [d4, some (fD (shr (prs sz ps (p.2.take i))))] ∧ S' = S4, [e4, some (fD (0, 1))], rfl, rfl, ⟨e4, rfl, rfl⟩, ?_, ?_⟩
      · rintro i d vs S5 hi hv ⟨d4, rfl, rfl⟩
        rw [List.getElem?_map] at hi
        obtain ⟨x, hx, rfl⟩ := Option.map_eq_some_iff.mp hi
        have hxm := List.mem_of_getElem? hx
        have g1 := hsz x ((h.sub p hpm).2.2 x hxm)
        have g2 := hct x (hmem p hpm x hxm)
        have hst : shr (prs sz ps (p.2.take (i + 1))) = addF (shr (prs sz ps (p.2.take i))) (szN sz x, ps.count x) := by
          unfold shr prs
          rw [List.take_succ, hx, List.map_append, List.foldl_append]
          rfl
        have hsub : ∀ r ∈ prs sz ps (p.2.take i), 0 < r.2 ∧ r.2 ≤ 16 := fun r hr => hpr p hpm r (by
          obtain ⟨y, hy, rfl⟩ := List.mem_map.mp hr
          exact List.mem_map_of_mem (f := fun p => (szN sz p, ps.count p)) (List.mem_of_mem_take hy))
        have hle := shr_le hsub
        have hpos := (shr_ok (Bt := 720720) fun r hr => ⟨(hsub r hr).1, dvd16 (hsub r hr).1 (hsub r hr).2⟩).1
        generalize shr (prs sz ps (p.2.take i)) = z at *
        refine ⟨_, rfl, ?_⟩
        dsimp only [putAll, List.set_cons_zero, List.set_cons_succ]
        unfold lb_shared_3
        walk_at "w"
        show Wp (d_together [fD z, fD (szN sz x, ps.count x)] _) _ _
        refine wp_together hpos (List.count_pos_iff.mpr (hmem p hpm x hxm)) hle (by have := hcount x; dsimp only; omega) ?_
        exact ⟨[some (.int x), some (fD (shr (prs sz ps (p.2.take (i + 1)))))], rfl, by rw [hst]; rfl, _, rfl, rfl⟩
      · rintro vs S5 hv ⟨d4, rfl, rfl⟩
        rw [List.length_map, List.take_length]
        dsimp only [putAll, List.set_cons_zero, List.set_cons_succ]
        refine ws_then ?_
        refine ws_setA fD ?_
        walk_at "w"
        have hk : p.1 ∉ ((N.take j).map fun p => (p.1, shr (prs sz ps p.2))).map (·.1) := fun z => by
          rw [List.map_map] at z
          obtain ⟨r, hr, e⟩ := List.mem_map.mp z
          have hnd := h.nd
          have hs : N = N.take j ++ N.drop j := (List.take_append_drop j N).symm
          have hd : N.drop j = p :: N.drop (j + 1) := by
            rw [List.drop_eq_getElem_cons hj']
            congr 1
            rw [List.getElem?_eq_getElem hj'] at hp
            exact Option.some.inj hp
          rw [hs, hd, List.map_append, List.nodup_append] at hnd
          exact hnd.2.2 _ (List.mem_map_of_mem (f := (·.1)) hr) p.1 (by simp) e
        refine ⟨n2, _, p.1, _, rfl, rfl, rfl, h5, by rw [List.length_map, List.length_take]; omega, ?_⟩
        rw [putA_new hk]
        refine ⟨[_, _, _, _], rfl, rfl, _, _, _, _, rfl, x5.set hn2, ?_⟩
        rw [List.take_succ, hp, List.map_append]
        exact set_at h5
    · rintro vs S4 hv ⟨e3, e4, e6, e7, rfl, x5, h5⟩
      rw [List.length_map, List.take_length] at h5
      walk_at "w"
      exact q n2 S4 hn2 x5 h5
end C48

/-! ## K48s -/
set_option Elab.async false
set_option linter.all false
set_option maxRecDepth 100000
set_option maxHeartbeats 4000000
namespace C48
open DL LF
local macro_rules | `(tactic| walk_at "w1") => `(tactic| with_reducible first
  | (refine ws_then ?_; try with_reducible dsimp only [List.set_cons_zero, List.set_cons_succ]) | refine ws_seq ?_ | refine ws_asg ?_ | refine ws_expr ?_ | refine ws_ret ?_ | refine ws_if ?_ | refine ws_asgT ?_ | refine ws_skip ?_ | refine ws_retN ?_ | refine ws_brk ?_ | refine ws_cont ?_ | refine ws_thenR ?_ | refine ws_thenB ?_ | refine ws_thenC ?_ | refine fq_rt ?_ | refine fq_nx ?_ | refine un_nx ?_ | refine un_ct ?_ | refine un_bk ?_ | refine un_rt ?_ | refine ws_loopN ?_
  | (refine ws_loopC (ρ1 := ?r) ?h ?q; (case h => with_unfolding_all rfl); try with_reducible dsimp only [List.set_cons_zero, List.set_cons_succ])
  | refine wp_c ?_ | refine wp_op2 ?_ | refine wp_fn ?_ | refine wp_cons ?_ | refine wp_nil ?_ | refine wp_call ?_ | refine wp_op1 ?_
  | (refine wp_var (d := ?d) ?h ?q; (case h => with_unfolding_all rfl))
  | (refine ws_aug (d := ?d) ?h ?q; (case h => with_unfolding_all rfl))
  | refine wp_tup ?_ | refine wp_lst ?_ | refine wp_lstM ?_ | refine wp_listM ?_
  | refine wp_sl0 ?_ | refine wp_sl1 ?_ | refine wp_sl2 ?_ | refine wp_sl3 ?_
  | refine wp_tval ?_ | refine wp_tnot ?_ | refine wp_tand ?_ | refine wp_tor ?_ | refine wp_tyes ?_ | refine wp_and ?_ | refine wp_or ?_ | refine wp_not ?_ | refine wp_ifx ?_ | refine wp_chain ?_ | refine wp_meth ?_ | refine wp_meth0 ?_
  | refine wp_isi ?_ | refine wp_isis ?_ | refine wp_repr ?_ | refine wp_maxD ?_ | refine wi_rng3 ?_
  | refine ws_par ?_ | refine wp_dnew ?_ | refine wp_get2 ?_ | refine wp_reprQ ?_ | refine wp_fnK ?_ | refine wi_valsI ?_ | refine wi_itemsI ?_ | refine ws_augI ?_
  | refine wi_seq ?_ | refine wi_rng1 ?_ | refine wi_rng2 ?_ | refine wi_zip2 ?_ | refine wi_zipS ?_
  | (refine wp_fnB (ρ := ?ρ) ?he ?_; (case he => (simp only [List.map_cons, List.map_nil, List.length_cons, List.length_nil, List.replicate, List.cons_append, List.nil_append, Nat.reduceAdd, Nat.reduceSub]; rfl))))
local macro_rules | `(tactic| walk_at "w2") => `(tactic| ((with_reducible refine wo_id ?_); with_reducible first
  | refine vo_sub ?_ | refine vo_add ?_ | refine vo_lt ?_ | refine vo_le ?_ | refine vo_gt ?_ | refine vo_ge ?_ | refine vo_eq ?_ | refine vo_ne ?_ | refine vo_eqS ?_ | refine vo_neS ?_ | refine vo_eqB ?_ | refine vo_neB ?_ | refine vo_neg ?_ | refine vo_slT ?_ | refine vo_slL ?_ | refine vo_slS ?_ | refine vo_lenT ?_ | refine vo_lenL ?_ | refine vo_lenS ?_ | refine vo_revT ?_ | refine vo_revL ?_ | refine vo_min ?_ | refine vo_max ?_ | refine vo_tupL ?_ | refine vo_tupT ?_ | refine vo_lisL ?_ | refine vo_lisT ?_
  | refine vo_igAdd ?_ | refine vo_igMulR (by omega) ?_ | refine vo_igMulL (by omega) ?_ | refine vo_mod (by omega) ?_ | refine vo_div (by omega) ?_ | refine vo_mulR (by omega) ?_ | refine vo_mulL (by omega) ?_
  | refine vo_ixL0 ?_ | refine vo_ixL1 ?_ | refine vo_ixL2 ?_ | refine vo_ixL3 ?_ | refine vo_ixL4 ?_ | refine vo_ixL5 ?_ | refine vo_ixL6 ?_ | refine vo_ixT0 ?_ | refine vo_ixT1 ?_ | refine vo_ixT2 ?_ | refine vo_ixT3 ?_ | refine vo_ixT4 ?_ | refine vo_ixT5 ?_ | refine vo_ixT6 ?_
  | refine vo_inT ?_ | refine vo_ninT ?_ | refine vo_inL ?_ | refine vo_ninL ?_ | refine vo_inI ?_ | refine vo_ninI ?_ | refine vo_sortI (by first | assumption | omega) ?_ | refine vo_sortL ?_ | refine vo_lenI ?_ | refine vo_lt3 ?_ | refine vo_isNN ?_ | refine vo_is3N ?_ | refine vo_isTN ?_ | refine vo_isIN ?_ | refine vo_igAddI ?_ | refine vo_ixI (by assumption) ?_
  | refine vo_vwD1 (by assumption) ?_ | refine vo_vwDc (by assumption) ?_
  | refine wo_vw1 (by assumption) ?_ | refine wo_vw2 (by assumption) ?_ | refine vo_vwc (by assumption) ?_
  | (refine vo_isi (c := ?c) ?h ?q; (case h => with_unfolding_all rfl)) | (refine vo_isis (c := ?c) ?h ?q; (case h => with_unfolding_all rfl))))
local macro_rules | `(tactic| walk_at "w3") => `(tactic| first
  | with_reducible refine ite_f ?_ | with_reducible refine ite_nt ?_ | with_reducible refine ite_nf ?_ | with_reducible refine ite_t ?_
  | ((with_reducible refine ex_id ?_); refine ⟨_, rfl, ?_⟩) | ((with_reducible refine and_id ?_); refine ⟨Nat.le_of_ble_eq_true rfl, ?_⟩))
local macro_rules | `(tactic| walk_at "w") => `(tactic| repeat (first | walk_at "w1" | walk_at "w2" | walk_at "w3"))

theorem nd_sub_len : ∀ {l m : List Int}, l.Nodup → (∀ x ∈ l, x ∈ m) → l.length ≤ m.length
  | [], m, _, _ => by simp
  | x :: l, m, h, hs => by
    have h' := List.nodup_cons.mp h
    have hx := hs x (by simp)
    have := nd_sub_len (l := l) (m := m.erase x) h'.2 fun y hy => (List.mem_erase_of_ne (fun e => h'.1 (by rw [← e]; exact hy))).mpr (hs y (by simp [hy]))
    rw [List.length_erase_of_mem hx] at this
    have := List.length_pos_of_mem hx
    simp only [List.length_cons]
    omega
theorem getA_at {α : Type} : ∀ {l : List (Int × α)} {p : Int × α}, (l.map (·.1)).Nodup → p ∈ l → getA l p.1 = some p.2
  | [], p, _, h => by simp at h
  | r :: l, p, hn, h => by
    rw [List.map_cons] at hn
    have hn' := List.nodup_cons.mp hn
    unfold getA
    rcases List.mem_cons.mp h with rfl | h
    · simp
    · have : ¬ r.1 = p.1 := fun z => hn'.1 (by rw [z]; exact List.mem_map_of_mem (f := (·.1)) h)
      rw [if_neg this]
      exact getA_at hn'.2 h
theorem dkl_A {α : Type} (g : α → D) (l : List (Int × α)) : dkl (dA g l) = some ((l.map (·.1)).map D.int) := by
  show some ((kA g l).map (·.1)) = _
  unfold kA
  rw [List.map_map, List.map_map]
  rfl
theorem putI_new {l : TB} {k v : Int} (h : k ∉ l.map (·.1)) : putI l k v = l ++ [(k, v)] := by
  unfold putI
  rw [if_neg]
  intro z
  obtain ⟨p, hp, e⟩ := List.any_eq_true.mp z
  exact h (by rw [← of_decide_eq_true e]; exact List.mem_map_of_mem (f := (·.1)) hp)
theorem nd_new {β : Type} {N : TN} (f : Int × List Int → β) (h : (N.map (·.1)).Nodup) {j : Nat} {p : Int × List Int} (hp : N[j]? = some p) : p.1 ∉ ((N.take j).map fun p => (p.1, f p)).map (·.1) := fun z => by
  rw [List.map_map] at z
  obtain ⟨r, hr, e⟩ := List.mem_map.mp z
  have hj' := (List.getElem?_eq_some_iff.mp hp).1
  have hs : N = N.take j ++ N.drop j := (List.take_append_drop j N).symm
  have hd : N.drop j = p :: N.drop (j + 1) := by
    rw [List.drop_eq_getElem_cons hj']
    congr 1
    rw [List.getElem?_eq_getElem hj'] at hp
    exact Option.some.inj hp
  rw [hs, hd, List.map_append, List.nodup_append] at h
  exact h.2.2 _ (List.mem_map_of_mem (f := (·.1)) hr) p.1 (by simp) e
theorem noRefK_I : ∀ l : TB, noRefK (kI l) = true
  | [] => rfl
  | p :: l => by
    have := noRefK_I l
    unfold kI at this ⊢
    simp only [List.map_cons, noRefK, noRef, this, Bool.and_self]
theorem noRef_dI (l : TB) : noRef (dI l) = true := noRefK_I l
theorem noRefK_N : ∀ N : TN, noRefK (kA tI N) = true
  | [] => rfl
  | p :: l => by
    have := noRefK_N l
    unfold kA at this ⊢
    have e : noRef (tI p.2) = true := noRefs_int p.2
    simp only [List.map_cons, noRefK, e, this, Bool.and_self]
theorem noRef_N (N : TN) : noRef (dA tI N) = true := noRefK_N N
def keysT (ps : List Int) : List Int := isI ((cntT ps).map (·.1))
def Bt (ps : List Int) : Nat := botN ((keysT ps).map fun k => ps.count k)
def topN (sz : TB) (ps xs : List Int) : Nat := (xs.map fun x => szN sz x * (Bt ps / ps.count x)).sum
def whole (sz : TB) (ps : List Int) : Int := ((cntT ps).map fun p => (szN sz p.1 : Int)).sum
theorem keysT_mem {ps : List Int} {k : Int} : k ∈ keysT ps ↔ k ∈ ps := by
  unfold keysT
  rw [(isI_perm _).mem_iff, cnt_key]
theorem Bt_dvd {ps : List Int} {x : Int} (h : x ∈ ps) : ps.count x ∣ Bt ps := bot_dvd (List.mem_map_of_mem (f := fun k => ps.count k) (keysT_mem.mpr h))
theorem Bt_pos (ps : List Int) : 0 < Bt ps := bot_pos fun x hx => by
  obtain ⟨k, hk, rfl⟩ := List.mem_map.mp hx
  exact List.count_pos_iff.mpr (keysT_mem.mp hk)
theorem keysT_len {N : TN} {sz : TB} (h : Nd N sz) : (keysT (pcs N)).length ≤ 8 := by
  unfold keysT
  rw [isI_len]
  have := nd_sub_len (l := (cntT (pcs N)).map (·.1)) (m := sz.map (·.1)) (cnt_nd _) fun x hx => by
    obtain ⟨p, hp, hx⟩ := List.mem_flatMap.mp (cnt_key.mp hx)
    exact (h.sub p hp).2.2 x hx
  rw [List.length_map (as := sz)] at this
  have := h.szl
  omega
theorem Bt_le {N : TN} {sz : TB} (h : Nd N sz) : Bt (pcs N) ≤ 4294967296 := by
  have h1 : Bt (pcs N) ≤ 16 ^ ((keysT (pcs N)).map fun k => (pcs N).count k).length := bot_le (by decide) fun x hx => by
    obtain ⟨k, hk, rfl⟩ := List.mem_map.mp hx
    have := pcs_count (N := N) (fun p hp => (h.sub p hp).2.1) k
    have := h.len
    omega
  rw [List.length_map] at h1
  have h2 : 16 ^ (keysT (pcs N)).length ≤ 16 ^ 8 := Nat.pow_le_pow_right (by decide) (keysT_len h)
  have h3 : (16 : Nat) ^ 8 = 4294967296 := by decide
  omega
theorem topN_eq (sz : TB) {ps xs : List Int} (h : ∀ x ∈ xs, x ∈ ps) : (xs.map fun x => ((szN sz x : Int) * (Bt ps : Int)) / (ps.count x : Int)).sum = (topN sz ps xs : Int) := by
  unfold topN
  induction xs with
  | nil => simp
  | cons x xs ih =>
    simp only [List.map_cons, List.sum_cons]
    rw [ih fun y hy => h y (by simp [hy])]
    have hd := Bt_dvd (h x (by simp))
    have e : ((szN sz x : Int) * (Bt ps : Int)) / (ps.count x : Int) = ((szN sz x * (Bt ps / ps.count x) : Nat) : Int) := by
      rw [← Nat.mul_div_assoc _ hd]
      push_cast
      rfl
    rw [e]
    push_cast
    rfl
theorem wp_due {S : Sto} {N : TN} {sz : TB} {Q : D → Sto → Prop} {E : Px} (h : Nd N sz)
    (q : Q (.tup [dI (N.map fun p => (p.1, (topN sz (pcs N) p.2 : Int))), .int (Bt (pcs N)), .int (whole sz (pcs N))]) S) : Wp (d_due [dA tI N, dI sz] S) Q E := by
  refine wp_fnP (by simp [noRefs, noRef_N, noRef_dI]) ?_
  unfold b_due
  walk_at "w"
  have e0 : ([] : Sto).length = 0 := rfl
  rw [e0]
  have h1 : ([] ++ [some (.dic false (kI []))] : Sto)[0]? = some (some (.dic false (kI []))) := rfl
  generalize ([] ++ [some (.dic false (kI []))] : Sto) = T at *
  walk_at "w"
  unfold l_due_2
  have hNl := h.len
  refine ws_for [3, 4] ?_
  walk_at "w"
  refine ⟨_, Or.inr (dkl_A tI N), ?_⟩
  refine ⟨fun j vs S' => ∃ d3 d4, vs = [d3, d4] ∧ S'[0]? = some (some (.dic false (kI (cntT (pcs (N.take j)))))), [none, none], rfl, rfl, ⟨none, none, rfl, by simpa [pcs, cntT] using h1⟩, ?_, ?_⟩
  · rintro j d vs S1 hj hv ⟨d3, d4, rfl, h2⟩
    rw [List.getElem?_map, List.getElem?_map] at hj
    obtain ⟨k, hk, rfl⟩ := Option.map_eq_some_iff.mp hj
    obtain ⟨p, hp, rfl⟩ := Option.map_eq_some_iff.mp hk
    have hpm := List.mem_of_getElem? hp
    have hpl := (h.sub p hpm).1
    have hga := getA_at h.nd hpm
    have hpt := pcs_take hp
    have hcl : (cntT (pcs (N.take j))).length ≤ 200 := by
      have h5 := cnt_len0 (pcs (N.take j)) []
      have h6 := pcs_len (N := N.take j) fun p hp => (h.sub p (List.mem_of_mem_take hp)).1
      rw [List.length_take] at h6
      unfold cntT
      rw [List.length_nil] at h5
      omega
    generalize pcs (N.take j) = as at *
    refine ⟨_, rfl, ?_⟩
    dsimp only [putAll, List.set_cons_zero, List.set_cons_succ]
    unfold lb_due_2 l_due_1
    refine ws_for [4] ?_
    walk_at "w"
    refine vo_ixA hga ?_
    unfold tI
    refine ⟨_, Or.inl rfl, ?_⟩
    refine ⟨fun i vs S' => ∃ d4, vs = [d4] ∧ S'[0]? = some (some (.dic false (kI ((p.2.take i).foldl cntS (cntT as))))), [d4], rfl, rfl, ⟨d4, rfl, h2⟩, ?_, ?_⟩
    · rintro i d vs S2 hi hv ⟨d4, rfl, h3⟩
      rw [List.getElem?_map] at hi
      obtain ⟨x, hx, rfl⟩ := Option.map_eq_some_iff.mp hi
      have hst : (p.2.take (i + 1)).foldl cntS (cntT as) = cntS ((p.2.take i).foldl cntS (cntT as)) x := by
        rw [List.take_succ, hx, List.foldl_append]
        rfl
      have hl3 : ((p.2.take i).foldl cntS (cntT as)).length ≤ 300 := by
        have := cnt_len0 (p.2.take i) (cntT as)
        rw [List.length_take] at this
        omega
      generalize (p.2.take i).foldl cntS (cntT as) = c at *
      refine ⟨_, rfl, ?_⟩
      dsimp only [putAll, List.set_cons_zero, List.set_cons_succ]
      unfold lb_due_1
      refine ws_setI ?_
      walk_at "w"
      have hvw : view S2 (.ref 0) = dI c := by simp only [view, h3]; rfl
      refine ⟨by rw [hvw]; rfl, ?_⟩
      walk_at "w"
      refine ⟨c, x, 0, hvw, rfl, rfl, ?_⟩
      walk_at "w"
      refine ⟨0, c, x, (getI c x).getD 0 + 1, rfl, rfl, rfl, h3, by omega, ?_⟩
      refine ⟨[some (.int x)], rfl, rfl, _, rfl, ?_⟩
      rw [hst]
      exact set_at h3
    · rintro vs S2 hv ⟨d4, rfl, h3⟩
      rw [List.length_map, List.take_length, ← cntT_app, ← hpt] at h3
      exact ⟨[_, _], rfl, rfl, _, _, rfl, h3⟩
  · rintro vs S1 hv ⟨d3, d4, rfl, h2⟩
    rw [List.length_map, List.length_map, List.take_length] at h2
    dsimp only [putAll, List.set_cons_zero, List.set_cons_succ]
    refine ws_then ?_
    refine ws_seq ?_
    refine ws_frzD rfl h2 ?_
    generalize S1.set 0 none = S2 at *
    dsimp only [List.set_cons_zero, List.set_cons_succ]
    have hcount := fun x => pcs_count (N := N) (fun p hp => (h.sub p hp).2.1) x
    have hsz : ∀ x ∈ sz.map (·.1), getI sz x = some ((szN sz x : Nat) : Int) := fun x hx => by
      obtain ⟨v, hv⟩ := getI_has hx
      have := h.pos _ (getI_mem hv)
      unfold szN
      rw [hv]
      simp only [Option.getD_some]
      rw [Int.toNat_of_nonneg this]
    have hct : ∀ x, x ∈ pcs N → getI (cntT (pcs N)) x = some (((pcs N).count x : Nat) : Int) := fun x hx => by rw [cnt_get, if_pos hx]
    have hmem : ∀ p ∈ N, ∀ x ∈ p.2, x ∈ pcs N := fun p hp x hx => List.mem_flatMap.mpr ⟨p, hp, hx⟩
    have hin : ∀ x ∈ pcs N, x ∈ sz.map (·.1) := fun x hx => by
      obtain ⟨p, hp, hx⟩ := List.mem_flatMap.mp hx
      exact (h.sub p hp).2.2 x hx
    have hkl := keysT_len h
    have hBl := Bt_le h
    have hc64 : (cntT (pcs N)).length < 64 := by
      unfold keysT at hkl
      rw [isI_len, List.length_map] at hkl
      omega
    generalize hps : pcs N = ps at *
    walk_at "w"
    unfold l_due_3
    refine ws_for [4, 5] ?_
    walk_at "w"
    refine ⟨_, Or.inr rfl, ?_⟩
    refine ⟨fun j vs S' => ∃ d4, vs = [d4, some (.int (botN (((keysT ps).take j).map fun k => ps.count k)))] ∧ S' = S2, [d4, some (.int 1)], rfl, rfl, ⟨d4, rfl, rfl⟩, ?_, ?_⟩
    · rintro j d vs S3 hj hv ⟨e4, rfl, rfl⟩
      have hj : ((keysT ps).map D.int)[j]? = some d := hj
      rw [List.getElem?_map] at hj
      obtain ⟨x, hx, rfl⟩ := Option.map_eq_some_iff.mp hj
      have hg := hct x (keysT_mem.mp (List.mem_of_getElem? hx))
      have hcx := hcount x
      have hst : botN (((keysT ps).take (j + 1)).map fun k => ps.count k) = botN (((keysT ps).take j).map fun k => ps.count k) * ps.count x := by
        unfold botN
        rw [List.take_succ, hx, List.map_append, List.foldl_append]
        rfl
      generalize botN (((keysT ps).take j).map fun k => ps.count k) = b at *
      refine ⟨_, rfl, ?_⟩
      dsimp only [putAll, List.set_cons_zero, List.set_cons_succ]
      unfold lb_due_3
      walk_at "w"
      exact ⟨[some (.int x), some (.int ((b : Int) * (ps.count x : Int)))], rfl, rfl, _, by rw [hst]; push_cast; rfl, rfl⟩
    · rintro vs S3 hv ⟨e4, rfl, rfl⟩
      have hkk : (isI ((cntT ps).map (·.1))) = keysT ps := rfl
      rw [hkk, List.length_map, List.take_length]
      have hBB : botN ((keysT ps).map fun k => ps.count k) = Bt ps := rfl
      rw [hBB]
      dsimp only [putAll, List.set_cons_zero, List.set_cons_succ]
      walk_at "w"
      have h4 : (S3 ++ [some (.dic false (kI []))])[S3.length]? = some (some (.dic false (kI []))) := app_at
      generalize S3 ++ [some (.dic false (kI []))] = S4 at *
      generalize S3.length = n2 at *
      walk_at "w"
      unfold l_due_4
      refine ws_for [3] ?_
      walk_at "w"
      refine ⟨_, Or.inr (dkl_A tI N), ?_⟩
      refine ⟨fun j vs S' => ∃ d3, vs = [d3] ∧ S'[n2]? = some (some (.dic false (kI ((N.take j).map fun p => (p.1, (topN sz ps p.2 : Int)))))), [d3], rfl, rfl, ⟨d3, rfl, h4⟩, ?_, ?_⟩
      · rintro j d vs S5 hj hv ⟨e3, rfl, h5⟩
        rw [List.getElem?_map, List.getElem?_map] at hj
        obtain ⟨k, hk, rfl⟩ := Option.map_eq_some_iff.mp hj
        obtain ⟨p, hp, rfl⟩ := Option.map_eq_some_iff.mp hk
        have hpm := List.mem_of_getElem? hp
        have hga := getA_at h.nd hpm
        have hpl := (h.sub p hpm).1
        refine ⟨_, rfl, ?_⟩
        dsimp only [putAll, List.set_cons_zero, List.set_cons_succ]
        unfold lb_due_4
        refine ws_setI ?_
        walk_at "w"
        unfold c_due_1
        refine wp_comp_map p.2 D.int (fun _ => true) (fun x => .int (((szN sz x : Int) * (Bt ps : Int)) / (ps.count x : Int))) (by omega) ?_
        walk_at "w"
        refine vo_ixA hga ?_
        unfold tI
        refine ⟨_, Or.inl rfl, rfl, fun x hx => ⟨_, rfl, ?_, fun _ => ?_⟩, ?_⟩
        · walk_at "w"
          exact ⟨rfl, rfl⟩
        · have g1 := hsz x ((h.sub p hpm).2.2 x hx)
          have g2 := hct x (hmem p hpm x hx)
          have hc0 : 0 < ps.count x := List.count_pos_iff.mpr (hmem p hpm x hx)
          have hcx := hcount x
          unfold ce_due_1
          walk_at "w"
          exact ⟨rfl, rfl⟩
        have e5 : ((p.2.filter fun _ => true).map fun x => D.int (((szN sz x : Int) * (Bt ps : Int)) / (ps.count x : Int))) = (p.2.map fun x => ((szN sz x : Int) * (Bt ps : Int)) / (ps.count x : Int)).map D.int := by
          have ft : (p.2.filter fun _ => true) = p.2 := List.filter_eq_self.mpr fun _ _ => rfl
          rw [ft, List.map_map]
          rfl
        rw [e5]
        walk_at "w"
        refine wo_sumL ?_
        rw [topN_eq sz fun x hx => hmem p hpm x hx]
        walk_at "w"
        refine ⟨n2, _, p.1, _, rfl, rfl, rfl, h5, by rw [List.length_map, List.length_take]; omega, ?_⟩
        rw [putI_new (nd_new _ h.nd hp)]
        refine ⟨[_], rfl, rfl, _, rfl, ?_⟩
        rw [List.take_succ, hp, List.map_append]
        exact set_at h5
      · rintro vs S5 hv ⟨e3, rfl, h5⟩
        rw [List.length_map, List.length_map, List.take_length] at h5
        dsimp only [putAll, List.set_cons_zero, List.set_cons_succ]
        refine ws_then ?_
        refine ws_frzD rfl h5 ?_
        dsimp only [List.set_cons_zero, List.set_cons_succ]
        walk_at "w"
        unfold c_due_2
        refine wp_comp_map ((cntT ps).map (·.1)) D.int (fun _ => true) (fun x => .int (szN sz x)) (by rw [List.length_map]; omega) ?_
        walk_at "w"
        refine ⟨_, Or.inr (dkl_I (cntT ps)), rfl, fun x hx => ⟨_, rfl, ?_, fun _ => ?_⟩, ?_⟩
        · walk_at "w"
          exact ⟨rfl, rfl⟩
        · have g1 := hsz x (hin x (cnt_key.mp hx))
          unfold ce_due_2
          walk_at "w"
          exact ⟨rfl, rfl⟩
        have e6 : ((((cntT ps).map (·.1)).filter fun _ => true).map fun x => D.int (szN sz x)) = ((cntT ps).map fun p => (szN sz p.1 : Int)).map D.int := by
          have ft : (((cntT ps).map (·.1)).filter fun _ => true) = (cntT ps).map (·.1) := List.filter_eq_self.mpr fun _ _ => rfl
          rw [ft, List.map_map, List.map_map]
          rfl
        rw [e6]
        walk_at "w"
        refine wo_sumL ?_
        walk_at "w"
        exact ⟨by simp [noRef, noRefs, noRef_dI], q⟩
end C48

/-! ## K48t -/
set_option Elab.async false
set_option linter.all false
set_option maxRecDepth 100000
set_option maxHeartbeats 4000000
namespace C48
open DL LF
local macro_rules | `(tactic| walk_at "w1") => `(tactic| with_reducible first
  | (refine ws_then ?_; try with_reducible dsimp only [List.set_cons_zero, List.set_cons_succ]) | refine ws_seq ?_ | refine ws_asg ?_ | refine ws_expr ?_ | refine ws_ret ?_ | refine ws_if ?_ | refine ws_asgT ?_ | refine ws_skip ?_ | refine ws_retN ?_ | refine ws_brk ?_ | refine ws_cont ?_ | refine ws_thenR ?_ | refine ws_thenB ?_ | refine ws_thenC ?_ | refine fq_rt ?_ | refine fq_nx ?_ | refine un_nx ?_ | refine un_ct ?_ | refine un_bk ?_ | refine un_rt ?_ | refine ws_loopN ?_
  | (refine ws_loopC (ρ1 := ?r) ?h ?q; (case h => with_unfolding_all rfl); try with_reducible dsimp only [List.set_cons_zero, List.set_cons_succ])
  | refine wp_c ?_ | refine wp_op2 ?_ | refine wp_fn ?_ | refine wp_cons ?_ | refine wp_nil ?_ | refine wp_call ?_ | refine wp_op1 ?_
  | (refine wp_var (d := ?d) ?h ?q; (case h => with_unfolding_all rfl))
  | (refine ws_aug (d := ?d) ?h ?q; (case h => with_unfolding_all rfl))
  | refine wp_tup ?_ | refine wp_lst ?_ | refine wp_lstM ?_ | refine wp_listM ?_
  | refine wp_sl0 ?_ | refine wp_sl1 ?_ | refine wp_sl2 ?_ | refine wp_sl3 ?_
  | refine wp_tval ?_ | refine wp_tnot ?_ | refine wp_tand ?_ | refine wp_tor ?_ | refine wp_tyes ?_ | refine wp_and ?_ | refine wp_or ?_ | refine wp_not ?_ | refine wp_ifx ?_ | refine wp_chain ?_ | refine wp_meth ?_ | refine wp_meth0 ?_
  | refine wp_isi ?_ | refine wp_isis ?_ | refine wp_repr ?_ | refine wp_maxD ?_ | refine wi_rng3 ?_
  | refine ws_par ?_ | refine wp_dnew ?_ | refine wp_get2 ?_ | refine wp_reprQ ?_ | refine wp_fnK ?_ | refine wi_valsI ?_ | refine wi_itemsI ?_ | refine ws_augI ?_
  | refine wi_seq ?_ | refine wi_rng1 ?_ | refine wi_rng2 ?_ | refine wi_zip2 ?_ | refine wi_zipS ?_
  | (refine wp_fnB (ρ := ?ρ) ?he ?_; (case he => (simp only [List.map_cons, List.map_nil, List.length_cons, List.length_nil, List.replicate, List.cons_append, List.nil_append, Nat.reduceAdd, Nat.reduceSub]; rfl))))
local macro_rules | `(tactic| walk_at "w2") => `(tactic| ((with_reducible refine wo_id ?_); with_reducible first
  | refine vo_sub ?_ | refine vo_add ?_ | refine vo_lt ?_ | refine vo_le ?_ | refine vo_gt ?_ | refine vo_ge ?_ | refine vo_eq ?_ | refine vo_ne ?_ | refine vo_eqS ?_ | refine vo_neS ?_ | refine vo_eqB ?_ | refine vo_neB ?_ | refine vo_neg ?_ | refine vo_slT ?_ | refine vo_slL ?_ | refine vo_slS ?_ | refine vo_lenT ?_ | refine vo_lenL ?_ | refine vo_lenS ?_ | refine vo_revT ?_ | refine vo_revL ?_ | refine vo_min ?_ | refine vo_max ?_ | refine vo_tupL ?_ | refine vo_tupT ?_ | refine vo_lisL ?_ | refine vo_lisT ?_
  | refine vo_igAdd ?_ | refine vo_igMulR (by omega) ?_ | refine vo_igMulL (by omega) ?_ | refine vo_mod (by omega) ?_ | refine vo_div (by omega) ?_ | refine vo_mulR (by omega) ?_ | refine vo_mulL (by omega) ?_
  | refine vo_ixL0 ?_ | refine vo_ixL1 ?_ | refine vo_ixL2 ?_ | refine vo_ixL3 ?_ | refine vo_ixL4 ?_ | refine vo_ixL5 ?_ | refine vo_ixL6 ?_ | refine vo_ixT0 ?_ | refine vo_ixT1 ?_ | refine vo_ixT2 ?_ | refine vo_ixT3 ?_ | refine vo_ixT4 ?_ | refine vo_ixT5 ?_ | refine vo_ixT6 ?_
  | refine vo_inT ?_ | refine vo_ninT ?_ | refine vo_inL ?_ | refine vo_ninL ?_ | refine vo_inI ?_ | refine vo_ninI ?_ | refine vo_sortI (by first | assumption | omega) ?_ | refine vo_sortL ?_ | refine vo_lenI ?_ | refine vo_lt3 ?_ | refine vo_isNN ?_ | refine vo_is3N ?_ | refine vo_isTN ?_ | refine vo_isIN ?_ | refine vo_igAddI ?_ | refine vo_ixI (by assumption) ?_
  | refine vo_vwD1 (by assumption) ?_ | refine vo_vwDc (by assumption) ?_
  | refine wo_vw1 (by assumption) ?_ | refine wo_vw2 (by assumption) ?_ | refine vo_vwc (by assumption) ?_
  | (refine vo_isi (c := ?c) ?h ?q; (case h => with_unfolding_all rfl)) | (refine vo_isis (c := ?c) ?h ?q; (case h => with_unfolding_all rfl))))
local macro_rules | `(tactic| walk_at "w3") => `(tactic| first
  | with_reducible refine ite_f ?_ | with_reducible refine ite_nt ?_ | with_reducible refine ite_nf ?_ | with_reducible refine ite_t ?_
  | ((with_reducible refine ex_id ?_); refine ⟨_, rfl, ?_⟩) | ((with_reducible refine and_id ?_); refine ⟨Nat.le_of_ble_eq_true rfl, ?_⟩))
local macro_rules | `(tactic| walk_at "w") => `(tactic| repeat (first | walk_at "w1" | walk_at "w2" | walk_at "w3"))

/-- all of it can be shown -/
structure Bd (N : TN) (sz : TB) : Prop where
  n : ∀ p ∈ N, (0 ≤ p.1 ∧ p.1 ≤ 1000000) ∧ ∀ x ∈ p.2, 0 ≤ x ∧ x ≤ 10000000000000000000000000000000
  s : ∀ p ∈ sz, (0 ≤ p.1 ∧ p.1 ≤ 10000000000000000000000000000000) ∧ 0 ≤ p.2 ∧ p.2 ≤ 10000000000000000000000000000000
theorem getI_at : ∀ {m : TB} {k v : Int}, (m.map (·.1)).Nodup → (k, v) ∈ m → getI m k = some v
  | [], k, v, _, h => by simp at h
  | r :: m, k, v, hn, h => by
    rw [List.map_cons] at hn
    have hn' := List.nodup_cons.mp hn
    unfold getI
    rcases List.mem_cons.mp h with e | hm
    · rw [← e]; simp
    · have : ¬ r.1 = k := fun z => hn'.1 (by rw [z]; exact List.mem_map_of_mem (f := (·.1)) hm)
      rw [if_neg this]
      exact getI_at hn'.2 hm
theorem both_q {r : Nat → Option PySem.PyData} {N : TN} {sz : TB} (h : Nd N sz) (b : Bd N sz) : QD r (.lst [dA tI N, dI sz]) (.list [.dict (N.map fun p => (.int p.1, .tuple (p.2.map .int))), .dict (sz.map fun p => (.int p.1, .int p.2))]) 1000 3 := by
  have h1 := QD.tab (r := r) (f := tI) (g := fun xs => .tuple (xs.map PySem.PyData.int)) (w := 9) (h := 1) (l := N) fun p hp => ⟨by have := (b.n p hp).1; omega, (QD.tup (QDs.ints fun x hx => by have := (b.n p hp).2 x hx; omega)).mono (by have := (h.sub p hp).1; omega) (by omega)⟩
  have h2 := QD.tab (r := r) (f := D.int) (g := PySem.PyData.int) (w := 1) (h := 0) (l := sz) fun p hp => ⟨by have := b.s p hp; omega, QD.int (by have := b.s p hp; omega)⟩
  have h3 := QD.lst (QDs.cons (h1.mono (Nat.le_refl _) (Nat.le_refl _)) (QDs.cons (h2.mono (Nat.le_refl _) (by omega)) QDs.nil))
  exact h3.mono (by have := h.len; have := h.szl; omega) (by omega)
def shF (sz : TB) (N : TN) (p : Int × List Int) : Int × (Nat × Nat) := (p.1, shr (prs sz (pcs N) p.2))
theorem shr_fit {N : TN} {sz : TB} (h : Nd N sz) {p : Int × List Int} (hp : p ∈ N) : 0 < (shr (prs sz (pcs N) p.2)).2 ∧ (shr (prs sz (pcs N) p.2)).2 ≤ 720720 ∧ Nat.gcd (shr (prs sz (pcs N) p.2)).1 (shr (prs sz (pcs N) p.2)).2 = 1 ∧ (shr (prs sz (pcs N) p.2)).1 * Bt (pcs N) = (shr (prs sz (pcs N) p.2)).2 * topN sz (pcs N) p.2 := by
  have hm : ∀ x ∈ p.2, x ∈ pcs N := fun x hx => List.mem_flatMap.mpr ⟨p, hp, hx⟩
  have hr : ∀ r ∈ prs sz (pcs N) p.2, 0 < r.2 ∧ r.2 ≤ 16 := fun r hr => by
    obtain ⟨x, hx, rfl⟩ := List.mem_map.mp hr
    have := pcs_count (N := N) (fun p hp => (h.sub p hp).2.1) x
    have := h.len
    exact ⟨List.count_pos_iff.mpr (hm x hx), by dsimp only; omega⟩
  obtain ⟨h1, h2, h3⟩ := shr_ok (Bt := Bt (pcs N)) (ps := prs sz (pcs N) p.2) fun r hr' => ⟨(hr r hr').1, by
    obtain ⟨x, hx, rfl⟩ := List.mem_map.mp hr'
    exact Bt_dvd (hm x hx)⟩
  refine ⟨h1, shr_le hr, h2, ?_⟩
  rw [h3]
  unfold topN prs
  rw [List.map_map]
  rfl
theorem sum_tops {N : TN} (sz : TB) {ps : List Int} (h : ∀ p ∈ N, ∀ x ∈ p.2, x ∈ ps) : (N.map fun p => (topN sz ps p.2 : Int)).sum = ((pcs N).map fun p => ((szN sz p * (Bt ps / ps.count p) : Nat) : Int)).sum := by
  induction N with
  | nil => simp [pcs]
  | cons p N ih =>
    have := ih fun q hq => h q (by simp [hq])
    unfold pcs at *
    rw [List.flatMap_cons, List.map_append, List.sum_append, List.map_cons, List.sum_cons, this]
    congr 1
    unfold topN
    generalize p.2 = xs
    induction xs with
    | nil => simp
    | cons x xs ih2 =>
      simp only [List.map_cons, List.sum_cons]
      rw [← ih2]
      push_cast
      rfl
theorem wp_right {S : Sto} {N : TN} {sz : TB} {Q : D → Sto → Prop} {E : Px} (h : Nd N sz) (b : Bd N sz) (q : Q (.bl true) S) : Wp (d_right [dA tI N, dI sz] S) Q E := by
  refine wp_fnP (by simp [noRefs, noRef_N, noRef_dI]) ?_
  unfold b_right
  walk_at "w"
  refine ex_q (both_q h b) ?_
  walk_at "w"
  refine wp_due h ?_
  walk_at "w"
  refine wp_shared h fun n S1 hn x1 h1 => ?_
  have hmem : ∀ p ∈ N, ∀ x ∈ p.2, x ∈ pcs N := fun p hp x hx => List.mem_flatMap.mpr ⟨p, hp, hx⟩
  have hN64 : (N.map (shF sz N)).length < 64 := by have := h.len; rw [List.length_map]; omega
  have hNk : N.length < 64 := by have := h.len; omega
  have h1 : S1[n]? = some (some (.dic false (kA fD (N.map (shF sz N))))) := h1
  have hkk : (N.map (shF sz N)).map (·.1) = N.map (·.1) := by rw [List.map_map]; rfl
  have hNd : ((N.map (shF sz N)).map (·.1)).Nodup := by rw [hkk]; exact h.nd
  walk_at "w"
  unfold i_right_1
  walk_at "w"
  have hvw : view S1 (.ref n) = dA fD (N.map (shF sz N)) := by simp only [view, h1]; rfl
  rw [hvw]
  refine .of (d := .bl true) rfl ?_
  walk_at "w"
  refine vo_vwAc h1 ?_
  refine vo_sortA hN64 ?_
  walk_at "w"
  refine vo_sortA hNk ?_
  walk_at "w"
  refine .of (neD_of (eqD_lstI _ _)) ?_
  rw [hkk]
  walk_at "w"
  refine ite_nd (fun h => absurd rfl h) (fun _ => ?_)
  walk_at "w"
  unfold l_right_1
  refine ws_for [7] ?_
  walk_at "w"
  refine ⟨_, Or.inr (dkl_A tI N), ?_⟩
  refine ⟨fun j vs S' => ∃ d7, vs = [d7] ∧ S' = S1, [none], rfl, rfl, ⟨none, rfl, rfl⟩, ?_, ?_⟩
  · rintro j d vs S' hj hv ⟨d7, rfl, rfl⟩
    rw [List.getElem?_map, List.getElem?_map] at hj
    obtain ⟨k, hk, rfl⟩ := Option.map_eq_some_iff.mp hj
    obtain ⟨p, hp, rfl⟩ := Option.map_eq_some_iff.mp hk
    have hpm := List.mem_of_getElem? hp
    have hga : getA (N.map (shF sz N)) p.1 = some (shr (prs sz (pcs N) p.2)) := getA_at (p := shF sz N p) hNd (List.mem_map_of_mem hpm)
    obtain ⟨f1, f2, f3, f4⟩ := shr_fit h hpm
    have hBl := Bt_le h
    have htp : getI (N.map fun p => (p.1, (topN sz (pcs N) p.2 : Int))) p.1 = some (topN sz (pcs N) p.2 : Int) := by
      have hnd2 : ((N.map fun p => (p.1, (topN sz (pcs N) p.2 : Int))).map (·.1)).Nodup := by rw [List.map_map]; exact h.nd
      have hm2 : (p.1, (topN sz (pcs N) p.2 : Int)) ∈ N.map fun p => (p.1, (topN sz (pcs N) p.2 : Int)) := List.mem_map_of_mem (f := fun p : Int × List Int => (p.1, (topN sz (pcs N) p.2 : Int))) hpm
      exact getI_at hnd2 hm2
    generalize shr (prs sz (pcs N) p.2) = z at *
    refine ⟨_, rfl, ?_⟩
    dsimp only [putAll, List.set_cons_zero, List.set_cons_succ]
    unfold lb_right_1 i_right_2
    walk_at "w"
    refine vo_vwA1 h1 (vo_ixA hga ?_)
    walk_at "w"
    refine wp_is_lowest f1 f2 f3 ?_
    walk_at "w"
    refine vo_vwA1 h1 (vo_ixA hga ?_)
    unfold fD
    walk_at "w"
    refine vo_vwA1 h1 (vo_ixA hga ?_)
    unfold fD
    walk_at "w"
    have e : (z.1 : Int) * (Bt (pcs N) : Int) = (topN sz (pcs N) p.2 : Int) * (z.2 : Int) := by
      rw [← Int.natCast_mul, f4, Nat.mul_comm]
      push_cast
      rfl
    refine ite_nd (fun hh => absurd e hh) (fun _ => ?_)
    walk_at "w"
    exact ⟨[_], rfl, rfl, _, rfl, rfl⟩
  · rintro vs S' hv ⟨d7, rfl, rfl⟩
    dsimp only [putAll, List.set_cons_zero, List.set_cons_succ]
    walk_at "w"
    refine wp_dclr ?_
    walk_at "w"
    refine ⟨n, _, rfl, h1, ?_⟩
    walk_at "w"
    refine wp_sumV ?_
    have hBl := Bt_le h
    have hs : (N.map fun p => (topN sz (pcs N) p.2 : Int)).sum = whole sz (pcs N) * (Bt (pcs N) : Int) := by
      rw [sum_tops sz hmem, tops_sum (fun p => szN sz p) (pcs N) fun p hp => Bt_dvd hp]
      rfl
    walk_at "w"
    refine ⟨_, N.map fun p => (topN sz (pcs N) p.2 : Int), rfl, ?_, ?_⟩
    · rw [vals_I, asIs_I, List.map_map]
      rfl
    rw [hs]
    walk_at "w"
    refine ite_d (fun _ => ?_) (fun h => absurd rfl h)
    walk_at "w"
    refine ex_q (both_q h b) ?_
    walk_at "w"
    rw [decide_eq_true rfl]
    exact ⟨rfl, q⟩
end C48

/-! ## K48u -/
set_option Elab.async false
set_option linter.all false
set_option maxRecDepth 100000
set_option maxHeartbeats 4000000
namespace C48
open DL LF
local macro_rules | `(tactic| walk_at "w1") => `(tactic| with_reducible first
  | (refine ws_then ?_; try with_reducible dsimp only [List.set_cons_zero, List.set_cons_succ]) | refine ws_seq ?_ | refine ws_asg ?_ | refine ws_expr ?_ | refine ws_ret ?_ | refine ws_if ?_ | refine ws_asgT ?_ | refine ws_skip ?_ | refine ws_retN ?_ | refine ws_brk ?_ | refine ws_cont ?_ | refine ws_thenR ?_ | refine ws_thenB ?_ | refine ws_thenC ?_ | refine fq_rt ?_ | refine fq_nx ?_ | refine un_nx ?_ | refine un_ct ?_ | refine un_bk ?_ | refine un_rt ?_ | refine ws_loopN ?_
  | (refine ws_loopC (ρ1 := ?r) ?h ?q; (case h => with_unfolding_all rfl); try with_reducible dsimp only [List.set_cons_zero, List.set_cons_succ])
  | refine wp_c ?_ | refine wp_op2 ?_ | refine wp_fn ?_ | refine wp_cons ?_ | refine wp_nil ?_ | refine wp_call ?_ | refine wp_op1 ?_
  | (refine wp_var (d := ?d) ?h ?q; (case h => with_unfolding_all rfl))
  | (refine ws_aug (d := ?d) ?h ?q; (case h => with_unfolding_all rfl))
  | refine wp_tup ?_ | refine wp_lst ?_ | refine wp_lstM ?_ | refine wp_listM ?_
  | refine wp_sl0 ?_ | refine wp_sl1 ?_ | refine wp_sl2 ?_ | refine wp_sl3 ?_
  | refine wp_tval ?_ | refine wp_tnot ?_ | refine wp_tand ?_ | refine wp_tor ?_ | refine wp_tyes ?_ | refine wp_and ?_ | refine wp_or ?_ | refine wp_not ?_ | refine wp_ifx ?_ | refine wp_chain ?_ | refine wp_meth ?_ | refine wp_meth0 ?_
  | refine wp_isi ?_ | refine wp_isis ?_ | refine wp_repr ?_ | refine wp_maxD ?_ | refine wi_rng3 ?_
  | refine ws_par ?_ | refine wp_dnew ?_ | refine wp_get2 ?_ | refine wp_reprQ ?_ | refine wp_fnK ?_ | refine wi_valsI ?_ | refine wi_itemsI ?_ | refine ws_augI ?_
  | refine wi_seq ?_ | refine wi_rng1 ?_ | refine wi_rng2 ?_ | refine wi_zip2 ?_ | refine wi_zipS ?_
  | (refine wp_fnB (ρ := ?ρ) ?he ?_; (case he => (simp only [List.map_cons, List.map_nil, List.length_cons, List.length_nil, List.replicate, List.cons_append, List.nil_append, Nat.reduceAdd, Nat.reduceSub]; rfl))))
local macro_rules | `(tactic| walk_at "w2") => `(tactic| ((with_reducible refine wo_id ?_); with_reducible first
  | refine vo_sub ?_ | refine vo_add ?_ | refine vo_lt ?_ | refine vo_le ?_ | refine vo_gt ?_ | refine vo_ge ?_ | refine vo_eq ?_ | refine vo_ne ?_ | refine vo_eqS ?_ | refine vo_neS ?_ | refine vo_eqB ?_ | refine vo_neB ?_ | refine vo_neg ?_ | refine vo_slT ?_ | refine vo_slL ?_ | refine vo_slS ?_ | refine vo_lenT ?_ | refine vo_lenL ?_ | refine vo_lenS ?_ | refine vo_revT ?_ | refine vo_revL ?_ | refine vo_min ?_ | refine vo_max ?_ | refine vo_tupL ?_ | refine vo_tupT ?_ | refine vo_lisL ?_ | refine vo_lisT ?_
  | refine vo_igAdd ?_ | refine vo_igMulR (by omega) ?_ | refine vo_igMulL (by omega) ?_ | refine vo_mod (by omega) ?_ | refine vo_div (by omega) ?_ | refine vo_mulR (by omega) ?_ | refine vo_mulL (by omega) ?_
  | refine vo_ixL0 ?_ | refine vo_ixL1 ?_ | refine vo_ixL2 ?_ | refine vo_ixL3 ?_ | refine vo_ixL4 ?_ | refine vo_ixL5 ?_ | refine vo_ixL6 ?_ | refine vo_ixT0 ?_ | refine vo_ixT1 ?_ | refine vo_ixT2 ?_ | refine vo_ixT3 ?_ | refine vo_ixT4 ?_ | refine vo_ixT5 ?_ | refine vo_ixT6 ?_
  | refine vo_inT ?_ | refine vo_ninT ?_ | refine vo_inL ?_ | refine vo_ninL ?_ | refine vo_inI ?_ | refine vo_ninI ?_ | refine vo_sortI (by first | assumption | omega) ?_ | refine vo_sortL ?_ | refine vo_lenI ?_ | refine vo_lt3 ?_ | refine vo_isNN ?_ | refine vo_is3N ?_ | refine vo_isTN ?_ | refine vo_isIN ?_ | refine vo_igAddI ?_ | refine vo_ixI (by assumption) ?_
  | refine vo_vwD1 (by assumption) ?_ | refine vo_vwDc (by assumption) ?_
  | refine wo_vw1 (by assumption) ?_ | refine wo_vw2 (by assumption) ?_ | refine vo_vwc (by assumption) ?_
  | (refine vo_isi (c := ?c) ?h ?q; (case h => with_unfolding_all rfl)) | (refine vo_isis (c := ?c) ?h ?q; (case h => with_unfolding_all rfl))))
local macro_rules | `(tactic| walk_at "w3") => `(tactic| first
  | with_reducible refine ite_f ?_ | with_reducible refine ite_nt ?_ | with_reducible refine ite_nf ?_ | with_reducible refine ite_t ?_
  | ((with_reducible refine ex_id ?_); refine ⟨_, rfl, ?_⟩) | ((with_reducible refine and_id ?_); refine ⟨Nat.le_of_ble_eq_true rfl, ?_⟩))
local macro_rules | `(tactic| walk_at "w") => `(tactic| repeat (first | walk_at "w1" | walk_at "w2" | walk_at "w3"))

/-- the sizes -/
structure SzOk (l : TB) : Prop where
  len : l.length ≤ 8
  nd : (l.map (·.1)).Nodup
  ok : ∀ p ∈ l, (0 ≤ p.1 ∧ p.1 ≤ 10000000000000000000000000000000) ∧ 0 ≤ p.2 ∧ p.2 ≤ 10000000000000000000000000000000
theorem pow1030 : powD (.int 10) (.int 30) = some (.int 1000000000000000000000000000000) := by
  rw [powD_k (by decide) (by decide) (by decide)]
  rfl
theorem ws_sizes {a0 a4 a5 a6 a7 a8 a9 b0 b1 b2 b3 b4 b5 b6 : Option D} {S : Sto} {n : Nat} {kk turn : Int} {Q : Fl → Sto → Prop} {E : Xs} (ht : 0 ≤ turn ∧ turn ≤ 4) (h : JarS S 0 kk) (hk : kk ≤ 700000000) (hn : n ≠ 0) (h0 : S[n]? = some (some (.dic false (kI []))))
    (q : ∀ l d4 d5 S', SzOk l → S'[n]? = some (some (.dic false (kI l))) → JarS S' 0 (kk + 24) → Q (.nx [a0, some (.ref 0), some (.int turn), some (.ref n), d4, d5, a6, a7, a8, a9, b0, b1, b2, b3, b4, b5, b6]) S') :
    Ws (l_law_1 [a0, some (.ref 0), some (.int turn), some (.ref n), a4, a5, a6, a7, a8, a9, b0, b1, b2, b3, b4, b5, b6] S) Q E := by
  unfold l_law_1
  refine ws_for [4, 5] ?_
  walk_at "w"
  refine ⟨by omega, ?_⟩
  refine ⟨fun j vs S' => ∃ d4 d5 l, vs = [d4, d5] ∧ S'[n]? = some (some (.dic false (kI l))) ∧ l.length ≤ j ∧ (l.map (·.1)).Nodup ∧ (∀ p ∈ l, (0 ≤ p.1 ∧ p.1 ≤ 10000000000000000000000000000000) ∧ 0 ≤ p.2 ∧ p.2 ≤ 10000000000000000000000000000000) ∧ JarS S' 0 (kk + 3 * j), [a4, a5], rfl, rfl, ⟨a4, a5, [], rfl, h0, Nat.le_refl _, .nil, fun p hp => by simp at hp, h.mono (by omega)⟩, ?_, ?_⟩
  · rintro j d vs S1 hj hv ⟨d4, d5, l, rfl, h1, hl, hnd, hok, p1⟩
    have hj' := (List.getElem?_eq_some_iff.mp hj).1
    rw [iRng_len] at hj'
    have ed := (iRng_at hj).1
    rw [Int.zero_add] at ed
    subst ed
    refine ⟨_, rfl, ?_⟩
    dsimp only [putAll, List.set_cons_zero, List.set_cons_succ]
    unfold lb_law_1
    walk_at "w"
    refine wp_adraw p1 (by omega) (by omega) (by decide) fun v1 S2 x1 y1 p2 o2 => ?_
    have h2 := (o2.2 n hn).trans h1
    walk_at "w"
    refine .of pow1030 ?_
    walk_at "w"
    refine wp_adraw p2 (by omega) (by omega) (by decide) fun v2 S3 x2 y2 p3 o3 => ?_
    have h3 := (o3.2 n hn).trans h2
    walk_at "w"
    refine wp_adraw p3 (by omega) (by omega) (by decide) fun v3 S4 x3 y3 p4 o4 => ?_
    have h4 := (o4.2 n hn).trans h3
    refine wo_pick (zs := [v1, 0, 1, v2]) rfl ⟨by omega, by simp; omega⟩ fun z hz => ?_
    have hz' : 0 ≤ z ∧ z ≤ 1000000000000000000000000000000 := by simp at hz; omega
    refine ws_then ?_
    dsimp only [List.set_cons_zero, List.set_cons_succ]
    refine ws_setI ?_
    walk_at "w"
    refine .of pow1030 ?_
    walk_at "w"
    refine wo_pick (zs := [1, 7, 1000000000000000000000000000000]) rfl ⟨by omega, by simp; omega⟩ fun m hm => ?_
    have hm' : 0 ≤ m ∧ m ≤ 1000000000000000000000000000000 := by simp at hm; omega
    walk_at "w"
    have hb : 0 ≤ (j : Int) * m ∧ (j : Int) * m ≤ 8 * 1000000000000000000000000000000 := mulB (by omega) (by omega) hm'.1 hm'.2
    refine ⟨n, l, (j : Int) * m, z, rfl, rfl, rfl, h4, by omega, ?_⟩
    refine ⟨[some (.int j), some (.int z)], rfl, rfl, _, _, putI l ((j : Int) * m) z, rfl, set_at h4, by have := put_len l ((j : Int) * m) z; omega, put_nd hnd, fun p hp => ?_, (p4.only .set (Ne.symm hn)).mono (by omega)⟩
    rcases put_mem hp with hp | rfl
    · exact hok p hp
    · exact ⟨⟨hb.1, by dsimp only; omega⟩, hz'.1, by dsimp only; omega⟩
  · rintro vs S1 hv ⟨d4, d5, l, rfl, h1, hl, hnd, hok, p1⟩
    rw [iRng_len] at hl p1
    exact q l d4 d5 S1 ⟨by omega, hnd, hok⟩ h1 (p1.mono (by omega))
end C48

/-! ## K48v -/
set_option Elab.async false
set_option linter.all false
set_option maxRecDepth 100000
set_option maxHeartbeats 4000000
namespace C48
open DL LF
local macro_rules | `(tactic| walk_at "w1") => `(tactic| with_reducible first
  | (refine ws_then ?_; try with_reducible dsimp only [List.set_cons_zero, List.set_cons_succ]) | refine ws_seq ?_ | refine ws_asg ?_ | refine ws_expr ?_ | refine ws_ret ?_ | refine ws_if ?_ | refine ws_asgT ?_ | refine ws_skip ?_ | refine ws_retN ?_ | refine ws_brk ?_ | refine ws_cont ?_ | refine ws_thenR ?_ | refine ws_thenB ?_ | refine ws_thenC ?_ | refine fq_rt ?_ | refine fq_nx ?_ | refine un_nx ?_ | refine un_ct ?_ | refine un_bk ?_ | refine un_rt ?_ | refine ws_loopN ?_
  | (refine ws_loopC (ρ1 := ?r) ?h ?q; (case h => with_unfolding_all rfl); try with_reducible dsimp only [List.set_cons_zero, List.set_cons_succ])
  | refine wp_c ?_ | refine wp_op2 ?_ | refine wp_fn ?_ | refine wp_cons ?_ | refine wp_nil ?_ | refine wp_call ?_ | refine wp_op1 ?_
  | (refine wp_var (d := ?d) ?h ?q; (case h => with_unfolding_all rfl))
  | (refine ws_aug (d := ?d) ?h ?q; (case h => with_unfolding_all rfl))
  | refine wp_tup ?_ | refine wp_lst ?_ | refine wp_lstM ?_ | refine wp_listM ?_
  | refine wp_sl0 ?_ | refine wp_sl1 ?_ | refine wp_sl2 ?_ | refine wp_sl3 ?_
  | refine wp_tval ?_ | refine wp_tnot ?_ | refine wp_tand ?_ | refine wp_tor ?_ | refine wp_tyes ?_ | refine wp_and ?_ | refine wp_or ?_ | refine wp_not ?_ | refine wp_ifx ?_ | refine wp_chain ?_ | refine wp_meth ?_ | refine wp_meth0 ?_
  | refine wp_isi ?_ | refine wp_isis ?_ | refine wp_repr ?_ | refine wp_maxD ?_ | refine wi_rng3 ?_
  | refine ws_par ?_ | refine wp_dnew ?_ | refine wp_get2 ?_ | refine wp_reprQ ?_ | refine wp_fnK ?_ | refine wi_valsI ?_ | refine wi_itemsI ?_ | refine ws_augI ?_
  | refine wi_seq ?_ | refine wi_rng1 ?_ | refine wi_rng2 ?_ | refine wi_zip2 ?_ | refine wi_zipS ?_
  | (refine wp_fnB (ρ := ?ρ) ?he ?_; (case he => (simp only [List.map_cons, List.map_nil, List.length_cons, List.length_nil, List.replicate, List.cons_append, List.nil_append, Nat.reduceAdd, Nat.reduceSub]; rfl))))
local macro_rules | `(tactic| walk_at "w2") => `(tactic| ((with_reducible refine wo_id ?_); with_reducible first
  | refine vo_sub ?_ | refine vo_add ?_ | refine vo_lt ?_ | refine vo_le ?_ | refine vo_gt ?_ | refine vo_ge ?_ | refine vo_eq ?_ | refine vo_ne ?_ | refine vo_eqS ?_ | refine vo_neS ?_ | refine vo_eqB ?_ | refine vo_neB ?_ | refine vo_neg ?_ | refine vo_slT ?_ | refine vo_slL ?_ | refine vo_slS ?_ | refine vo_lenT ?_ | refine vo_lenL ?_ | refine vo_lenS ?_ | refine vo_revT ?_ | refine vo_revL ?_ | refine vo_min ?_ | refine vo_max ?_ | refine vo_tupL ?_ | refine vo_tupT ?_ | refine vo_lisL ?_ | refine vo_lisT ?_
  | refine vo_igAdd ?_ | refine vo_igMulR (by omega) ?_ | refine vo_igMulL (by omega) ?_ | refine vo_mod (by omega) ?_ | refine vo_div (by omega) ?_ | refine vo_mulR (by omega) ?_ | refine vo_mulL (by omega) ?_
  | refine vo_ixL0 ?_ | refine vo_ixL1 ?_ | refine vo_ixL2 ?_ | refine vo_ixL3 ?_ | refine vo_ixL4 ?_ | refine vo_ixL5 ?_ | refine vo_ixL6 ?_ | refine vo_ixT0 ?_ | refine vo_ixT1 ?_ | refine vo_ixT2 ?_ | refine vo_ixT3 ?_ | refine vo_ixT4 ?_ | refine vo_ixT5 ?_ | refine vo_ixT6 ?_
  | refine vo_inT ?_ | refine vo_ninT ?_ | refine vo_inL ?_ | refine vo_ninL ?_ | refine vo_inI ?_ | refine vo_ninI ?_ | refine vo_sortI (by first | assumption | omega) ?_ | refine vo_sortL ?_ | refine vo_lenI ?_ | refine vo_lt3 ?_ | refine vo_isNN ?_ | refine vo_is3N ?_ | refine vo_isTN ?_ | refine vo_isIN ?_ | refine vo_igAddI ?_ | refine vo_ixI (by assumption) ?_
  | refine vo_vwD1 (by assumption) ?_ | refine vo_vwDc (by assumption) ?_
  | refine wo_vw1 (by assumption) ?_ | refine wo_vw2 (by assumption) ?_ | refine vo_vwc (by assumption) ?_
  | (refine vo_isi (c := ?c) ?h ?q; (case h => with_unfolding_all rfl)) | (refine vo_isis (c := ?c) ?h ?q; (case h => with_unfolding_all rfl))))
local macro_rules | `(tactic| walk_at "w3") => `(tactic| first
  | with_reducible refine ite_f ?_ | with_reducible refine ite_nt ?_ | with_reducible refine ite_nf ?_ | with_reducible refine ite_t ?_
  | ((with_reducible refine ex_id ?_); refine ⟨_, rfl, ?_⟩) | ((with_reducible refine and_id ?_); refine ⟨Nat.le_of_ble_eq_true rfl, ?_⟩))
local macro_rules | `(tactic| walk_at "w") => `(tactic| repeat (first | walk_at "w1" | walk_at "w2" | walk_at "w3"))

theorem pow106 : powD (.int 10) (.int 6) = some (.int 1000000) := by
  rw [powD_k (by decide) (by decide) (by decide)]
  rfl
theorem ws_rev {a0 a4 a5 a6 a7 a8 a9 b0 b1 b2 b3 b4 b5 b6 : Option D} {S : Sto} {n : Nat} {l : TB} {kk turn : Int} {Q : Fl → Sto → Prop} {E : Xs} (hl : SzOk l) (h : JarS S 0 kk) (hn : n ≠ 0) (h0 : S[n]? = some (some (.dic false (kI l))))
    (q : ∀ n' l' S', SzOk l' → n' ≠ 0 → S'[n']? = some (some (.dic false (kI l'))) → JarS S' 0 kk → Q (.nx [a0, some (.ref 0), some (.int turn), some (.ref n'), a4, a5, a6, a7, a8, a9, b0, b1, b2, b3, b4, b5, b6]) S') :
    Ws (i_law_1 [a0, some (.ref 0), some (.int turn), some (.ref n), a4, a5, a6, a7, a8, a9, b0, b1, b2, b3, b4, b5, b6] S) Q E := by
  unfold i_law_1
  walk_at "w"
  refine ite_d (fun _ => ?_) (fun _ => ?_)
  · walk_at "w"
    refine wp_dictP ?_
    walk_at "w"
    refine wp_itemsL ?_
    walk_at "w"
    refine ⟨n, _, rfl, h0, ?_⟩
    walk_at "w"
    refine ⟨_, l.reverse.map fun p => (Sum.inl p.1, D.int p.2), rfl, ?_, ?_⟩
    · rw [← pairs_A D.int l.reverse]
      congr 1
      unfold kI
      rw [List.map_map, List.map_reverse]
      rfl
    · have e : mergeD [] (l.reverse.map fun p => (Sum.inl p.1, D.int p.2)) = kI l.reverse := by
        have := merge_A D.int l.reverse [] (by
          rw [List.nil_append, List.map_reverse]
          exact (List.reverse_perm _).nodup_iff.mpr hl.nd)
        exact this
      rw [e]
      have hS := h.lt
      exact q _ l.reverse _ ⟨by rw [List.length_reverse]; exact hl.len, by rw [List.map_reverse]; exact (List.reverse_perm _).nodup_iff.mpr hl.nd, fun p hp => hl.ok p (List.mem_reverse.mp hp)⟩ (by omega) app_at (h.ext .app)
  · walk_at "w"
    exact q n l S hl hn h0 h
/-- what is needed so far -/
structure NOk (N : TN) (sz : TB) (k : Nat) : Prop where
  len : N.length ≤ k
  nd : (N.map (·.1)).Nodup
  ok : ∀ p ∈ N, (0 ≤ p.1 ∧ p.1 ≤ 1000000) ∧ p.2.length ≤ 8 ∧ p.2.Nodup ∧ ∀ x ∈ p.2, x ∈ sz.map (·.1)
theorem putA_nd {α : Type} {l : List (Int × α)} {k : Int} {v : α} (h : (l.map (·.1)).Nodup) : ((putA l k v).map (·.1)).Nodup := by
  unfold putA
  split
  · have e : (l.map fun p => if p.1 = k then (p.1, v) else p).map (·.1) = l.map (·.1) := by
      rw [List.map_map]
      apply List.map_congr_left
      intro p _
      simp only [Function.comp]
      split <;> rfl
    rw [e]; exact h
  · rename_i hn
    rw [List.map_append, List.nodup_append]
    refine ⟨h, by simp, fun a h1 b h2 e => ?_⟩
    simp at h2
    subst h2 e
    obtain ⟨p, hp, e⟩ := List.mem_map.mp h1
    exact hn (List.any_eq_true.mpr ⟨p, hp, decide_eq_true e⟩)
theorem putA_mem' {α : Type} {l : List (Int × α)} {k : Int} {v : α} {p : Int × α} (h : p ∈ putA l k v) : p ∈ l ∨ p = (k, v) := by
  unfold putA at h
  split at h
  · obtain ⟨r, hr, e⟩ := List.mem_map.mp h
    split at e
    · rename_i hk
      right; rw [← e, hk]
    · left; rw [← e]; exact hr
  · rcases List.mem_append.mp h with h | h
    · exact .inl h
    · right; simpa using h
theorem putA_len' {α : Type} {l : List (Int × α)} {k : Int} {v : α} : (putA l k v).length ≤ l.length + 1 := by
  unfold putA
  split
  · rw [List.length_map]; omega
  · simp
theorem ws_needs {a0 a4 a5 a8 a9 b0 b1 b2 b3 b4 b5 b6 : Option D} {S : Sto} {n : Nat} {sz : TB} {kk turn : Int} {Q : Fl → Sto → Prop} {E : Xs} (ht : 0 ≤ turn ∧ turn ≤ 4) (hz : SzOk sz) (h : JarS S 0 kk) (hk : kk ≤ 700000000) (hn : n ≠ 0) (h0 : S[n]? = some (some (.dic false (kA tI []))))
    (q : ∀ N d8 d9 S', NOk N sz 15 → S'[n]? = some (some (.dic false (kA tI N))) → JarS S' 0 (kk + 500) → Q (.nx [a0, some (.ref 0), some (.int turn), some (dI sz), a4, a5, some (.lst ((isI (sz.map (·.1))).map .int)), some (.ref n), d8, d9, b0, b1, b2, b3, b4, b5, b6]) S') :
    Ws (l_law_2 [a0, some (.ref 0), some (.int turn), some (dI sz), a4, a5, some (.lst ((isI (sz.map (·.1))).map .int)), some (.ref n), a8, a9, b0, b1, b2, b3, b4, b5, b6] S) Q E := by
  have hpl : (isI (sz.map (·.1))).length ≤ 8 := by rw [isI_len, List.length_map]; exact hz.len
  have hpn : (isI (sz.map (·.1))).Nodup := (isI_perm _).nodup_iff.mpr hz.nd
  have hpm : ∀ x ∈ isI (sz.map (·.1)), x ∈ sz.map (·.1) := fun x hx => (isI_perm _).mem_iff.mp hx
  generalize isI (sz.map (·.1)) = pool at *
  unfold l_law_2
  refine ws_for [8, 9] ?_
  walk_at "w"
  refine wo_pick (zs := [7, 16]) rfl ⟨by omega, by simp; omega⟩ fun m hm => ?_
  have hm' : 7 ≤ m ∧ m ≤ 16 := by simp at hm; omega
  walk_at "w"
  refine wp_adraw h (by omega) (by omega) (by omega) fun v1 S1 x1 y1 p1 o1 => ?_
  have h1 := (o1.2 n hn).trans h0
  walk_at "w"
  refine ⟨by omega, ?_⟩
  refine ⟨fun j vs S' => ∃ d8 d9 N, vs = [d8, d9] ∧ NOk N sz j ∧ S'[n]? = some (some (.dic false (kA tI N))) ∧ JarS S' 0 (kk + 1 + 20 * j), [a8, a9], rfl, rfl, ⟨a8, a9, [], rfl, ⟨Nat.le_refl _, .nil, fun p hp => by simp at hp⟩, h1, p1.mono (by omega)⟩, ?_, ?_⟩
  · rintro j d vs S2 hj hv ⟨d8, d9, N, rfl, hN, h2, p2⟩
    have hj' := (List.getElem?_eq_some_iff.mp hj).1
    rw [iRng_len] at hj'
    have hj15 : j ≤ 14 := by omega
    refine ⟨_, rfl, ?_⟩
    dsimp only [putAll, List.set_cons_zero, List.set_cons_succ]
    unfold lb_law_2
    walk_at "w"
    unfold c_law_1
    refine wp_comp ?_
    walk_at "w"
    refine ⟨_, Or.inr rfl, ?_⟩
    refine ⟨fun i acc S' => ∃ as : List Int, acc = as.map .int ∧ as.Sublist (pool.take i) ∧ S'[n]? = some (some (.dic false (kA tI N))) ∧ JarS S' 0 (kk + 1 + 20 * j + i), ⟨[], rfl, .slnil, h2, p2.mono (by omega)⟩, ?_, ?_⟩
    · rintro i d acc S3 hi ⟨as, rfl, hsub, h3, p3⟩
      have hi' := (List.getElem?_eq_some_iff.mp hi).1
      rw [List.length_map] at hi'
      rw [List.getElem?_map] at hi
      obtain ⟨x, hx, rfl⟩ := Option.map_eq_some_iff.mp hi
      have ht1 : pool.take (i + 1) = pool.take i ++ [x] := by rw [List.take_succ, hx]; rfl
      have hal : as.length ≤ 8 := by have := hsub.length_le; rw [List.length_take] at this; omega
      refine ⟨_, rfl, ?_⟩
      unfold ct_law_1
      walk_at "w"
      refine wp_adraw p3 (by omega) (by omega) (by decide) fun v2 S4 x2 y2 p4 o4 => ?_
      have h4 := (o4.2 n hn).trans h3
      walk_at "w"
      refine ite_d (fun _ => ?_) (fun _ => ?_)
      · unfold ce_law_1
        walk_at "w"
        refine ⟨by rw [List.length_map]; omega, as ++ [x], by rw [List.map_append]; rfl, ?_, h4, p4.mono (by omega)⟩
        rw [ht1]
        exact hsub.append (List.Sublist.refl _)
      · refine ⟨as, rfl, ?_, h4, p4.mono (by omega)⟩
        rw [ht1]
        exact hsub.trans (List.sublist_append_left _ _)
    · rintro acc S3 ⟨as, rfl, hsub, h3, p3⟩
      rw [List.length_map] at hsub p3
      rw [List.take_of_length_le (Nat.le_refl _)] at hsub
      have asn : as.Nodup := hsub.nodup hpn
      have asl : as.length ≤ 8 := Nat.le_trans hsub.length_le hpl
      have asm : ∀ x ∈ as, x ∈ sz.map (·.1) := fun x hx => hpm x (hsub.subset hx)
      have hNl := hN.len
      have hN64 : N.length < 64 := by omega
      refine ws_then ?_
      dsimp only [List.set_cons_zero, List.set_cons_succ]
      refine ws_seq ?_
      refine ws_midT (fun f S' => ∃ ys : List Int, f = .nx [a0, some (.ref 0), some (.int turn), some (dI sz), a4, a5, some (.lst (pool.map .int)), some (.ref n), some d, some (.lst (ys.map .int)), b0, b1, b2, b3, b4, b5, b6] ∧ (ys.length ≤ 8 ∧ ys.Nodup ∧ ∀ x ∈ ys, x ∈ sz.map (·.1)) ∧ S'[n]? = some (some (.dic false (kA tI N))) ∧ JarS S' 0 (kk + 1 + 20 * j + 10)) ?_ ?_
      · unfold i_law_2
        walk_at "w"
        have h6 : (S3 ++ [some (.dic false (kI []))])[S3.length]? = some (some (.dic false [])) := app_at
        have h5 := (Ext.app (S := S3) (l := [some (.dic false (kI []))])).at_ h3
        have p5 : JarS (S3 ++ [some (.dic false (kI []))]) 0 _ := p3.ext .app
        generalize S3 ++ [some (.dic false (kI []))] = S4 at *
        generalize S3.length = n6 at *
        refine vo_vwA1 h5 (vo_neE h6 ?_)
        walk_at "w"
        refine ⟨fun hb => ?_, fun hb => ?_⟩
        · walk_at "w"
          refine wp_adraw p5 (by omega) (by omega) (by decide) fun v3 S5 x3 y3 p6 o6 => ?_
          have h7 := (o6.2 n hn).trans h5
          walk_at "w"
          refine ite_d (fun _ => ?_) (fun _ => ?_)
          · walk_at "w"
            refine vo_vwAc h7 (vo_sortA hN64 ?_)
            walk_at "w"
            have hne : 0 < (isI (N.map (·.1))).length := by
              rw [isI_len, List.length_map]
              cases N with
              | nil => simp at hb
              | cons _ _ => simp
            obtain ⟨z, hzm, ez⟩ := LF.pick_lt (zs := isI (N.map (·.1))) (i := 0) ⟨by omega, by omega⟩
            refine wo_ixL ez ?_
            obtain ⟨xs, hxs⟩ := getA_has (l := N) ((isI_perm _).mem_iff.mp hzm)
            have hxm := hN.ok _ (getA_mem hxs)
            refine vo_vwA1 h7 (vo_ixA hxs ?_)
            unfold tI
            walk_at "w"
            exact ⟨hxm.2, h7, p6.mono (by omega)⟩
          · walk_at "w"
            exact ⟨⟨asl, asn, asm⟩, h7, p6.mono (by omega)⟩
        · walk_at "w"
          exact ⟨⟨asl, asn, asm⟩, h5, p5.mono (by omega)⟩
      · rintro f S4 ⟨ys, rfl, hys, h5, p5⟩
        refine ws_then ?_
        refine ws_setA tI ?_
        walk_at "w"
        refine .of pow106 ?_
        walk_at "w"
        refine wp_adraw p5 (by omega) (by omega) (by decide) fun v4 S5 x4 y4 p6 o6 => ?_
        have h7 := (o6.2 n hn).trans h5
        refine ⟨n, N, v4, ys, rfl, rfl, rfl, h7, by omega, ?_⟩
        refine ⟨[some d, some (.lst (ys.map .int))], rfl, rfl, _, _, putA N v4 ys, rfl, ⟨?_, putA_nd hN.nd, fun p hp => ?_⟩, set_at h7, (p6.only .set (Ne.symm hn)).mono (by omega)⟩
        · have := putA_len' (l := N) (k := v4) (v := ys)
          omega
        · rcases putA_mem' hp with hp | rfl
          · exact hN.ok p hp
          · exact ⟨⟨x4, by dsimp only; omega⟩, hys⟩
  · rintro vs S2 hv ⟨d8, d9, N, rfl, hN, h2, p2⟩
    rw [iRng_len] at hN p2
    exact q N d8 d9 S2 ⟨by have := hN.len; omega, hN.nd, hN.ok⟩ h2 (p2.mono (by omega))
end C48

/-! ## K48x -/
set_option Elab.async false
set_option linter.all false
set_option maxRecDepth 100000
set_option maxHeartbeats 4000000
namespace C48
open DL LF
local macro_rules | `(tactic| walk_at "w1") => `(tactic| with_reducible first
  | (refine ws_then ?_; try with_reducible dsimp only [List.set_cons_zero, List.set_cons_succ]) | refine ws_seq ?_ | refine ws_asg ?_ | refine ws_expr ?_ | refine ws_ret ?_ | refine ws_if ?_ | refine ws_asgT ?_ | refine ws_skip ?_ | refine ws_retN ?_ | refine ws_brk ?_ | refine ws_cont ?_ | refine ws_thenR ?_ | refine ws_thenB ?_ | refine ws_thenC ?_ | refine fq_rt ?_ | refine fq_nx ?_ | refine un_nx ?_ | refine un_ct ?_ | refine un_bk ?_ | refine un_rt ?_ | refine ws_loopN ?_
  | (refine ws_loopC (ρ1 := ?r) ?h ?q; (case h => with_unfolding_all rfl); try with_reducible dsimp only [List.set_cons_zero, List.set_cons_succ])
  | refine wp_c ?_ | refine wp_op2 ?_ | refine wp_fn ?_ | refine wp_cons ?_ | refine wp_nil ?_ | refine wp_call ?_ | refine wp_op1 ?_
  | (refine wp_var (d := ?d) ?h ?q; (case h => with_unfolding_all rfl))
  | (refine ws_aug (d := ?d) ?h ?q; (case h => with_unfolding_all rfl))
  | refine wp_tup ?_ | refine wp_lst ?_ | refine wp_lstM ?_ | refine wp_listM ?_
  | refine wp_sl0 ?_ | refine wp_sl1 ?_ | refine wp_sl2 ?_ | refine wp_sl3 ?_
  | refine wp_tval ?_ | refine wp_tnot ?_ | refine wp_tand ?_ | refine wp_tor ?_ | refine wp_tyes ?_ | refine wp_and ?_ | refine wp_or ?_ | refine wp_not ?_ | refine wp_ifx ?_ | refine wp_chain ?_ | refine wp_meth ?_ | refine wp_meth0 ?_
  | refine wp_isi ?_ | refine wp_isis ?_ | refine wp_repr ?_ | refine wp_maxD ?_ | refine wi_rng3 ?_
  | refine ws_par ?_ | refine wp_dnew ?_ | refine wp_get2 ?_ | refine wp_reprQ ?_ | refine wp_fnK ?_ | refine wi_valsI ?_ | refine wi_itemsI ?_ | refine ws_augI ?_
  | refine wi_seq ?_ | refine wi_rng1 ?_ | refine wi_rng2 ?_ | refine wi_zip2 ?_ | refine wi_zipS ?_
  | (refine wp_fnB (ρ := ?ρ) ?he ?_; (case he => (simp only [List.map_cons, List.map_nil, List.length_cons, List.length_nil, List.replicate, List.cons_append, List.nil_append, Nat.reduceAdd, Nat.reduceSub]; rfl))))
local macro_rules | `(tactic| walk_at "w2") => `(tactic| ((with_reducible refine wo_id ?_); with_reducible first
  | refine vo_sub ?_ | refine vo_add ?_ | refine vo_lt ?_ | refine vo_le ?_ | refine vo_gt ?_ | refine vo_ge ?_ | refine vo_eq ?_ | refine vo_ne ?_ | refine vo_eqS ?_ | refine vo_neS ?_ | refine vo_eqB ?_ | refine vo_neB ?_ | refine vo_neg ?_ | refine vo_slT ?_ | refine vo_slL ?_ | refine vo_slS ?_ | refine vo_lenT ?_ | refine vo_lenL ?_ | refine vo_lenS ?_ | refine vo_revT ?_ | refine vo_revL ?_ | refine vo_min ?_ | refine vo_max ?_ | refine vo_tupL ?_ | refine vo_tupT ?_ | refine vo_lisL ?_ | refine vo_lisT ?_
  | refine vo_igAdd ?_ | refine vo_igMulR (by omega) ?_ | refine vo_igMulL (by omega) ?_ | refine vo_mod (by omega) ?_ | refine vo_div (by omega) ?_ | refine vo_mulR (by omega) ?_ | refine vo_mulL (by omega) ?_
  | refine vo_ixL0 ?_ | refine vo_ixL1 ?_ | refine vo_ixL2 ?_ | refine vo_ixL3 ?_ | refine vo_ixL4 ?_ | refine vo_ixL5 ?_ | refine vo_ixL6 ?_ | refine vo_ixT0 ?_ | refine vo_ixT1 ?_ | refine vo_ixT2 ?_ | refine vo_ixT3 ?_ | refine vo_ixT4 ?_ | refine vo_ixT5 ?_ | refine vo_ixT6 ?_
  | refine vo_inT ?_ | refine vo_ninT ?_ | refine vo_inL ?_ | refine vo_ninL ?_ | refine vo_inI ?_ | refine vo_ninI ?_ | refine vo_sortI (by first | assumption | omega) ?_ | refine vo_sortL ?_ | refine vo_lenI ?_ | refine vo_lt3 ?_ | refine vo_isNN ?_ | refine vo_is3N ?_ | refine vo_isTN ?_ | refine vo_isIN ?_ | refine vo_igAddI ?_ | refine vo_ixI (by assumption) ?_
  | refine vo_vwD1 (by assumption) ?_ | refine vo_vwDc (by assumption) ?_
  | refine wo_vw1 (by assumption) ?_ | refine wo_vw2 (by assumption) ?_ | refine vo_vwc (by assumption) ?_
  | (refine vo_isi (c := ?c) ?h ?q; (case h => with_unfolding_all rfl)) | (refine vo_isis (c := ?c) ?h ?q; (case h => with_unfolding_all rfl))))
local macro_rules | `(tactic| walk_at "w3") => `(tactic| first
  | with_reducible refine ite_f ?_ | with_reducible refine ite_nt ?_ | with_reducible refine ite_nf ?_ | with_reducible refine ite_t ?_
  | ((with_reducible refine ex_id ?_); refine ⟨_, rfl, ?_⟩) | ((with_reducible refine and_id ?_); refine ⟨Nat.le_of_ble_eq_true rfl, ?_⟩))
local macro_rules | `(tactic| walk_at "w") => `(tactic| repeat (first | walk_at "w1" | walk_at "w2" | walk_at "w3"))

theorem nd_of {N : TN} {sz : TB} (h : NOk N sz 15) (z : SzOk sz) : Nd N sz := ⟨h.len, h.nd, fun p hp => (h.ok p hp).2, z.len, fun p hp => (z.ok p hp).2.1⟩
theorem bd_of {N : TN} {sz : TB} (h : NOk N sz 15) (z : SzOk sz) : Bd N sz := ⟨fun p hp => ⟨(h.ok p hp).1, fun x hx => by
  obtain ⟨r, hr, rfl⟩ := List.mem_map.mp ((h.ok p hp).2.2.2 x hx)
  exact (z.ok r hr).1⟩, fun p hp => z.ok p hp⟩
theorem eq_fD (z : Nat × Nat) : neD (fD z) (fD z) = some (.bl false) := by
  have := neD_of (eqD_tupI [(z.1 : Int), (z.2 : Int)] [(z.1 : Int), (z.2 : Int)])
  rw [decide_eq_true rfl] at this
  exact this
theorem last_eq : eqKD (.dic false [(.int 3, .tup [.int 0, .int 1])]) (.dic false [(.int 3, .tup [.int 0, .int 1])]) = some (.bl true) := by
  simp [eqKD, unK, valD, eqPD, toP, toPs]
  decide
/-- the last row -/
theorem wp_last {ρ : Ev} {S : Sto} {E : Px} {Q : D → Sto → Prop} (q : ∀ S, Q (.bl true) S) : Wp ((eAndX (eOp2 eqKD (eFn d_shared [(eFrz eDNew), (eFrz eDNew)]) eDNew) (eOp2 eqKD (eFn d_shared [(eFrz (eDisp [((eC (.int 3)), (eTup []))])), (eFrz (eDisp [((eC (.int 0)), (eC (.int 5)))]))]) (eDisp [((eC (.int 3)), (eTup [(eC (.int 0)), (eC (.int 1))]))]))) ρ S) Q E := by
  have hN0 : Nd [] [] := ⟨by simp, .nil, fun p hp => by simp at hp, by simp, fun p hp => by simp at hp⟩
  have hN1 : Nd [(3, [])] [(0, 5)] := ⟨by simp, by simp, fun p hp => by simp at hp; subst hp; simp, by simp, fun p hp => by simp at hp; subst hp; decide⟩
  walk_at "w"
  refine wp_frzD ?_
  walk_at "w"
  refine ⟨_, _, rfl, app_at, ?_⟩
  walk_at "w"
  refine wp_frzD ?_
  walk_at "w"
  refine ⟨_, _, rfl, app_at, ?_⟩
  walk_at "w"
  show Wp (d_shared [dA tI [], dI []] _) _ _
  refine wp_shared hN0 fun n S1 hn x1 h1 => ?_
  walk_at "w"
  have h2 := (Ext.app (S := S1) (l := [some (.dic false (kI []))])).at_ h1
  have h3 : (S1 ++ [some (.dic false (kI []))])[S1.length]? = some (some (.dic false (kI []))) := app_at
  generalize S1 ++ [some (.dic false (kI []))] = S2 at *
  generalize S1.length = m at *
  have v1 : view S2 (.ref n) = .dic false [] := by simp only [view, h2]; rfl
  have v2 : view S2 (.ref m) = .dic false [] := by simp only [view, h3]; rfl
  rw [v1, v2]
  refine .of (d := .bl true) rfl ?_
  walk_at "w"
  refine wp_frzD ?_
  refine wp_disp1 ?_
  walk_at "w"
  refine ⟨_, _, rfl, app_at, ?_⟩
  walk_at "w"
  refine wp_frzD ?_
  refine wp_disp1 ?_
  walk_at "w"
  refine ⟨_, _, rfl, app_at, ?_⟩
  walk_at "w"
  show Wp (d_shared [dA tI [(3, [])], dI [(0, 5)]] _) _ _
  refine wp_shared hN1 fun n S3 hn x3 h4 => ?_
  walk_at "w"
  refine wp_disp1 ?_
  walk_at "w"
  have h5 := (Ext.app (S := S3) (l := [some (.dic false [(D.int 3, D.tup [D.int 0, D.int 1])])])).at_ h4
  have h6 : (S3 ++ [some (.dic false [(D.int 3, D.tup [D.int 0, D.int 1])])])[S3.length]? = some (some (.dic false [(D.int 3, D.tup [D.int 0, D.int 1])])) := app_at
  generalize S3 ++ [some (.dic false [(D.int 3, D.tup [D.int 0, D.int 1])])] = S4 at *
  generalize S3.length = m4 at *
  have v3 : view S4 (.ref n) = .dic false [(.int 3, .tup [.int 0, .int 1])] := by simp only [view, h5]; rfl
  have v4 : view S4 (.ref m4) = .dic false [(.int 3, .tup [.int 0, .int 1])] := by simp only [view, h6]
  rw [v3, v4]
  refine .of (d := .bl true) last_eq ?_
  exact q _
theorem cnt_filter (f : Int × List Int → Bool) (x : Int) : ∀ N : TN, (pcs (N.filter f)).count x ≤ (pcs N).count x
  | [] => by simp
  | p :: N => by
    have ih := cnt_filter f x N
    rw [List.filter_cons]
    split
    · unfold pcs at *
      rw [List.flatMap_cons, List.flatMap_cons, List.count_append, List.count_append]
      omega
    · unfold pcs at *
      rw [List.flatMap_cons, List.count_append]
      omega
theorem nd_filter {N : TN} {sz : TB} (h : Nd N sz) (f : Int × List Int → Bool) : Nd (N.filter f) sz := ⟨Nat.le_trans (List.length_filter_le _ _) h.len, (List.Sublist.map (fun p : Int × List Int => p.1) (List.filter_sublist (p := f) (l := N))).nodup h.nd, fun p hp => h.sub p (List.mem_filter.mp hp).1, h.szl, h.pos⟩
theorem less_ok {N : TN} {sz : TB} (h : Nd N sz) (f : Int × List Int → Bool) {p : Int × List Int} (hp : p ∈ N.filter f) :
    (shr (prs sz (pcs N) p.2)).1 * (shr (prs sz (pcs (N.filter f)) p.2)).2 ≤ (shr (prs sz (pcs (N.filter f)) p.2)).1 * (shr (prs sz (pcs N) p.2)).2 := by
  have hpN := (List.mem_filter.mp hp).1
  have := shr_mono (Bt_pos (pcs N)) (Bt_pos (pcs (N.filter f))) (p.2.map fun x => (szN sz x, (pcs N).count x, (pcs (N.filter f)).count x)) fun r hr => by
    obtain ⟨x, hx, rfl⟩ := List.mem_map.mp hr
    have m1 : x ∈ pcs N := List.mem_flatMap.mpr ⟨p, hpN, hx⟩
    have m2 : x ∈ pcs (N.filter f) := List.mem_flatMap.mpr ⟨p, hp, hx⟩
    exact ⟨⟨List.count_pos_iff.mpr m1, Bt_dvd m1⟩, ⟨List.count_pos_iff.mpr m2, Bt_dvd m2⟩, cnt_filter f x N⟩
  rw [List.map_map, List.map_map] at this
  exact this
theorem law_ok (ns : List Int) (h : ns.length ≤ 63) : ∃ S, d_law [.scr ns] [] = .ok (.bl true) S := by
  suffices h : Wp (d_law [.scr ns] []) (fun d _ => d = .bl true) noX by
    obtain ⟨d, S, e, rfl⟩ := h.ok
    exact ⟨S, e⟩
  unfold d_law b_law
  walk_at "w"
  refine wp_aopen h fun S0 p0 => ?_
  walk_at "w"
  unfold l_law_7
  refine ws_for [2, 3, 4, 5, 6, 7, 8, 9, 10, 11, 12, 13, 14, 15, 16] ?_
  walk_at "w"
  refine ⟨by omega, ?_⟩
  refine ⟨fun j vs S' => vs.length = 15 ∧ JarS S' 0 (100000 * j), List.replicate 15 none, rfl, rfl, ⟨rfl, p0.mono (by omega)⟩, ?_, ?_⟩
  · rintro j d vs S hj hv ⟨hv15, p1⟩
    have hj' := (List.getElem?_eq_some_iff.mp hj).1
    rw [iRng_len] at hj'
    have ed := (iRng_at hj).1
    rw [Int.zero_add] at ed
    subst ed
    obtain ⟨v0, v1, v2, v3, v4, v5, v6, v7, v8, v9, w0, w1, w2, w3, w4, rfl⟩ : ∃ v0 v1 v2 v3 v4 v5 v6 v7 v8 v9 w0 w1 w2 w3 w4, vs = [v0, v1, v2, v3, v4, v5, v6, v7, v8, v9, w0, w1, w2, w3, w4] := by
      match vs, hv15 with
      | [v0, v1, v2, v3, v4, v5, v6, v7, v8, v9, w0, w1, w2, w3, w4], _ => exact ⟨_, _, _, _, _, _, _, _, _, _, _, _, _, _, _, rfl⟩
    refine ⟨_, rfl, ?_⟩
    dsimp only [putAll, List.set_cons_zero, List.set_cons_succ]
    unfold lb_law_7
    walk_at "w"
    have hn : S.length ≠ 0 := by have := p1.lt; omega
    have h1 : (S ++ [some (.dic false (kI []))])[S.length]? = some (some (.dic false (kI []))) := app_at
    have p2 : JarS (S ++ [some (.dic false (kI []))]) 0 _ := p1.ext .app
    generalize S ++ [some (.dic false (kI []))] = T at *
    generalize S.length = n at *
    walk_at "w"
    refine ws_sizes (by omega) p2 (by omega) hn h1 fun l d4 d5 S1 hl h2 p3 => ?_
    walk_at "w"
    refine ws_rev hl p3 hn h2 fun n' sz S2 hz hn' h3 p4 => ?_
    refine ws_then ?_
    refine ws_seq ?_
    refine ws_frzD rfl h3 ?_
    have p5 := p4.only (.set (o := none) (n := n')) (Ne.symm hn')
    generalize S2.set n' none = S3 at *
    dsimp only [List.set_cons_zero, List.set_cons_succ]
    have hz64 : sz.length < 64 := by have := hz.len; omega
    walk_at "w"
    have hn4 : S3.length ≠ 0 := by have := p5.lt; omega
    have h5 : (S3 ++ [some (.dic false (kI []))])[S3.length]? = some (some (.dic false (kA tI []))) := app_at
    have p6 : JarS (S3 ++ [some (.dic false (kI []))]) 0 _ := p5.ext .app
    generalize S3 ++ [some (.dic false (kI []))] = S4 at *
    generalize S3.length = n4 at *
    walk_at "w"
    refine ws_needs (by omega) hz p6 (by omega) hn4 h5 fun N d8 d9 S5 hN h6 p7 => ?_
    refine ws_then ?_
    refine ws_seq ?_
    refine ws_frzA rfl h6 ?_
    have p8 := p7.only (.set (o := none) (n := n4)) (Ne.symm hn4)
    generalize S5.set n4 none = S6 at *
    dsimp only [List.set_cons_zero, List.set_cons_succ]
    have hNd := nd_of hN hz
    have hBd := bd_of hN hz
    have hN64 : N.length < 64 := by have := hN.len; omega
    unfold i_law_3
    walk_at "w"
    show Wp (d_right [dA tI N, dI sz] _) _ _
    refine wp_right hNd hBd ?_
    walk_at "w"
    show Wp (d_shared [dA tI N, dI sz] _) _ _
    refine wp_shared hNd fun n3 S7 hn3 x3 h7 => ?_
    have h7 : S7[n3]? = some (some (.dic false (kA fD (N.map (shF sz N))))) := h7
    have p9 := p8.ext x3
    have hn30 : n3 ≠ 0 := by have := p8.lt; omega
    have hNdF : ((N.map (shF sz N)).map (·.1)).Nodup := by rw [List.map_map]; exact hN.nd
    have hgF : ∀ p ∈ N, getA (N.map (shF sz N)) p.1 = some (shr (prs sz (pcs N) p.2)) := fun p hp => getA_at (p := shF sz N p) hNdF (List.mem_map_of_mem hp)
    walk_at "w"
    unfold l_law_4
    refine ws_for [11, 12] ?_
    walk_at "w"
    refine vo_sortA hN64 ?_
    have hkm : ∀ k ∈ isI (N.map (·.1)), ∃ p ∈ N, p.1 = k := fun k hk => by
      obtain ⟨p, hp, e⟩ := List.mem_map.mp ((isI_perm _).mem_iff.mp hk)
      exact ⟨p, hp, e⟩
    have hgN : ∀ p ∈ N, getA N p.1 = some p.2 := fun p hp => getA_at hN.nd hp
    refine ⟨_, Or.inr rfl, ?_⟩
    refine ⟨fun i vs S' => ∃ e1 e2, vs = [e1, e2] ∧ S' = S7, [v9, w0], rfl, rfl, ⟨v9, w0, rfl, rfl⟩, ?_, ?_⟩
    · rintro i d vs S8 hi hv ⟨e1, e2, rfl, rfl⟩
      rw [List.getElem?_map] at hi
      obtain ⟨k, hk, rfl⟩ := Option.map_eq_some_iff.mp hi
      obtain ⟨p, hp, rfl⟩ := hkm k (List.mem_of_getElem? hk)
      refine ⟨_, rfl, ?_⟩
      dsimp only [putAll, List.set_cons_zero, List.set_cons_succ]
      unfold lb_law_4 l_law_3
      refine ws_for [12] ?_
      walk_at "w"
      refine vo_sortA hN64 ?_
      refine ⟨_, Or.inr rfl, ?_⟩
      refine ⟨fun i vs S' => ∃ e2, vs = [e2] ∧ S' = S8, [e2], rfl, rfl, ⟨e2, rfl, rfl⟩, ?_, ?_⟩
      · rintro i2 d vs S9 hi2 hv ⟨e3, rfl, rfl⟩
        rw [List.getElem?_map] at hi2
        obtain ⟨k2, hk2, rfl⟩ := Option.map_eq_some_iff.mp hi2
        obtain ⟨r, hr, rfl⟩ := hkm k2 (List.mem_of_getElem? hk2)
        refine ⟨_, rfl, ?_⟩
        dsimp only [putAll, List.set_cons_zero, List.set_cons_succ]
        unfold lb_law_3 i_law_4
        walk_at "w"
        refine vo_ixA (hgN p hp) ?_
        walk_at "w"
        refine vo_ixA (hgN r hr) ?_
        walk_at "w"
        refine .of (eqD_tupI p.2 r.2) ?_
        walk_at "w"
        refine ite_d (fun e => ?_) (fun _ => ?_)
        · walk_at "w"
          refine vo_vwA1 h7 (vo_ixA (hgF p hp) ?_)
          walk_at "w"
          refine vo_vwA1 h7 (vo_ixA (hgF r hr) ?_)
          rw [e]
          refine .of (eq_fD _) ?_
          walk_at "w"
          exact ⟨[_], rfl, rfl, _, rfl, rfl⟩
        · walk_at "w"
          exact ⟨[_], rfl, rfl, _, rfl, rfl⟩
      · rintro vs S9 hv ⟨e3, rfl, rfl⟩
        exact ⟨[_, _], rfl, rfl, _, _, rfl, rfl⟩
    · rintro vs S8 hv ⟨e1, e2, rfl, rfl⟩
      dsimp only [putAll, List.set_cons_zero, List.set_cons_succ]
      refine ws_then ?_
      unfold l_law_6
      refine ws_for [11, 12, 13, 14, 15, 16] ?_
      walk_at "w"
      refine vo_sortA hN64 ?_
      walk_at "w"
      rw [cut_map]
      refine ⟨_, Or.inr rfl, ?_⟩
      refine ⟨fun i vs S' => ∃ e1 e2 e3 e4 e5 e6, vs = [e1, e2, e3, e4, e5, e6] ∧ S'[n3]? = some (some (.dic false (kA fD (N.map (shF sz N))))) ∧ JarS S' 0 (100000 * j + 600), [e1, e2, w1, w2, w3, w4], rfl, rfl, ⟨e1, e2, w1, w2, w3, w4, rfl, h7, p9.mono (by omega)⟩, ?_, ?_⟩
      · rintro i d vs S9 hi hv ⟨f1, f2, f3, f4, f5, f6, rfl, g1, p10⟩
        rw [List.getElem?_map] at hi
        obtain ⟨k, hk, rfl⟩ := Option.map_eq_some_iff.mp hi
        have hNf := nd_filter hNd fun p => !decide (p.1 = k)
        refine ⟨_, rfl, ?_⟩
        dsimp only [putAll, List.set_cons_zero, List.set_cons_succ]
        unfold lb_law_6
        refine ws_seq ?_
        refine ws_asg ?_
        refine wp_dictP ?_
        unfold c_law_2
        refine wp_comp_map N (fun p => .int p.1) (fun p => !decide (p.1 = k)) (fun p => .tup [.int p.1, tI p.2]) (by omega) ?_
        walk_at "w"
        refine ⟨_, Or.inr (dkl_A tI N), by rw [List.map_map]; rfl, fun p hp => ⟨_, rfl, ?_, fun _ => ?_⟩, ?_⟩
        · unfold ct_law_2
          walk_at "w"
          exact ⟨rfl, rfl⟩
        · unfold ce_law_2
          walk_at "w"
          refine vo_ixA (hgN p hp) ?_
          walk_at "w"
          exact ⟨rfl, rfl⟩
        have hlessF := fun p hp => less_ok hNd (fun p => !decide (p.1 = k)) (p := p) hp
        have hfitF := fun p hp => shr_fit hNf (p := p) hp
        have hsubF : ∀ p ∈ N.filter (fun p => !decide (p.1 = k)), p ∈ N := fun p hp => (List.mem_filter.mp hp).1
        generalize N.filter (fun p => !decide (p.1 = k)) = M at *
        refine ⟨_, _, rfl, pairs_A tI M, ?_⟩
        have em : mergeD [] (M.map fun p => (Sum.inl p.1, tI p.2)) = kA tI M := merge_A tI M [] (by rw [List.nil_append]; exact hNf.nd)
        rw [em]
        have g2 : (S9 ++ [some (.dic false (kA tI M))])[S9.length]? = some (some (.dic false (kA tI M))) := app_at
        have g3 := (Ext.app (S := S9) (l := [some (.dic false (kA tI M))])).at_ g1
        have p11 : JarS (S9 ++ [some (.dic false (kA tI M))]) 0 _ := p10.ext .app
        have hn9 : S9.length ≠ 0 ∧ S9.length ≠ n3 := ⟨by have := p10.lt; omega, by have := (List.getElem?_eq_some_iff.mp g1).1; omega⟩
        generalize S9 ++ [some (.dic false (kA tI M))] = T9 at *
        generalize S9.length = n9 at *
        refine ws_then ?_
        dsimp only [List.set_cons_zero, List.set_cons_succ]
        refine ws_seq ?_
        refine ws_frzA rfl g2 ?_
        have p12 := p11.only (.set (o := none) (n := n9)) (Ne.symm hn9.1)
        have g4 : (T9.set n9 none)[n3]? = some (some (.dic false (kA fD (N.map (shF sz N))))) := by rw [List.getElem?_set_ne hn9.2]; exact g3
        generalize T9.set n9 none = T10 at *
        dsimp only [List.set_cons_zero, List.set_cons_succ]
        walk_at "w"
        show Wp (d_shared [dA tI M, dI sz] _) _ _
        refine wp_shared hNf fun n5 T11 hn5 x5 g5 => ?_
        have g5 : T11[n5]? = some (some (.dic false (kA fD (M.map (shF sz M))))) := g5
        have g6 := x5.at_ g4
        have p13 := p12.ext x5
        have hMd : ((M.map (shF sz M)).map (·.1)).Nodup := by rw [List.map_map]; exact hNf.nd
        have hgM : ∀ p ∈ M, getA (M.map (shF sz M)) p.1 = some (shr (prs sz (pcs M) p.2)) := fun p hp => getA_at (p := shF sz M p) hMd (List.mem_map_of_mem hp)
        walk_at "w"
        unfold l_law_5
        refine ws_for [12, 15, 16] ?_
        walk_at "w"
        refine ⟨_, Or.inr (dkl_A tI M), ?_⟩
        refine ⟨fun i vs S' => ∃ e1 e2 e3, vs = [e1, e2, e3] ∧ S' = T11, [f2, f5, f6], rfl, rfl, ⟨f2, f5, f6, rfl, rfl⟩, ?_, ?_⟩
        · rintro i2 d vs T12 hi2 hv ⟨u1, u2, u3, rfl, rfl⟩
          rw [List.getElem?_map, List.getElem?_map] at hi2
          obtain ⟨k2, hk2, rfl⟩ := Option.map_eq_some_iff.mp hi2
          obtain ⟨p, hp, rfl⟩ := Option.map_eq_some_iff.mp hk2
          have hpm := List.mem_of_getElem? hp
          have i1 := hgM p hpm
          have i2' := hgF p (hsubF p hpm)
          have j1 := hlessF p hpm
          obtain ⟨_, j2, _, _⟩ := hfitF p hpm
          obtain ⟨_, j3, _, _⟩ := shr_fit hNd (hsubF p hpm)
          generalize shr (prs sz (pcs M) p.2) = x at *
          generalize shr (prs sz (pcs N) p.2) = y at *
          refine ⟨_, rfl, ?_⟩
          dsimp only [putAll, List.set_cons_zero, List.set_cons_succ]
          unfold lb_law_5
          walk_at "w"
          refine vo_vwA1 g5 (vo_ixA i1 ?_)
          walk_at "w"
          refine vo_vwA1 g6 (vo_ixA i2' ?_)
          walk_at "w"
          refine ⟨_, _, rfl, ?_⟩
          walk_at "w"
          unfold i_law_5 fD
          walk_at "w"
          refine ite_d (fun hh => ?_) (fun _ => ?_)
          · exfalso
            have c1 : (x.1 : Int) * (y.2 : Int) = ((x.1 * y.2 : Nat) : Int) := by push_cast; rfl
            have c2 : (y.1 : Int) * (x.2 : Int) = ((y.1 * x.2 : Nat) : Int) := by push_cast; rfl
            rw [c1, c2] at hh
            omega
          · walk_at "w"
            exact ⟨[_, _, _], rfl, rfl, _, _, _, rfl, rfl⟩
        · rintro vs T12 hv ⟨u1, u2, u3, rfl, rfl⟩
          exact ⟨[_, _, _, _, _, _], rfl, rfl, _, _, _, _, _, _, rfl, g6, p13.mono (by omega)⟩
      · rintro vs S9 hv ⟨f1, f2, f3, f4, f5, f6, rfl, g1, p10⟩
        exact ⟨[_, _, _, _, _, _, _, _, _, _, _, _, _, _, _], rfl, rfl, rfl, p10.mono (by omega)⟩
  · rintro vs S hv ⟨hv15, p1⟩
    refine ws_then ?_
    refine ws_ret ?_
    exact wp_last fun S => rfl
end C48

/-! ## K48w -/
set_option Elab.async false
set_option linter.all false
set_option maxRecDepth 100000
set_option maxHeartbeats 0
namespace C48
open PySem PySem.Spec PyProof.Rows L2 DL
def top (i : Nat) : Stmt := PySem.Challenge.pw_saltvault_k48_shares.main.body.getD i (.Pass ⟨0, 0, 0, 0⟩)
abbrev s_aopen : Stmt := top 6
abbrev N_aopen : List Str := ["_law_script"]
theorem sc_aopen : FnScope N_aopen ["_law_script"] (defScope s_aopen) := ⟨rfl, rfl, rfl, by decide +kernel, rfl, by decide +kernel, by decide +kernel⟩
def a_aopen : He.DefD := ⟨("_law_aopen", none), "_law_aopen", "_law_aopen", defArgs s_aopen, defBody s_aopen, defScope s_aopen, [], []⟩
abbrev s_amixed : Stmt := top 5
abbrev N_amixed : List Str := ["_law_cell", "_law_at", "_law_one", "_law_two", "_law_three"]
theorem sc_amixed : FnScope N_amixed ["_law_cell", "_law_at"] (defScope s_amixed) := ⟨rfl, rfl, rfl, by decide +kernel, rfl, by decide +kernel, by decide +kernel⟩
def a_amixed : He.DefD := ⟨("_law_amixed", none), "_law_amixed", "_law_amixed", defArgs s_amixed, defBody s_amixed, defScope s_amixed, [], []⟩
abbrev s_adraw : Stmt := top 7
abbrev N_adraw : List Str := ["_law_feed", "_law_often", "_law_at", "_law_cell", "_law_drawn"]
theorem sc_adraw : FnScope N_adraw ["_law_feed", "_law_often"] (defScope s_adraw) := ⟨rfl, rfl, rfl, by decide +kernel, rfl, by decide +kernel, by decide +kernel⟩
def a_adraw : He.DefD := ⟨("_law_adraw", none), "_law_adraw", "_law_adraw", defArgs s_adraw, defBody s_adraw, defScope s_adraw, [], []⟩
abbrev s_due : Stmt := top 8
abbrev N_due : List Str := ["_law_needs", "_law_sizes", "_law_counts", "_law_moment", "_law_piece", "_law_bottom", "_law_found"]
theorem sc_due : FnScope N_due ["_law_needs", "_law_sizes"] (defScope s_due) := ⟨rfl, rfl, rfl, by decide +kernel, rfl, by decide +kernel, by decide +kernel⟩
def a_due : He.DefD := ⟨("_law_due", none), "_law_due", "_law_due", defArgs s_due, defBody s_due, defScope s_due, [], []⟩
abbrev s_lowest : Stmt := top 1
abbrev N_lowest : List Str := ["top", "bottom", "one", "other"]
theorem sc_lowest : FnScope N_lowest ["top", "bottom"] (defScope s_lowest) := ⟨rfl, rfl, rfl, by decide +kernel, rfl, by decide +kernel, by decide +kernel⟩
def a_lowest : He.DefD := ⟨("lowest", none), "lowest", "lowest", defArgs s_lowest, defBody s_lowest, defScope s_lowest, [], []⟩
abbrev s_together : Stmt := top 2
abbrev N_together : List Str := ["one", "other"]
theorem sc_together : FnScope N_together ["one", "other"] (defScope s_together) := ⟨rfl, rfl, rfl, by decide +kernel, rfl, by decide +kernel, by decide +kernel⟩
def a_together : He.DefD := ⟨("together", none), "together", "together", defArgs s_together, defBody s_together, defScope s_together, [], []⟩
abbrev s_shared : Stmt := top 3
abbrev N_shared : List Str := ["needs", "sizes", "users", "some", "piece", "found", "moment", "share"]
theorem sc_shared : FnScope N_shared ["needs", "sizes"] (defScope s_shared) := ⟨rfl, rfl, rfl, by decide +kernel, rfl, by decide +kernel, by decide +kernel⟩
def a_shared : He.DefD := ⟨("shared", none), "shared", "shared", defArgs s_shared, defBody s_shared, defScope s_shared, [], []⟩
abbrev s_is_lowest : Stmt := top 9
abbrev N_is_lowest : List Str := ["_law_pair", "_law_one", "_law_other", "_law_part"]
theorem sc_is_lowest : FnScope N_is_lowest ["_law_pair"] (defScope s_is_lowest) := ⟨rfl, rfl, rfl, by decide +kernel, rfl, by decide +kernel, by decide +kernel⟩
def a_is_lowest : He.DefD := ⟨("_law_is_lowest", none), "_law_is_lowest", "_law_is_lowest", defArgs s_is_lowest, defBody s_is_lowest, defScope s_is_lowest, [], []⟩
abbrev s_right : Stmt := top 10
abbrev N_right : List Str := ["_law_needs", "_law_sizes", "_law_shown", "_law_tops", "_law_bottom", "_law_whole", "_law_found", "_law_moment"]
theorem sc_right : FnScope N_right ["_law_needs", "_law_sizes"] (defScope s_right) := ⟨rfl, rfl, rfl, by decide +kernel, rfl, by decide +kernel, by decide +kernel⟩
def a_right : He.DefD := ⟨("_law_right", none), "_law_right", "_law_right", defArgs s_right, defBody s_right, defScope s_right, [], []⟩
abbrev s_law : Stmt := top 11
abbrev N_law : List Str := ["_law_script", "_law_feed", "_law_turn", "_law_sizes", "_law_piece", "_law_size", "_law_pool", "_law_needs", "_law_k", "_law_some", "_law_found", "_law_moment", "_law_other", "_law_rest", "_law_less", "_law_one", "_law_two"]
theorem sc_law : FnScope N_law ["_law_script"] (defScope s_law) := ⟨rfl, rfl, rfl, by decide +kernel, rfl, by decide +kernel, by decide +kernel⟩
def a_law : He.DefD := ⟨("law", none), "law", "law", defArgs s_law, defBody s_law, defScope s_law, [], []⟩
def fn : List He.DefD := [a_aopen, a_amixed, a_adraw, a_due, a_lowest, a_together, a_shared, a_is_lowest, a_right, a_law]
def fa : List He.Fa := [.glo "_law_aopen", .glo "_law_amixed", .glo "_law_adraw", .glo "_law_due", .glo "lowest", .glo "together", .glo "shared", .glo "_law_is_lowest", .glo "_law_right", .glo "law", .free "all", .free "bool", .free "dict", .free "int", .free "isinstance", .free "len", .free "list", .free "range", .free "repr", .free "sorted", .free "sum", .free "tuple"]
def ex (K : PySem.W.Frag) : Bool := sysB K
structure Fx (K : PySem.W.Frag) (mg : Str → Option Value) : Prop where
  c : He.SaysD fa fn K
  h : ∃ h, K.In h ∧ h.Ns mainGlobals mg
  e : ex K = true
section
variable {K : PySem.W.Frag} {mg : Str → Option Value} (fx : Fx K mg)
include fx
theorem Fx.g_aopen : mg "_law_aopen" = some (.ref (He.ga K "_law_aopen")) := by obtain ⟨h, X, G⟩ := fx.h; exact He.glo_ok X G (fx.c.fact 0 (f := .glo "_law_aopen") rfl)
theorem Fx.g_amixed : mg "_law_amixed" = some (.ref (He.ga K "_law_amixed")) := by obtain ⟨h, X, G⟩ := fx.h; exact He.glo_ok X G (fx.c.fact 1 (f := .glo "_law_amixed") rfl)
theorem Fx.g_adraw : mg "_law_adraw" = some (.ref (He.ga K "_law_adraw")) := by obtain ⟨h, X, G⟩ := fx.h; exact He.glo_ok X G (fx.c.fact 2 (f := .glo "_law_adraw") rfl)
theorem Fx.g_due : mg "_law_due" = some (.ref (He.ga K "_law_due")) := by obtain ⟨h, X, G⟩ := fx.h; exact He.glo_ok X G (fx.c.fact 3 (f := .glo "_law_due") rfl)
theorem Fx.g_lowest : mg "lowest" = some (.ref (He.ga K "lowest")) := by obtain ⟨h, X, G⟩ := fx.h; exact He.glo_ok X G (fx.c.fact 4 (f := .glo "lowest") rfl)
theorem Fx.g_together : mg "together" = some (.ref (He.ga K "together")) := by obtain ⟨h, X, G⟩ := fx.h; exact He.glo_ok X G (fx.c.fact 5 (f := .glo "together") rfl)
theorem Fx.g_shared : mg "shared" = some (.ref (He.ga K "shared")) := by obtain ⟨h, X, G⟩ := fx.h; exact He.glo_ok X G (fx.c.fact 6 (f := .glo "shared") rfl)
theorem Fx.g_is_lowest : mg "_law_is_lowest" = some (.ref (He.ga K "_law_is_lowest")) := by obtain ⟨h, X, G⟩ := fx.h; exact He.glo_ok X G (fx.c.fact 7 (f := .glo "_law_is_lowest") rfl)
theorem Fx.g_right : mg "_law_right" = some (.ref (He.ga K "_law_right")) := by obtain ⟨h, X, G⟩ := fx.h; exact He.glo_ok X G (fx.c.fact 8 (f := .glo "_law_right") rfl)
theorem Fx.g_law : mg "law" = some (.ref (He.ga K "law")) := by obtain ⟨h, X, G⟩ := fx.h; exact He.glo_ok X G (fx.c.fact 9 (f := .glo "law") rfl)
theorem Fx.m_all : mg "all" = none := by obtain ⟨h, X, G⟩ := fx.h; exact He.free_ok X G (fx.c.fact 10 (f := .free "all") rfl)
theorem Fx.m_bool : mg "bool" = none := by obtain ⟨h, X, G⟩ := fx.h; exact He.free_ok X G (fx.c.fact 11 (f := .free "bool") rfl)
theorem Fx.m_dict : mg "dict" = none := by obtain ⟨h, X, G⟩ := fx.h; exact He.free_ok X G (fx.c.fact 12 (f := .free "dict") rfl)
theorem Fx.m_int : mg "int" = none := by obtain ⟨h, X, G⟩ := fx.h; exact He.free_ok X G (fx.c.fact 13 (f := .free "int") rfl)
theorem Fx.m_isinstance : mg "isinstance" = none := by obtain ⟨h, X, G⟩ := fx.h; exact He.free_ok X G (fx.c.fact 14 (f := .free "isinstance") rfl)
theorem Fx.m_len : mg "len" = none := by obtain ⟨h, X, G⟩ := fx.h; exact He.free_ok X G (fx.c.fact 15 (f := .free "len") rfl)
theorem Fx.m_list : mg "list" = none := by obtain ⟨h, X, G⟩ := fx.h; exact He.free_ok X G (fx.c.fact 16 (f := .free "list") rfl)
theorem Fx.m_range : mg "range" = none := by obtain ⟨h, X, G⟩ := fx.h; exact He.free_ok X G (fx.c.fact 17 (f := .free "range") rfl)
theorem Fx.m_repr : mg "repr" = none := by obtain ⟨h, X, G⟩ := fx.h; exact He.free_ok X G (fx.c.fact 18 (f := .free "repr") rfl)
theorem Fx.m_sorted : mg "sorted" = none := by obtain ⟨h, X, G⟩ := fx.h; exact He.free_ok X G (fx.c.fact 19 (f := .free "sorted") rfl)
theorem Fx.m_sum : mg "sum" = none := by obtain ⟨h, X, G⟩ := fx.h; exact He.free_ok X G (fx.c.fact 20 (f := .free "sum") rfl)
theorem Fx.m_tuple : mg "tuple" = none := by obtain ⟨h, X, G⟩ := fx.h; exact He.free_ok X G (fx.c.fact 21 (f := .free "tuple") rfl)
theorem Fx.k_sys : sysB K = true := by
  have e := fx.e
  simp only [ex, Bool.and_eq_true] at e
  exact e
end
theorem ok_aopen {P : Program} {w : World} {K : PySem.W.Frag} {mg : Str → Option Value} {base : Heap} (fx : Fx K mg) : OkF P w K mg base "_law_aopen" ["_law_script"] 1 LF.d_aopen :=
  okF_N (fx.c.def_ 0 (d := a_aopen) rfl) fx.g_aopen sc_aopen (fun _ _ _ _ _ _ us hl => match us, hl with | [_], _ => rfl) fun cdv A outer s H E hr tk hp =>
  (sv_one (sv_ret (ev_lstM (ea_cons (ev_callTy cg_list rfl fx.m_list (by decide +kernel) (ea_cons (ev_sl ev_var pv_none (pv_some ev_int)) ea_nil)) (ea_cons ev_int (ea_cons ev_int ea_nil))))))
theorem ok_amixed {P : Program} {w : World} {K : PySem.W.Frag} {mg : Str → Option Value} {base : Heap} (fx : Fx K mg) : OkF P w K mg base "_law_amixed" ["_law_cell", "_law_at"] 1 LF.d_amixed :=
  okF_P (fx.c.def_ 1 (d := a_amixed) rfl) fx.g_amixed sc_amixed (fun _ _ _ _ _ _ us hl => match us, hl with | [_, _], _ => rfl) fun cdv A outer s H E hr tk hp =>
  (sv_cons (sv_asg sc_amixed.nd rfl (by first | exact Or.inl rfl | exact Or.inr rfl) (ev_op og_mod (ev_op og_add (ev_op og_add (ev_op og_mul (ev_op og_mod ev_var ev_int) ev_int) (ev_op og_mul ev_var ev_int)) ev_int) ev_int))
    (sv_cons (sv_asg sc_amixed.nd rfl (by first | exact Or.inl rfl | exact Or.inr rfl) (ev_op og_mod (ev_op og_add (ev_op og_add (ev_op og_mul ev_var ev_var) (ev_op og_mul (ev_op og_mul ev_var ev_var) ev_int)) ev_int) ev_int))
    (sv_cons (sv_asg sc_amixed.nd rfl (by first | exact Or.inl rfl | exact Or.inr rfl) (ev_op og_mod (ev_op og_add (ev_op og_add (ev_op og_mul ev_var ev_var) ev_var) ev_var) ev_int))
    (sv_one (sv_ret (ev_op og_add (ev_op og_mul (ev_op og_add (ev_op og_mul ev_var ev_int) ev_var) ev_int) ev_var))))))
theorem ok_adraw {P : Program} {w : World} {K : PySem.W.Frag} {mg : Str → Option Value} {base : Heap} (fx : Fx K mg) : OkF P w K mg base "_law_adraw" ["_law_feed", "_law_often"] 2 LF.d_adraw :=
  okF_N (fx.c.def_ 2 (d := a_adraw) rfl) fx.g_adraw sc_adraw (fun _ _ _ _ _ _ us hl => match us, hl with | [_, _], _ => rfl) fun cdv A outer s H E hr tk hp =>
  (sv_cons (sv_if (tv_cmp og_lt (ev_ix hr.r.units ev_var ev_int) ev_var rfl) (sv_cons (sv_asg sc_adraw.nd rfl (by first | exact Or.inl rfl | exact Or.inr rfl) (ev_ix hr.r.units ev_var ev_int))
    (sv_cons (sv_asg sc_adraw.nd rfl (by first | exact Or.inl rfl | exact Or.inr rfl) (ev_op og_mul ev_var ev_int))
    (sv_cons (sv_if (tv_cmp (og_ne hr.r.units) (ev_ix hr.r.units ev_var ev_int) (ev_lst ea_nil) rfl) (sv_one (sv_asg sc_adraw.nd rfl (by first | exact Or.inl rfl | exact Or.inr rfl) (ev_ix hr.r.units (ev_ix hr.r.units ev_var ev_int) (ev_op og_mod ev_var (ev_callB cg_len rfl fx.m_len (by decide +kernel) (ea_cons (ev_ix hr.r.units ev_var ev_int) ea_nil)))))) sv_nil)
    (sv_cons (sv_setIx hr.r.units (ev_op og_add ev_var ev_int) ev_var ev_int)
    (sv_cons (sv_setIx hr.r.units ev_var ev_var ev_int)
    (sv_one (sv_if (tv_w (wv_or (tv_cmp og_lt ev_var (ev_op og_pow ev_int ev_int) rfl) (wv_or1 (tv_cmp og_ge ev_var (ev_callB cg_len rfl fx.m_len (by decide +kernel) (ea_cons (ev_ix hr.r.units ev_var ev_int) ea_nil)) rfl)))) (sv_one (sv_setIx hr.r.units (ev_fnO (ok_amixed fx) hr rfl tk (ea_cons ev_var (ea_cons ev_var ea_nil))) ev_var ev_int)) sv_nil))))))) sv_nil)
    (sv_cons (sv_asg sc_adraw.nd rfl (by first | exact Or.inl rfl | exact Or.inr rfl) (ev_op og_mod (ev_ix hr.r.units ev_var ev_int) ev_var))
    (sv_cons (sv_setIx hr.r.units (ev_op og_divW (ev_ix hr.r.units ev_var ev_int) ev_var) ev_var ev_int)
    (sv_one (sv_ret ev_var)))))
theorem ok_due {P : Program} {w : World} {K : PySem.W.Frag} {mg : Str → Option Value} {base : Heap} (fx : Fx K mg) : OkF P w K mg base "_law_due" ["_law_needs", "_law_sizes"] 1 d_due :=
  okF_P (fx.c.def_ 3 (d := a_due) rfl) fx.g_due sc_due (fun _ _ _ _ _ _ us hl => match us, hl with | [_, _], _ => rfl) fun cdv A outer s H E hr tk hp =>
  (sv_cons (sv_asg sc_due.nd rfl (by first | exact Or.inl rfl | exact Or.inr rfl) ev_dnew)
    (sv_cons (sv_for hp rfl (iv_seq ev_var) (gv_nm sc_due.nd rfl (by first | exact Or.inl rfl | exact Or.inr rfl)) (sv_one (sv_for hp rfl (iv_seq (ev_ix hr.r.units ev_var ev_var)) (gv_nm sc_due.nd rfl (by first | exact Or.inl rfl | exact Or.inr rfl)) (sv_one (sv_setIx hr.r.units (ev_op og_add (ev_get2 hr.r.units ev_var ev_var ev_int (m2_of)) ev_int) ev_var ev_var)))))
    (sv_cons (sv_frz (sv_asg sc_due.nd rfl (by first | exact Or.inl rfl | exact Or.inr rfl) ev_int))
    (sv_cons (sv_for hp rfl (iv_seq (ev_callB (cg_sorted rfl) rfl fx.m_sorted (by decide +kernel) (ea_cons ev_var ea_nil))) (gv_nm sc_due.nd rfl (by first | exact Or.inl rfl | exact Or.inr rfl)) (sv_one (sv_asg sc_due.nd rfl (by first | exact Or.inl rfl | exact Or.inr rfl) (ev_op og_mul ev_var (ev_ix hr.r.units ev_var ev_var)))))
    (sv_cons (sv_asg sc_due.nd rfl (by first | exact Or.inl rfl | exact Or.inr rfl) ev_dnew)
    (sv_cons (sv_for hp rfl (iv_seq ev_var) (gv_nm sc_due.nd rfl (by first | exact Or.inl rfl | exact Or.inr rfl)) (sv_one (sv_setIx hr.r.units (ev_callB (cg_sum rfl) rfl fx.m_sum (by decide +kernel) (ea_cons (ev_comp (own := [(("_law_piece" : Str), 4)]) rfl sc_due.nd (iv_seq (ev_ix hr.r.units ev_var ev_var)) (blkOk_by (N := N_due) (sc := defScope s_due) (own := [(("_law_piece" : Str), 4)]) (by decide +kernel)) (fun _ _ _ _ _ => (gv_nm sc_due.nd rfl (by first | exact Or.inl rfl | exact Or.inr rfl))) (fun _ _ _ _ _ => tvs_nil) (fun _ _ _ _ _ => (ev_op og_div (ev_op og_mul (ev_ix hr.r.units ev_var ev_var) ev_var) (ev_ix hr.r.units ev_var ev_var)))) ea_nil)) ev_var ev_var)))
    (sv_one (sv_frz (sv_ret (ev_tup (ea_cons ev_var (ea_cons ev_var (ea_cons (ev_callB (cg_sum rfl) rfl fx.m_sum (by decide +kernel) (ea_cons (ev_comp (own := [(("_law_piece" : Str), 4)]) rfl sc_due.nd (iv_seq ev_var) (blkOk_by (N := N_due) (sc := defScope s_due) (own := [(("_law_piece" : Str), 4)]) (by decide +kernel)) (fun _ _ _ _ _ => (gv_nm sc_due.nd rfl (by first | exact Or.inl rfl | exact Or.inr rfl))) (fun _ _ _ _ _ => tvs_nil) (fun _ _ _ _ _ => (ev_ix hr.r.units ev_var ev_var))) ea_nil)) ea_nil)))))))))))))
theorem ok_lowest {P : Program} {w : World} {K : PySem.W.Frag} {mg : Str → Option Value} {base : Heap} (fx : Fx K mg) : OkF P w K mg base "lowest" ["top", "bottom"] 1 d_lowest :=
  okF_P (fx.c.def_ 4 (d := a_lowest) rfl) fx.g_lowest sc_lowest (fun _ _ _ _ _ _ us hl => match us, hl with | [_, _], _ => rfl) fun cdv A outer s H E hr tk hp =>
  (sv_cons (sv_par rfl sc_lowest.nd rfl rfl (by decide) rfl rfl (ea_cons ev_var (ea_cons ev_var ea_nil)))
    (sv_cons (sv_while (n := fun _ _ => 1099511627776) hp (tv_cmp og_gt ev_var ev_int rfl) (sv_one (sv_par rfl sc_lowest.nd rfl rfl (by decide) rfl rfl (ea_cons ev_var (ea_cons (ev_op og_mod ev_var ev_var) ea_nil)))))
    (sv_one (sv_ret (ev_tup (ea_cons (ev_op og_div ev_var ev_var) (ea_cons (ev_op og_div ev_var ev_var) ea_nil)))))))
theorem ok_together {P : Program} {w : World} {K : PySem.W.Frag} {mg : Str → Option Value} {base : Heap} (fx : Fx K mg) : OkF P w K mg base "together" ["one", "other"] 2 d_together :=
  okF_P (fx.c.def_ 5 (d := a_together) rfl) fx.g_together sc_together (fun _ _ _ _ _ _ us hl => match us, hl with | [_, _], _ => rfl) fun cdv A outer s H E hr tk hp =>
  (sv_one (sv_ret (ev_fnO (ok_lowest fx) hr rfl tk (ea_cons (ev_op og_add (ev_op og_mul (ev_ix hr.r.units ev_var ev_int) (ev_ix hr.r.units ev_var ev_int)) (ev_op og_mul (ev_ix hr.r.units ev_var ev_int) (ev_ix hr.r.units ev_var ev_int))) (ea_cons (ev_op og_mul (ev_ix hr.r.units ev_var ev_int) (ev_ix hr.r.units ev_var ev_int)) ea_nil)))))
theorem ok_shared {P : Program} {w : World} {K : PySem.W.Frag} {mg : Str → Option Value} {base : Heap} (fx : Fx K mg) : OkF P w K mg base "shared" ["needs", "sizes"] 3 d_shared :=
  okF_N (fx.c.def_ 6 (d := a_shared) rfl) fx.g_shared sc_shared (fun _ _ _ _ _ _ us hl => match us, hl with | [_, _], _ => rfl) fun cdv A outer s H E hr tk hp =>
  (sv_cons (sv_asg sc_shared.nd rfl (by first | exact Or.inl rfl | exact Or.inr rfl) ev_dnew)
    (sv_cons (sv_for hp rfl (iv_vals ev_var) (gv_nm sc_shared.nd rfl (by first | exact Or.inl rfl | exact Or.inr rfl)) (sv_one (sv_for hp rfl (iv_seq ev_var) (gv_nm sc_shared.nd rfl (by first | exact Or.inl rfl | exact Or.inr rfl)) (sv_one (sv_setIx hr.r.units (ev_op og_add (ev_get2 hr.r.units ev_var ev_var ev_int (m2_of)) ev_int) ev_var ev_var)))))
    (sv_cons (sv_frz (sv_asg sc_shared.nd rfl (by first | exact Or.inl rfl | exact Or.inr rfl) ev_dnew))
    (sv_cons (sv_for hp rfl (iv_items ev_var) (gv_tp rfl (gv_cons (gv_nm sc_shared.nd rfl (by first | exact Or.inl rfl | exact Or.inr rfl)) (gv_cons (gv_nm sc_shared.nd rfl (by first | exact Or.inl rfl | exact Or.inr rfl)) gv_nil))) (sv_cons (sv_asg sc_shared.nd rfl (by first | exact Or.inl rfl | exact Or.inr rfl) (ev_tup (ea_cons ev_int (ea_cons ev_int ea_nil))))
    (sv_cons (sv_for hp rfl (iv_seq ev_var) (gv_nm sc_shared.nd rfl (by first | exact Or.inl rfl | exact Or.inr rfl)) (sv_one (sv_asg sc_shared.nd rfl (by first | exact Or.inl rfl | exact Or.inr rfl) (ev_fnO (ok_together fx) hr rfl tk (ea_cons ev_var (ea_cons (ev_tup (ea_cons (ev_ix hr.r.units ev_var ev_var) (ea_cons (ev_ix hr.r.units ev_var ev_var) ea_nil))) ea_nil))))))
    (sv_one (sv_setIx hr.r.units ev_var ev_var ev_var)))))
    (sv_one (sv_ret ev_var))))))
theorem ok_is_lowest {P : Program} {w : World} {K : PySem.W.Frag} {mg : Str → Option Value} {base : Heap} (fx : Fx K mg) : OkF P w K mg base "_law_is_lowest" ["_law_pair"] 1 d_is_lowest :=
  okF_P (fx.c.def_ 7 (d := a_is_lowest) rfl) fx.g_is_lowest sc_is_lowest (fun _ _ _ _ _ _ us hl => match us, hl with | [_], _ => rfl) fun cdv A outer s H E hr tk hp =>
  (sv_cons (sv_if (tv_w (wv_or (tv_not (tv_val (ev_isi (t := .tuple) rfl fx.m_isinstance (by decide +kernel) rfl fx.m_tuple (by decide +kernel) ev_var))) (wv_or (tv_cmp (og_ne hr.r.units) (ev_callB cg_len rfl fx.m_len (by decide +kernel) (ea_cons ev_var ea_nil)) ev_int rfl) (wv_or1 (tv_not (tv_val (ev_callB (cg_all rfl) rfl fx.m_all (by decide +kernel) (ea_cons (ev_comp (own := [(("_law_part" : Str), 3)]) rfl sc_is_lowest.nd (iv_seq ev_var) (blkOk_by (N := N_is_lowest) (sc := defScope s_is_lowest) (own := [(("_law_part" : Str), 3)]) (by decide +kernel)) (fun _ _ _ _ _ => (gv_nm sc_is_lowest.nd rfl (by first | exact Or.inl rfl | exact Or.inr rfl))) (fun _ _ _ _ _ => tvs_nil) (fun _ _ _ _ _ => (ev_isi (t := .int) rfl fx.m_isinstance (by decide +kernel) rfl fx.m_int (by decide +kernel) ev_var))) ea_nil)))))))) (sv_one (sv_ret ev_bl)) sv_nil)
    (sv_cons (sv_asgT ev_var (gv_tp rfl (gv_cons (gv_nm sc_is_lowest.nd rfl (by first | exact Or.inl rfl | exact Or.inr rfl)) (gv_cons (gv_nm sc_is_lowest.nd rfl (by first | exact Or.inl rfl | exact Or.inr rfl)) gv_nil))))
    (sv_cons (sv_while (n := fun _ _ => 1099511627776) hp (tv_cmp og_gt ev_var ev_int rfl) (sv_one (sv_par rfl sc_is_lowest.nd rfl rfl (by decide) rfl rfl (ea_cons ev_var (ea_cons (ev_op og_mod ev_var ev_var) ea_nil)))))
    (sv_one (sv_ret (ev_and (ev_cmp (og_eq hr.r.units) ev_var ev_int rfl) (ev_and (ev_cmp og_gt (ev_ix hr.r.units ev_var ev_int) ev_int rfl) (ev_and (ev_not (ev_isi (t := .bool) rfl fx.m_isinstance (by decide +kernel) rfl fx.m_bool (by decide +kernel) (ev_ix hr.r.units ev_var ev_int))) (ev_one (ev_not (ev_isi (t := .bool) rfl fx.m_isinstance (by decide +kernel) rfl fx.m_bool (by decide +kernel) (ev_ix hr.r.units ev_var ev_int))))))))))))
theorem ok_right {P : Program} {w : World} {K : PySem.W.Frag} {mg : Str → Option Value} {base : Heap} (fx : Fx K mg) : OkF P w K mg base "_law_right" ["_law_needs", "_law_sizes"] 4 d_right :=
  okF_P (fx.c.def_ 8 (d := a_right) rfl) fx.g_right sc_right (fun _ _ _ _ _ _ us hl => match us, hl with | [_, _], _ => rfl) fun cdv A outer s H E hr tk hp =>
  (sv_cons (sv_asg sc_right.nd rfl (by first | exact Or.inl rfl | exact Or.inr rfl) (ev_reprQ fx.k_sys hr rfl fx.m_repr (ev_lst (ea_cons ev_var (ea_cons ev_var ea_nil)))))
    (sv_cons (sv_asgT (ev_fnO (ok_due fx) hr rfl tk (ea_cons ev_var (ea_cons ev_var ea_nil))) (gv_tp rfl (gv_cons (gv_nm sc_right.nd rfl (by first | exact Or.inl rfl | exact Or.inr rfl)) (gv_cons (gv_nm sc_right.nd rfl (by first | exact Or.inl rfl | exact Or.inr rfl)) (gv_cons (gv_nm sc_right.nd rfl (by first | exact Or.inl rfl | exact Or.inr rfl)) gv_nil)))))
    (sv_cons (sv_asg sc_right.nd rfl (by first | exact Or.inl rfl | exact Or.inr rfl) (ev_fnO (ok_shared fx) hr rfl tk (ea_cons ev_var (ea_cons ev_var ea_nil))))
    (sv_cons (sv_if (tv_w (wv_or (tv_not (tv_val (ev_isi (t := .dict) rfl fx.m_isinstance (by decide +kernel) rfl fx.m_dict (by decide +kernel) ev_var))) (wv_or1 (tv_cmp (og_ne hr.r.units) (ev_callB (cg_sorted rfl) rfl fx.m_sorted (by decide +kernel) (ea_cons ev_var ea_nil)) (ev_callB (cg_sorted rfl) rfl fx.m_sorted (by decide +kernel) (ea_cons ev_var ea_nil)) rfl)))) (sv_one (sv_ret ev_bl)) sv_nil)
    (sv_cons (sv_for hp rfl (iv_seq ev_var) (gv_nm sc_right.nd rfl (by first | exact Or.inl rfl | exact Or.inr rfl)) (sv_one (sv_if (tv_w (wv_or (tv_not (tv_val (ev_fnO (ok_is_lowest fx) hr rfl tk (ea_cons (ev_ix hr.r.units ev_var ev_var) ea_nil)))) (wv_or1 (tv_cmp (og_ne hr.r.units) (ev_op og_mul (ev_ix hr.r.units (ev_ix hr.r.units ev_var ev_var) ev_int) ev_var) (ev_op og_mul (ev_ix hr.r.units ev_var ev_var) (ev_ix hr.r.units (ev_ix hr.r.units ev_var ev_var) ev_int)) rfl)))) (sv_one (sv_ret ev_bl)) sv_nil)))
    (sv_cons (sv_expr (ev_dclr ev_var))
    (sv_one (sv_ret (ev_and (ev_cmp (og_eq hr.r.units) (ev_sumV rfl rfl fx.m_sum ev_var) (ev_op og_mul ev_var ev_var) rfl) (ev_one (ev_cmp (og_eq hr.r.units) (ev_reprQ fx.k_sys hr rfl fx.m_repr (ev_lst (ea_cons ev_var (ea_cons ev_var ea_nil)))) ev_var rfl)))))))))))
theorem ok_law {P : Program} {w : World} {K : PySem.W.Frag} {mg : Str → Option Value} {base : Heap} (fx : Fx K mg) : OkF P w K mg base "law" ["_law_script"] 5 d_law :=
  okF_N (fx.c.def_ 9 (d := a_law) rfl) fx.g_law sc_law (fun _ _ _ _ _ _ us hl => match us, hl with | [_], _ => rfl) fun cdv A outer s H E hr tk hp =>
  (sv_cons (sv_asg sc_law.nd rfl (by first | exact Or.inl rfl | exact Or.inr rfl) (ev_fnO (ok_aopen fx) hr rfl tk (ea_cons ev_var ea_nil)))
    (sv_cons (sv_for hp rfl (iv_rng1 rfl fx.m_range ev_int) (gv_nm sc_law.nd rfl (by first | exact Or.inl rfl | exact Or.inr rfl)) (sv_cons (sv_asg sc_law.nd rfl (by first | exact Or.inl rfl | exact Or.inr rfl) ev_dnew)
    (sv_cons (sv_for hp rfl (iv_rng1 rfl fx.m_range ev_int) (gv_nm sc_law.nd rfl (by first | exact Or.inl rfl | exact Or.inr rfl)) (sv_cons (sv_asg sc_law.nd rfl (by first | exact Or.inl rfl | exact Or.inr rfl) (ev_ix hr.r.units (ev_lst (ea_cons (ev_fnO (ok_adraw fx) hr rfl tk (ea_cons ev_var (ea_cons ev_int ea_nil))) (ea_cons ev_int (ea_cons ev_int (ea_cons (ev_fnO (ok_adraw fx) hr rfl tk (ea_cons ev_var (ea_cons (ev_op og_pow ev_int ev_int) ea_nil))) ea_nil))))) (ev_fnO (ok_adraw fx) hr rfl tk (ea_cons ev_var (ea_cons ev_int ea_nil)))))
    (sv_one (sv_setIx hr.r.units ev_var ev_var (ev_op og_mul ev_var (ev_ix hr.r.units (ev_lst (ea_cons ev_int (ea_cons ev_int (ea_cons (ev_op og_pow ev_int ev_int) ea_nil)))) (ev_op og_mod ev_var ev_int)))))))
    (sv_cons (sv_if (tv_cmp (og_eq hr.r.units) (ev_op og_mod ev_var ev_int) ev_int rfl) (sv_one (sv_asg sc_law.nd rfl (by first | exact Or.inl rfl | exact Or.inr rfl) (ev_dictM rfl rfl fx.m_dict (ev_rev (ev_itemsL rfl rfl fx.m_list ev_var))))) sv_nil)
    (sv_cons (sv_frz (sv_asg sc_law.nd rfl (by first | exact Or.inl rfl | exact Or.inr rfl) (ev_callB (cg_sorted rfl) rfl fx.m_sorted (by decide +kernel) (ea_cons ev_var ea_nil))))
    (sv_cons (sv_asg sc_law.nd rfl (by first | exact Or.inl rfl | exact Or.inr rfl) ev_dnew)
    (sv_cons (sv_for hp rfl (iv_rng1 rfl fx.m_range (ev_fnO (ok_adraw fx) hr rfl tk (ea_cons ev_var (ea_cons (ev_ix hr.r.units (ev_lst (ea_cons ev_int (ea_cons ev_int ea_nil))) (ev_op og_mod ev_var ev_int)) ea_nil)))) (gv_nm sc_law.nd rfl (by first | exact Or.inl rfl | exact Or.inr rfl)) (sv_cons (sv_setComp (own := [(("_law_piece" : Str), 4)]) rfl sc_law.nd rfl rfl (sw_true rfl rfl rfl (by decide +kernel)) (iv_seq ev_var) (blkOk_by (N := N_law) (sc := defScope s_law) (own := [(("_law_piece" : Str), 4)]) (by decide +kernel)) (fun _ _ _ _ _ => (gv_nm sc_law.nd rfl (by first | exact Or.inl rfl | exact Or.inr rfl))) (fun _ _ _ _ _ => (tvs_one (tv_cmp (og_eq hr.r.units) (ev_fnO (ok_adraw fx) hr rfl takes0 (ea_cons ev_var (ea_cons ev_int ea_nil))) ev_int rfl))) (fun _ _ _ _ _ => ev_var))
    (sv_cons (sv_if (tv_w (wv_and (tv_cmp (og_neE hr.r.units) ev_var ev_dnew rfl) (wv_and1 (tv_cmp (og_eq hr.r.units) (ev_fnO (ok_adraw fx) hr rfl tk (ea_cons ev_var (ea_cons ev_int ea_nil))) ev_int rfl)))) (sv_one (sv_asg sc_law.nd rfl (by first | exact Or.inl rfl | exact Or.inr rfl) (ev_callTy cg_list rfl fx.m_list (by decide +kernel) (ea_cons (ev_ix hr.r.units ev_var (ev_ix hr.r.units (ev_callB (cg_sorted rfl) rfl fx.m_sorted (by decide +kernel) (ea_cons ev_var ea_nil)) ev_int)) ea_nil)))) sv_nil)
    (sv_one (sv_setIx hr.r.units (ev_callTy cg_tuple rfl fx.m_tuple (by decide +kernel) (ea_cons ev_var ea_nil)) ev_var (ev_fnO (ok_adraw fx) hr rfl tk (ea_cons ev_var (ea_cons (ev_op og_pow ev_int ev_int) ea_nil))))))))
    (sv_cons (sv_frz (sv_if (tv_not (tv_val (ev_fnO (ok_right fx) hr rfl tk (ea_cons ev_var (ea_cons ev_var ea_nil))))) (sv_one (sv_ret ev_bl)) sv_nil))
    (sv_cons (sv_asg sc_law.nd rfl (by first | exact Or.inl rfl | exact Or.inr rfl) (ev_fnO (ok_shared fx) hr rfl tk (ea_cons ev_var (ea_cons ev_var ea_nil))))
    (sv_cons (sv_for hp rfl (iv_seq (ev_callB (cg_sorted rfl) rfl fx.m_sorted (by decide +kernel) (ea_cons ev_var ea_nil))) (gv_nm sc_law.nd rfl (by first | exact Or.inl rfl | exact Or.inr rfl)) (sv_one (sv_for hp rfl (iv_seq (ev_callB (cg_sorted rfl) rfl fx.m_sorted (by decide +kernel) (ea_cons ev_var ea_nil))) (gv_nm sc_law.nd rfl (by first | exact Or.inl rfl | exact Or.inr rfl)) (sv_one (sv_if (tv_w (wv_and (tv_cmp (og_eq hr.r.units) (ev_ix hr.r.units ev_var ev_var) (ev_ix hr.r.units ev_var ev_var) rfl) (wv_and1 (tv_cmp (og_ne hr.r.units) (ev_ix hr.r.units ev_var ev_var) (ev_ix hr.r.units ev_var ev_var) rfl)))) (sv_one (sv_ret ev_bl)) sv_nil)))))
    (sv_one (sv_for hp rfl (iv_seq (ev_sl (ev_callB (cg_sorted rfl) rfl fx.m_sorted (by decide +kernel) (ea_cons ev_var ea_nil)) pv_none (pv_some ev_int))) (gv_nm sc_law.nd rfl (by first | exact Or.inl rfl | exact Or.inr rfl)) (sv_cons (sv_asg sc_law.nd rfl (by first | exact Or.inl rfl | exact Or.inr rfl) (ev_dictM rfl rfl fx.m_dict (ev_comp (own := [(("_law_other" : Str), 12)]) rfl sc_law.nd (iv_seq ev_var) (blkOk_by (N := N_law) (sc := defScope s_law) (own := [(("_law_other" : Str), 12)]) (by decide +kernel)) (fun _ _ _ _ _ => (gv_nm sc_law.nd rfl (by first | exact Or.inl rfl | exact Or.inr rfl))) (fun _ _ _ _ _ => (tvs_one (tv_cmp (og_ne hr.r.units) ev_var ev_var rfl))) (fun _ _ _ _ _ => (ev_tup (ea_cons ev_var (ea_cons (ev_ix hr.r.units ev_var ev_var) ea_nil)))))))
    (sv_cons (sv_frz (sv_asg sc_law.nd rfl (by first | exact Or.inl rfl | exact Or.inr rfl) (ev_fnO (ok_shared fx) hr rfl tk (ea_cons ev_var (ea_cons ev_var ea_nil)))))
    (sv_one (sv_for hp rfl (iv_seq ev_var) (gv_nm sc_law.nd rfl (by first | exact Or.inl rfl | exact Or.inr rfl)) (sv_cons (sv_par rfl sc_law.nd rfl rfl (by decide) rfl rfl (ea_cons (ev_ix hr.r.units ev_var ev_var) (ea_cons (ev_ix hr.r.units ev_var ev_var) ea_nil)))
    (sv_one (sv_if (tv_cmp og_lt (ev_op og_mul (ev_ix hr.r.units ev_var ev_int) (ev_ix hr.r.units ev_var ev_int)) (ev_op og_mul (ev_ix hr.r.units ev_var ev_int) (ev_ix hr.r.units ev_var ev_int)) rfl) (sv_one (sv_ret ev_bl)) sv_nil)))))))))))))))))))
    (sv_one (sv_ret (ev_and (ev_cmp (og_eqK hr.r.units) (ev_fnO (ok_shared fx) hr rfl tk (ea_cons (ev_frzE ev_dnew) (ea_cons (ev_frzE ev_dnew) ea_nil))) ev_dnew rfl) (ev_one (ev_cmp (og_eqK hr.r.units) (ev_fnO (ok_shared fx) hr rfl tk (ea_cons (ev_frzE (ev_disp (dps_cons ev_int (ev_tup ea_nil) dps_nil))) (ea_cons (ev_frzE (ev_disp (dps_cons ev_int ev_int dps_nil))) ea_nil))) (ev_disp (dps_cons ev_int (ev_tup (ea_cons ev_int (ea_cons ev_int ea_nil))) dps_nil)) rfl)))))))
abbrev R : PySem.W.OpenRow := PySem.W.OpenLaw.row PySem.Challenge.rw_saltvault_k48_shares
abbrev hk : PySem.W.Hook := hookY 4 fa fn ex
def ob (s : PySem.W.SharedT) : AlY := obsY 4 fa fn ex (HandSHeadRun.getT s)
theorem ob_eq (s : PySem.W.SharedT) : ob s = hk.obs s.abs := obsY_eq (HandSHeadRun.getT_eq s)
theorem run (w : World) : HandSHeadRun.RunEq R (PySem.W.view R.prog [11]) hk ob 6000 [("lowest" : PySem.Str), ("together" : PySem.Str), ("shared" : PySem.Str), ("_law_amixed" : PySem.Str), ("_law_aopen" : PySem.Str), ("_law_adraw" : PySem.Str), ("_law_due" : PySem.Str), ("_law_is_lowest" : PySem.Str), ("_law_right" : PySem.Str)] w := by
  intro os
  kernel_rfl
end C48
open PySem PySem.W PySem.Calls PyProof.Rows
theorem C48.holds (hlaw : ∀ ns : List Int, ns.length ≤ 63 → ∃ S, C48.d_law [.scr ns] [] = .ok (.bl true) S) : PySem.Challenge.rw_saltvault_k48_shares.Holds := by
  w_on; o_law
  refine HandSHeadRun.head_any (r := OpenLaw.row PySem.Challenge.rw_saltvault_k48_shares) (q := view (OpenLaw.row PySem.Challenge.rw_saltvault_k48_shares).prog [11]) (H := C48.hk) (ob := C48.ob) (M := 6000) (loose := [("lowest" : PySem.Str), ("together" : PySem.Str), ("shared" : PySem.Str), ("_law_amixed" : PySem.Str), ("_law_aopen" : PySem.Str), ("_law_adraw" : PySem.Str), ("_law_due" : PySem.Str), ("_law_is_lowest" : PySem.Str), ("_law_right" : PySem.Str)]) (d := HandSHeadRun.topDef (OpenLaw.row PySem.Challenge.rw_saltvault_k48_shares).prog 11) (kwd := []) C48.ob_eq
    (by kernel_rfl) (fun s => by kernel_rfl) C48.run (by kernel_rfl) (by kernel_rfl) (by kernel_rfl) (by rfl) (by first | assumption | decide +kernel) (by decide +kernel) ⟨rfl, rfl, rfl, rfl, rfl, by decide +kernel⟩ ?hw ?hc
  case hw => w_witness2
  case hc =>
    refine DL.walk_ofG (l := PySem.Challenge.rw_saltvault_k48_shares) (n := 63) (k := 5) (x := "_law_script") (CX := fun w => L2.CX (PySem.Challenge.rw_saltvault_k48_shares).prog w) rfl (by decide) (by kernel_rfl) ⟨⟨rfl, by decide, by decide⟩, rfl⟩ ?F (fun w H s e s' z => DL.cx_none H s e s' z)
    intro w mg fa h Y G hmg0
    obtain ⟨K, KX, c, e0⟩ := Y
    have fx : C48.Fx K mg := ⟨c, ⟨h, KX, G⟩, e0⟩
    have hmg : mg ("law" : PySem.Str) = some (.ref fa) := by
      have e : (HandSHeadRun.topDef (OpenLaw.row PySem.Challenge.rw_saltvault_k48_shares).prog 11).name = ("law" : PySem.Str) := by kernel_rfl
      rw [← e]
      exact hmg0
    have e := hmg.symm.trans fx.g_law
    cases e
    obtain ⟨fd, F⟩ := fx.c.def_ 9 (d := C48.a_law) rfl
    have b := L2.FunD.bindsA (ps := ["_law_script"]) F fun _ _ _ _ _ _ us hl => match us, hl with | [_], _ => rfl
    exact ⟨K, fd, DL.spD K mg 1 C48.d_law, KX, fun s v => b s [v] rfl, fun H a ns hl hO hS => DL.sp_law hlaw H a ns hl hO hS, fun base _ _ => DL.OkF.at_ (C48.ok_law fx) F⟩

theorem PySem.Challenge.cw_saltvault_k48_shares_holds : PySem.Challenge.rw_saltvault_k48_shares.Holds := by
  exact C48.holds C48.law_ok
